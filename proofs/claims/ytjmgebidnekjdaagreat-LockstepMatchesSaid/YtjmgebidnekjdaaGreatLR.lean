import Derived.Maps.RangeRun
import Derived.ProofKit
import Derived.LaidMore
import Derived.OpenShut
import Derived.Stop.Joined
import Derived.ChangeSame
import Derived.Carry
import Derived.RangeFuncLeaves
import Derived.RangeFuncRecord
import Derived.RangeFuncIn
import Derived.Test.YtjmgebidnekjdaaGreatLB
set_option linter.all false
namespace Go.Sx
open Go.MapKept
variable {P:Program} {C:Cx}
def Xbt {R:AW} {Q:St->Prop} {k2:List It} (hQ:∀ st a w,Rel P C st a w->Q st->sem P C R k2 none a w):∀ (k1:List Code) (e:Option Nat) (a:Act) (w:World),sem P C R (k1.map It.code++[.stop Q]) e a w->sem P C R (k1.map It.code++k2) e a w
 | [],none,a,w,h=>by
  obtain ⟨st,hr,hq⟩:=h
  exact hQ st a w hr hq
 | [],some i,a,w,h=>h.elim
 | c::k1,none,a,w,h=>by
  refine wpIn_mono h ?_
  intro e a' w' hq
  cases e with
  | normal=>exact Xbt hQ k1 none a' w' hq
  | exit i=>exact Xbt hQ k1 (some i) a' w' hq
  | _=>exact hq
 | _::k1,some i,a,w,h=>Xbt hQ k1 (some i) a w h
def Xb0:Nat->Code->List Code
 | n+1,.seq x y=>x::Xb0 n y
 | _,c=>[c]
def Jz {R:AW} {k:List It}:∀ (n:Nat) (c:Code) (e:Option Nat) (a:Act) (w:World),sem P C R ((Xb0 n c).map It.code++k) e a w->sem P C R (.code c::k) e a w
 | 0,c,e,a,w,h=>by cases c<;>exact h
 | n+1,.seq x y,none,a,w,h=>by
  refine wpIn_seq (wpIn_mono h ?_)
  intro e a' w' hq
  cases e with
  | normal=>exact Jz n y none a' w' hq
  | exit i=>exact Jz n y (some i) a' w' hq
  | _=>exact hq
 | n+1,.seq x y,some i,a,w,h=>Jz n y (some i) a w h
 | n+1,.region _ _ _,e,a,w,h=>h
 | n+1,.skip,e,a,w,h=>h
 | n+1,.cond _ _ _,e,a,w,h=>h
 | n+1,.block _ _,e,a,w,h=>h
 | n+1,.loop _,e,a,w,h=>h
 | n+1,.rangeFunc ..,e,a,w,h=>h
 | n+1,.exit _,e,a,w,h=>h
 | n+1,.scope _,e,a,w,h=>h
 | n+1,.label _,e,a,w,h=>h
 | n+1,.goto _,e,a,w,h=>h
 | n+1,.ret,e,a,w,h=>h
 | n+1,.refuse _,e,a,w,h=>h
def Xnw (w w':World):Prop:=(∀ k,k<w.heap.size->w'.heap[k]? = w.heap[k]?)/\w.heap.size<=w'.heap.size/\w'.os=w.os/\w'.tape=w.tape/\w'.output=w.output
def Rel.same {st:St} {a a':Act} {w w':World} (hr:Rel P C st a w) (hw:Xnw w w') (hd:a'.defers=C.df) (hs:a'.tmps.size=a.tmps.size) {t':Nat->D}
 (ht:∀ M β,(∀ x,Rep P M β (st.t x) (a.tmps.getD x undef))->∀ x,Rep P M β (t' x) (a'.tmps.getD x undef)):Rel P C ⟨t',st.s,st.n,st.k⟩ a' w':=by
 obtain ⟨h1,h2,M,β,h0,h3,I⟩:=hr
 obtain ⟨g1,g2,g3,g4,g5⟩:=hw
 refine ⟨hd,hs.trans h2,M,β,h0,ht M β h3,?_⟩
 have hlt:∀ b o x,M b o=some x->b<w.heap.size:=λ b o x hx=>I.mem.lt hx
 constructor
 ·intro b o x hx
  have:=I.mem b o x hx
  refine ⟨?_,this.2⟩
  rw[← this.1]
  simp[World.cell?,g1 b (hlt b o x hx)]
 ·exact I.used
 ·intro id v ob hs
  obtain ⟨x,hx,ho⟩:=I.obs id v ob hs
  refine ⟨x,hx,ho.mono (MLe.refl _) (BLe.refl _) ?_ (λ _ _ _ _=>rfl)⟩
  rintro b cb rfl
  exact g1 b ho.lt
 ·exact I.own
 ·exact I.inj
 ·exact ⟨g3.trans I.keep.os,g4.trans I.keep.tape,g5.trans I.keep.output,UB I.keep.size g2,λ k hk hl=>by rw[g1 k (Nat.lt_of_lt_of_le hk I.keep.size)];exact I.keep.block k hk hl⟩
 ·exact I.old
 ·exact I.le
 ·exact I.glob
open Go.RowKit Go.WideShapes Go.ChangeShapes
variable {P:Program}
def Ke (w:World):Mem:=λ b o=>match w.cell? ⟨b,o,none⟩ with
 | some x=>bif x.oneCell' then some x else none
 | none=>none
def XiS (w:World):MemOK (Ke w) w:=by
 intro b o x h
 unfold Ke at h
 split at h
 ·rename_i y hy
  cases hone:y.oneCell'
  ·rw[hone] at h;cases h
  ·rw[hone] at h
   simp only[We,Wc] at h
   subst h
   exact ⟨hy,hone⟩
 ·cases h
def XiT {w:World} {b o:Nat} {x:Value} (h:w.cell? ⟨b,o,none⟩=some x) (h1:x.oneCell'=true):Ke w b o=some x:=by
 unfold Ke;rw[h];simp[h1]
def ShF (sh:TypeId->List D->Prop):List TypeId->List D->Prop
 | [],ds=>ds=[]
 | f::fs,ds=>∃ a b,ds=a++b/\sh f a/\ShF sh fs b
def Sh (P:Program):Nat->TypeId->List D->Prop
 | 0,_,_=>False
 | m+1,t,ds=>match P.underlying t with
  | some .bool=>∃ b,ds=[.v (.bool b)]
  | some (.int k)=>∃ n,ds=[.v (.int k n)]/\k.min<=n/\n<=k.max
  | some (.slice e)=>∃ es,ds=[.isl e (P.cellsOf e) es]/\es.length<=Xn/\es.length*P.bytesOf e<=Xn/\∀ x∈es,Sh P m e x
  | some (.struct fs)=>ShF (Sh P m) (fs.toList.map (·.type)) ds
  | _=>False
def J1 (P:Program):Nat->List Field->Option Nat
 | n,[]=>some n
 | n,f::fs=>if f.offset=n then J1 P (n+P.cellsOf f.type) fs else none
def okS (P:Program):Nat->TypeId->Bool
 | 0,_=>false
 | m+1,t=>match P.underlying t with
  | some .bool=>true
  | some (.int _)=>true
  | some (.slice e)=>decide (0<P.cellsOf e)&&decide (0<P.bytesOf e)&&okS P m e
  | some (.struct fs)=>(J1 P 0 fs.toList==some (P.cellsOf t))&&fs.toList.all λ f=>okS P m f.type
  | _=>false
def Xhx {sh:TypeId->List D->Prop} (h:∀ t ds,sh t ds->∀ d∈ds,d.one=true):∀ (fs:List TypeId) (ds:List D),ShF sh fs ds->∀ d∈ds,d.one=true
 | [],ds,hs,d,hd=>by simp only[ShF] at hs;subst hs;cases hd
 | f::fs,ds,hs,d,hd=>by
  simp only[ShF] at hs
  obtain ⟨a,b,rfl,h1,h2⟩:=hs
  rcases WK.1 hd with hd | hd
  ·exact h _ _ h1 d hd
  ·exact Xhx h fs b h2 d hd
def XkJ:∀ (m:Nat) (t:TypeId) (ds:List D),Sh P m t ds->∀ d∈ds,d.one=true
 | 0,_,_,h=>by simp[Sh] at h
 | m+1,t,ds,h=>by
  unfold Sh at h
  split at h
  ·obtain ⟨b,rfl⟩:=h;intro d hd;simp at hd;subst hd;rfl
  ·obtain ⟨n,rfl,_⟩:=h;intro d hd;simp at hd;subst hd;rfl
  ·obtain ⟨es,rfl,_⟩:=h;intro d hd;simp at hd;subst hd;rfl
  ·exact Xhx (XkJ m) _ _ h
  ·exact h.elim
def Xda {α β:Type} {g:α->Option β}:∀ {l:List α} {xs:List β},l.mapM g=some xs->xs.length=l.length/\∀ (i:Nat) y,l[i]? = some y->∃ x,g y=some x/\xs[i]? = some x
 | [],xs,h=>by simp at h;subst h;simp
 | y::l,xs,h=>by
  simp only[List.mapM_cons,Option.bind_eq_bind,Option.bind_eq_some_iff,Option.pure_def,Wc] at h
  obtain ⟨x,hx,xs',hxs,rfl⟩:=h
  obtain ⟨h1,h2⟩:=Xda hxs
  refine ⟨by simp[h1],λ i z hz=>?_⟩
  cases i with
  | zero=>simp at hz;subst hz;exact ⟨x,hx,by simp⟩
  | succ i=>simpa using h2 i z (by simpa using hz)
def Xhy {α:Type} {p:Nat->α->Prop}:∀ (n:Nat),(∀ i,i<n->∃ x,p i x)->∃ l:List α,l.length=n/\∀ (i:Nat) x,l[i]? = some x->p i x
 | 0,_=>⟨[],rfl,λ i x h=>by simp at h⟩
 | n+1,h=>by
  obtain ⟨l,h1,h2⟩:=Xhy n λ i hi=>h i (by omega)
  obtain ⟨x,hx⟩:=h n (by omega)
  refine ⟨l++[x],by simp[h1],λ i y hy=>?_⟩
  rw[UN] at hy
  split at hy
  ·exact h2 i y hy
  ·rename_i hge
   have hi:i=n:=by
    rcases Uw n i with h' | h'
    ·rw[WZ (by simp;omega)] at hy;cases hy
    ·omega
   subst hi
   simp[h1] at hy
   subst hy;exact hx
def XgD {w:World} {base n:Nat} {a:Addr} {vs:List Value} (h:w.cells? base a n=some vs):vs.length=n/\∀ j,j<n->∃ x,w.cell? (a.add j)=some x/\vs[j]? = some x:=by
 unfold World.cells? at h
 split at h
 ·obtain ⟨h1,h2⟩:=Xda h
  refine ⟨by simpa using h1,λ j hj=>h2 j j (by simp[hj])⟩
 ·cases h
def XiU {w:World} {a:Addr} {x:Value} (h:w.cell? a=some x):a=⟨a.block,a.off,none⟩:=by
 obtain ⟨b,o,s⟩:=a
 cases s with
 | none=>rfl
 | some s =>
  unfold World.cell? at h
  simp only at h
  split at h
  ·simp at h
  ·cases h
variable {H:Type} {enc:TypeId×Value->H}
def XpJ {k:IntKind} {n:Int} (h:(Lit.int k n).wf=true):k.min<=n/\n<=k.max:=by
 simpa [Lit.wf] using h
def Xb1 {w:World} {base:Nat} {spare:Nat->Bool} {held:Bool}:∀ (m:Nat) (t:TypeId),okS P m t=true->∀ (fuel:Nat) (cs:List Value) (d:DataW H) (ps:List MemPlace),
 DataW.trod enc P w base spare held fuel t cs=some (d,ps)->(∀ x∈d.weights P t,x<=reachBytes)->∃ ds,Sh P m t ds/\RepL P (Ke w) Yj ds cs
 | 0,t,ho,_,_,_,_,_,_=>by simp[okS] at ho
 | m+1,t,ho,0,cs,d,ps,h,_=>by simp[DataW.trod] at h
 | m+1,t,ho,fuel+1,cs,d,ps,h,hw=>by
  unfold okS at ho
  split at ho
  ·
   rename_i hu
   obtain ⟨b,rfl,_⟩:=DataW.trod_bool hu h
   exact ⟨[.v (.bool b)],by simp[Sh,hu],by simp[RepL,Rep,wfV]⟩
  ·
   rename_i k hu
   obtain ⟨n,rfl,_,hn⟩:=DataW.trod_int hu h
   have hn:=XpJ hn
   exact ⟨[.v (.int k n)],by simp only[Sh,hu];exact ⟨n,rfl,hn⟩,by simp[RepL,Rep,wfV,hn]⟩
  ·
   rename_i e hu
   simp only[Ww,decide_eq_true_eq] at ho
   obtain ⟨⟨hz,hby⟩,ho⟩:=ho
   rcases DataW.trod_slice hu h with ⟨rfl,_⟩ | ⟨a,len,cap,elems,rest,n,hn,rfl,hd,hb,hlc,hcm,l1,l2,_,_⟩
   ·refine ⟨[.isl e (P.cellsOf e) []],by simp[Sh,hu],?_⟩
    simp only[RepL,Rep]
    exact ⟨_,_,rfl,⟨by simp,by simp,by simp,none,0,rfl,Ui _,.inl trivial⟩,rfl⟩
   ·obtain rfl:fuel=n:=by omega
    simp only[Wi] at hd
    obtain ⟨rfl,_⟩:=hd
    simp only[DataW.weights,hu,W0,UQ,WK,forall_eq_or_imp] at hw
    obtain ⟨hw1,hw2⟩:=hw
    have hbytes:len*P.bytesOf e<=reachBytes:=by
     refine UB (W8 _ ?_) hw1
     omega
    have hreach:reachBytes<=Xn:=by decide
    have hlen47:len<=Xn:=UB (Nat.le_mul_of_pos_right _ hby) (UB hbytes hreach)
    have key:∀ i,i<len->∃ ds vs,Sh P m e ds/\RepL P (Ke w) Yj ds vs/\vs.length=P.cellsOf e/\∀ j,j<P.cellsOf e->∃ x,w.cell? ((a.add (i*P.cellsOf e)).add j)=some x/\vs[j]? = some x:=by
     intro i hi
     have hx:=l2 i hi
     rw[Wb (by omega)] at hx
     obtain ⟨vs,hvs,hx⟩:=Option.bind_eq_some_iff.1 hx
     obtain ⟨c1,c2⟩:=XgD hvs
     have hwx:∀ y∈(elems[i]).1.weights P e,y<=reachBytes:=by
      intro y hy
      refine hw2 y (.inl ?_)
      have hmem:(elems[i]).1∈elems.map (·.1):=UH.2 ⟨_,WW _,rfl⟩
      generalize elems.map (·.1)=L at hmem
      induction L with
      | nil=>cases hmem
      | cons z L ih =>
       simp only[DataW.weightsAll,WK]
       rcases UQ.1 hmem with rfl | hmem
       ·exact .inl hy
       ·exact .inr (ih hmem)
     obtain ⟨ds,s1,s2⟩:=Xb1 m e ho fuel vs _ _ hx hwx
     exact ⟨ds,vs,s1,s2,c1,c2⟩
    rcases Uq len with rfl | hpos
    ·refine ⟨[.isl e (P.cellsOf e) []],by simp[Sh,hu],?_⟩
     simp only[RepL,Rep]
     exact ⟨_,_,rfl,⟨by simp,by simp,by simp,some a,cap,rfl,Un _,.inl trivial⟩,rfl⟩
    ·have hplain:a=⟨a.block,a.off,none⟩:=by
      obtain ⟨_,_,_,_,_,c2⟩:=key 0 hpos
      obtain ⟨x,hx,_⟩:=c2 0 hz
      simp only[Nat.zero_mul,Addr.add,if_true] at hx
      exact XiU hx
     obtain ⟨b,o,s⟩:=a
     simp only[Addr.mk.injEq,true_and] at hplain
     subst hplain
     obtain ⟨es,e1,e2⟩:=Xhy (α:=List D) (p:=λ i ds=>∃ vs,Sh P m e ds/\RepL P (Ke w) Yj ds vs/\vs.length=P.cellsOf e/\∀ j,j<P.cellsOf e->∃ x,w.cell? (((⟨b,o,none⟩:Addr).add (i*P.cellsOf e)).add j)=some x/\vs[j]? = some x) len (λ i hi=>by
      obtain ⟨ds,vs,h⟩:=key i hi;exact ⟨ds,vs,h⟩)
     have elen:∀ x∈es,x.length=P.cellsOf e:=by
      intro x hx
      obtain ⟨i,hi,rfl⟩:=WU hx
      obtain ⟨vs,_,h2,h3,_⟩:=e2 i es[i] (by simp)
      rw[← h2.length,h3]
     refine ⟨[.isl e (P.cellsOf e) es],?_,?_⟩
     ·simp only[Sh,hu]
      refine ⟨es,rfl,by omega,by rw[e1];omega,λ x hx=>?_⟩
      obtain ⟨i,hi,rfl⟩:=WU hx
      exact (e2 i es[i] (by simp)).choose_spec.1
     ·simp only[RepL,Rep]
      refine ⟨_,_,rfl,⟨elen,by omega,by rw[e1];omega,some ⟨b,o,none⟩,cap,by rw[e1],by omega,.inr ⟨b,o,rfl,?_⟩⟩,rfl⟩
      refine RepE.of (z:=P.cellsOf e) elen λ i x hx=>?_
      obtain ⟨vs,h1,h2,h3,h4⟩:=e2 i x hx
      refine RepC.of λ j dd hdd=>?_
      obtain ⟨y,hy,hr⟩:=h2.get j dd hdd
      have hj:j<P.cellsOf e:=by
       rcases Uw j vs.length with h' | h'
       ·omega
       ·rw[WZ h'] at hy;cases hy
      obtain ⟨y',hy1,hy2⟩:=h4 j hj
      rw[hy] at hy2
      obtain rfl:y=y':=by simpa using hy2
      refine ⟨y,XiT ?_ (XbO (XkJ m e x h1 dd (Ua hdd)) hr).1,hr⟩
      rw[U9,U9] at hy1
      exact hy1
  ·
   rename_i fs hu
   simp only[Ww,beq_iff_eq,W3] at ho
   obtain ⟨hcon,hall⟩:=ho
   obtain ⟨xs,n,hn,hd,hlen,hxl,hxs⟩:=DataW.trod_struct hu h
   obtain rfl:fuel=n:=by omega
   simp only[Wi] at hd
   obtain ⟨rfl,_⟩:=hd
   have hw':∀ x∈DataW.weightsEach P (fs.toList.map (·.type)) (xs.map (·.1)),x<=reachBytes:=by
    simpa only[DataW.weights,hu] using hw
   have mono:∀ (l:List Field) n k,J1 P n l=some k->n<=k:=by
    intro l
    induction l with
    | nil=>intro n k h;simp only[J1,Wc] at h;omega
    | cons g l ih =>
     intro n k h
     simp only[J1] at h
     split at h
     ·have:=ih _ _ h;omega
     ·cases h
   have main:∀ (l:List Field) (off:Nat) (xs:List (DataW H×List MemPlace)),J1 P off l=some (P.cellsOf t)->(∀ f∈l,okS P m f.type=true)->xs.length=l.length ->
    (∀ (i:Nat) (f:Field),l[i]? = some f->DataW.trod enc P w base spare held fuel f.type ((cs.drop f.offset).take (P.cellsOf f.type))=xs[i]?)->(∀ x∈DataW.weightsEach P (l.map (·.type)) (xs.map (·.1)),x<=reachBytes) ->
    ∃ ds,ShF (Sh P m) (l.map (·.type)) ds/\RepL P (Ke w) Yj ds (cs.drop off):=by
    intro l
    induction l with
    | nil =>
     intro off xs hc _ _ _ _
     simp only[J1,Wc] at hc
     refine ⟨[],rfl,?_⟩
     rw[WL (by omega)]
     simp[RepL]
    | cons f l ih =>
     intro off xs hc hok hxl hx hwt
     simp only[J1] at hc
     split at hc
     ·rename_i hoff
      match xs,hxl with
      | x::xs',hxl =>
       simp only[WX,DataW.weightsEach,WK] at hwt
       have hle2:=mono _ _ _ hc
       have hx1:=hx 0 f (by simp)
       simp only[List.getElem?_cons_zero] at hx1
       obtain ⟨ds1,s1,r1⟩:=Xb1 m f.type (hok f (by simp)) fuel _ x.1 x.2 hx1 (λ y hy=>hwt y (.inl hy))
       obtain ⟨ds2,s2,r2⟩:=ih (off+P.cellsOf f.type) xs' hc (λ g hg=>hok g (W4 _ hg)) (by simpa using hxl) (λ i g hg=>by simpa using hx (i+1) g (by simpa using hg)) (λ y hy=>hwt y (.inr hy))
       refine ⟨ds1++ds2,⟨ds1,ds2,rfl,s1,s2⟩,?_⟩
       have hsp:cs.drop off=(cs.drop f.offset).take (P.cellsOf f.type)++cs.drop (off+P.cellsOf f.type):=by
        rw[hoff,← List.drop_drop,I7]
       rw[hsp]
       exact r1.append r2
     ·cases hc
   obtain ⟨ds,s,r⟩:=main fs.toList 0 xs hcon hall (by simpa using hxl) (λ i f hf=>hxs i f (by simpa using hf)) hw'
   exact ⟨ds,by simp only[Sh,hu];exact s,by simpa using r⟩
  ·cases ho
open Go.RowKit Go.WideShapes Go.ChangeShapes
variable {P:Program}
def XkK:Kc []=Yj:=by
 funext i v
 simp[Kc,Yj]
def Xqz {G:Nat->Option (List D)} {f:FuncId} {args:List D} (hA:YY P G f args [] (Eqs (.v (.bool true)) [])) {W:World} {vs:List Value} (hG:∀ g cs,G g=some cs->RepC P (Ke W) cs g 0)
 (hargs:RepL P (Ke W) Yj args vs):Calls P f ⟨vs⟩ W λ e W'=>e=.returned (.bool true)/\Below W.heap.size W W':=by
 refine (hA.2 (Ke W) W vs [] (XiS W) hG rfl Oa (λ k ob x h=>by simp at h) (by rw[XkK];exact hargs)).mono ?_
 rintro e W' ⟨v,r,ls,M',l,rfl,⟨rfl,rfl⟩,hK,_,_,_,_,hfr,_⟩
 simp only[FrRep,Rep] at hfr
 obtain ⟨_,rfl,_⟩:=hfr
 exact ⟨rfl,hK.os,hK.tape,hK.output,hK.size,λ k hk=>hK.block k hk (by simp)⟩
section
variable {H:Type} {enc:TypeId×Value->H}
def XcX {f:Func} {s:ChangeSpec} {apart fresh handsOn again:Bool} {W W':World} {args:Array Value} {v:Value} {ds gs:List (DataW H)} {before pa pv:List MemPlace}
 (hW:DataW.Whole enc P f.params.toList s.vars apart W args.toList ds gs before)
 (hres:∀ (b:Nat) (sp:Nat->Bool) (hd:Bool),DataW.TrodAll enc P W' b sp hd f.resultTypes.toList (v.resultList f.resultTypes.size) (s.fn H (ds++gs)).results [])
 (hargs:∀ sp:Nat->Bool,(∀ p∈before,sp p.block=true)->DataW.TrodAll enc P W' 0 sp true f.params.toList args.toList (s.fn H (ds++gs)).args pa)
 (hvars:∀ sp:Nat->Bool,(∀ p∈before,sp p.block=true)->DataW.TrodVars enc P W' sp s.vars (s.fn H (ds++gs)).vars pv)
 (hps:before=pa++pv) (hb:Below W.heap.size W W')
 (hok:∀ (j:Nat) (t:TypeId) (r:Value),f.resultTypes[j]? = some t->(v.resultList f.resultTypes.size)[j]? = some r->Value.okWide P W' .any 0 t r) :
 s.post enc P f apart fresh handsOn again W args v W':=by
 have hlt:∀ p∈before,p.block<W.heap.size:=λ p hp=>hW.lt p hp
 have hold:∀ p∈before,(λ b=>decide (b<W.heap.size)) p.block=true:=λ p hp=>by simpa using hlt p hp
 refine ⟨ds,gs,before,[],pa,pv,hW,hres _ _ _,hargs _ hold,hvars _ hold,World.keptBut_mono (λ p hp=>⟨hp,?_⟩) (hb.frame (·∈before)),λ _=>?_⟩
 ·rw[hps,WK] at hp
  exact Or.inr hp
 ·obtain ⟨_,_,_,_,_,hz,hn⟩:=hW
  refine ⟨hok,_,_,([]++pa)++pv,⟨[]++pa,pv,trodAll_append (hargs _ (λ _ _=>rfl)) (hres _ _ _),hvars _ (λ _ _=>rfl),rfl,?_,?_⟩,?_⟩
  ·intro b off hp
   have hin:MemPlace.cell b off∈before:=by rw[hps];simpa using hp
   rw[hb.frozen (hlt _ hin)]
   exact hz b off hin
  ·intro ha
   have:=hn ha
   rw[hps] at this
   simpa using this
  ·intro p hp _
   rw[hps]
   simpa using hp
def VD {W W':World} (hl:laidOutB P=true) {sp:Nat->Bool} (hb:Below W.heap.size W W'):∀ {ts:List TypeId} {vs:List Value} {ds:List (DataW H)} {ps:List MemPlace},(∀ t∈ts,P.readableRec t=true/\t<P.types.size) ->
 DataW.TrodAll enc P W 0 (λ _=>true) true ts vs ds ps->(∀ x∈ps,x.block<W.heap.size)->(∀ x∈ps,sp x.block=true)->DataW.TrodAll enc P W' 0 sp true ts vs ds ps
 | [],[],[],ps,_,h,_,_=>h
 | [],[],_::_,_,_,h,_,_=>h.elim
 | [],_::_,_,_,_,h,_,_=>h.elim
 | _::_,[],_,_,_,h,_,_=>h.elim
 | _::_,_::_,[],_,_,h,_,_=>h.elim
 | t::ts,v::vs,d::ds,ps,hr,h,hlt,hsp=>by
  obtain ⟨p,q,h1,h2,rfl⟩:=h
  obtain ⟨r1,r2⟩:=hr t (by simp)
  exact ⟨p,q,WideElems.Trod_stays hl r1 r2 h1 (λ x hx=>hb.same (hlt x (Uo _ hx))) (λ x hx=>hsp x (Uo _ hx)),
   VD hl hb (λ t ht=>hr t (W4 _ ht)) h2 (λ x hx=>hlt x (Ur _ hx)) (λ x hx=>hsp x (Ur _ hx)),rfl⟩
def Xq0 {fn:Func} {s:ChangeSpec} {apart fresh handsOn again:Bool} {W W':World} {args:Array Value} {ds gs:List (DataW H)} {before:List MemPlace} {tb:TypeId} (hv:s.vars=[]) (hres:fn.resultTypes=#[tb])
 (htb:P.underlying tb=some .bool) (hl:laidOutB P=true) (hr:∀ t∈fn.params.toList,P.readableRec t=true/\t<P.types.size)
 (hW:DataW.Whole enc P fn.params.toList s.vars apart W args.toList ds gs before) (hfn:s.fn H (ds++gs)={ results:=[.lit (.bool true)],args:=ds }) (hB:Below W.heap.size W W') :
 s.post enc P fn apart fresh handsOn again W args (.bool true) W':=by
 have hW2:=hW
 obtain ⟨p,q,h1,h2,rfl,hz,hn⟩:=hW
 rw[hv] at h2
 match gs,h2 with
 | [],h2 =>
  simp only[DataW.TrodVars] at h2
  subst h2
  have hlt:∀ x∈p++[],x.block<W.heap.size:=λ x hx=>hW2.lt x hx
  refine XcX (pa:=p) (pv:=[]) hW2 ?_ (λ sp hsp=>?_) (λ sp _=>?_) rfl hB ?_
  ·intro b sp hd
   rw[hres,hfn]
   exact trodAll_mk1 (shut_bool htb _)
  ·rw[hfn]
   exact VD hl hB hr h1 (λ x hx=>hlt x (by simpa using hx)) (λ x hx=>hsp x (by simpa using hx))
  ·rw[hv,hfn];rfl
  ·exact ok_one hres rfl (okWide_bool_mk htb _)
end
def Xfj {H:Type} {enc:TypeId×Value->H} {W:World}:∀ {ts:List TypeId} {vs:List Value} {ds:List (DataW H)} {ps:List MemPlace},DataW.TrodAll enc P W 0 (λ _=>true) true ts vs ds ps->ds.length=ts.length
 | [],[],[],ps,_=>rfl
 | [],[],_::_,_,h=>h.elim
 | [],_::_,_,_,h=>h.elim
 | _::_,[],_,_,h=>h.elim
 | _::_,_::_,[],_,h=>h.elim
 | t::ts,v::vs,d::ds,ps,h=>by
  obtain ⟨p,q,_,h2,_⟩:=h
  simp[Xfj h2]
def XpK {M:Mem} {W:World} {base:Nat} {t:TypeId} {a b:Nat} {z:Value} {fs:List (Nat×Nat×Nat)} (ht:Xm P t=some ⟨a,b,z,.struct fs⟩) {v:Value} (hv:Value.okWide P W .any base t v) {ds:List D} (h:RepL P M Yj ds v.cells.toList):Rep P M Yj (.agg ds) v:=by
 obtain ⟨fields,hu,_⟩:=ZW ht
 obtain ⟨cs,rfl,_⟩:=okWide_struct hu hv
 simp only[Rep]
 exact ⟨cs.toList,rfl,by simpa [Value.cells] using h⟩
def XpL {M:Mem} {v:Value} (hv:v.cells=#[v]) {d:D} (h:RepL P M Yj [d] v.cells.toList):Rep P M Yj d v:=by
 rw[hv] at h
 simp only[RepL] at h
 obtain ⟨x,xs,e,hr,_⟩:=h
 simp only[List.cons.injEq] at e
 rw[e.1];exact hr
def XqA {M:Mem} {W:World} {base:Nat} {t:TypeId} {a b e s:Nat} {z:Value} (ht:Xm P t=some ⟨a,b,z,.slice e s⟩) {v:Value} (hv:Value.okWide P W .any base t v) {d:D} (h:RepL P M Yj [d] v.cells.toList):Rep P M Yj d v:=by
 obtain ⟨_,_,_,rfl⟩:=okWide_slice (X0 ht).1 hv
 exact XpL rfl h
def XiV {H:Type} {enc:TypeId×Value->H} {W:World} (m:Nat):∀ {ts:List TypeId} {vs:List Value} {ds:List (DataW H)} {ps:List MemPlace},(∀ t∈ts,okS P m t=true)->DataW.TrodAll enc P W 0 (λ _=>true) true ts vs ds ps ->
 (∀ x∈DataW.weightsEach P ts ds,x<=reachBytes)->∃ dss:List (List D),dss.length=ts.length/\vs.length=ts.length/\∀ (i:Nat) t,ts[i]? = some t->∃ ds v,dss[i]? = some ds/\vs[i]? = some v/\Sh P m t ds/\RepL P (Ke W) Yj ds v.cells.toList
 | [],[],[],ps,_,h,_=>⟨[],rfl,rfl,λ i t h=>by simp at h⟩
 | [],[],_::_,_,_,h,_=>h.elim
 | [],_::_,_,_,_,h,_=>h.elim
 | _::_,[],_,_,_,h,_=>h.elim
 | _::_,_::_,[],_,_,h,_=>h.elim
 | t::ts,v::vs,d::ds,ps,ho,h,hw=>by
  obtain ⟨p,q,⟨fuel,h1⟩,h2,rfl⟩:=h
  simp only[DataW.weightsEach,WK] at hw
  obtain ⟨dd,s1,r1⟩:=Xb1 m t (ho t (by simp)) fuel _ d p h1 (λ x hx=>hw x (.inl hx))
  obtain ⟨dss,g1,g2,g3⟩:=XiV m (λ t ht=>ho t (W4 _ ht)) h2 (λ x hx=>hw x (.inr hx))
  refine ⟨dd::dss,by simp[g1],by simp[g2],λ i u hu=>?_⟩
  cases i with
  | zero=>simp at hu;subst hu;exact ⟨dd,v,by simp,by simp,s1,r1⟩
  | succ i=>simpa using g3 i u (by simpa using hu)
variable {P:Program}
section
variable {C:Cx} {s:Heap} {U:Nat->Prop} {M:Mem} {β:Loc} {w:World}
def U8.wide (I:U8 P C s U M β w) {id v E z:Nat} {es:List (List D)} (hs:s id=some (v,.arr false E z es 0)) (hne:es≠[]):U8 P C (upd s id (some (v,.arr true E z es 0))) U M β w:=by
 have hsv:∀ i v' ob,upd s id (some (v,.arr true E z es 0)) i=some (v',ob)->∃ ob0,s i=some (v',ob0)/\(ob=ob0\/(ob0=.arr false E z es 0/\ob=.arr true E z es 0)):=by
  intro i v' ob h
  by_cases hi:i=id
  ·subst hi
   rw[Yt] at h
   simp only[Wc,Wi] at h
   obtain ⟨rfl,rfl⟩:=h
   exact ⟨_,hs,.inr ⟨rfl,rfl⟩⟩
  ·rw[X2 _ _ _ _ hi] at h
   exact ⟨ob,h,.inl rfl⟩
 constructor
 ·exact I.mem
 ·exact I.used
 ·intro i v' ob h
  obtain ⟨ob0,h0,hc⟩:=hsv i v' ob h
  obtain ⟨x,hx,hr⟩:=I.obs i v' ob0 h0
  refine ⟨x,hx,?_⟩
  rcases hc with rfl | ⟨rfl,rfl⟩
  ·exact hr
  ·cases x with
   | none=>simp only[ObRep] at hr;exact absurd hr.2.1 hne
   | some bc =>
    obtain ⟨b,cb⟩:=bc
    simp only[ObRep] at hr ⊢
    obtain ⟨cs,T,k1,k2,k3,k4,k5,k6,k7,k8,k9,k10⟩:=hr
    refine ⟨cs,T,k1,k2,k3,k4,k5,k6,k7,k8,k9,λ i d hd=>?_⟩
    obtain ⟨y,hy,hr⟩:=k10 i d hd
    exact ⟨y,hy,hr.mono (MLe.refl _) (BLe.zero _)⟩
 ·intro i v' ob b cb h hb
  obtain ⟨ob0,h0,hc⟩:=hsv i v' ob h
  rcases I.own i v' ob0 b cb h0 hb with h1 | h1
  ·exact .inl h1
  ·rcases hc with rfl | ⟨rfl,rfl⟩
   ·exact .inr h1
   ·simp[Ob.bx] at h1
 ·intro i v' ob i' v2 ob' b cb cb' h h' hb hb'
  obtain ⟨ob0,h0,_⟩:=hsv i v' ob h
  obtain ⟨ob1,h1,_⟩:=hsv i' v2 ob' h'
  exact I.inj i v' ob0 i' v2 ob1 b cb cb' h0 h1 hb hb'
 ·exact I.keep
 ·exact I.old
 ·exact I.le
 ·exact I.glob
end
def LoopG.v {C:Cx} {R:St->Prop} {c:Code} {k:List It} {st:St} {id v:Nat} (_:(st.s id).map (·.1)=some v) (h:∀ w,w=v->LoopG P C R c k st trivial) (t:Prf c):LoopG P C R c k st t:=h v rfl
def LoopG.wide {C:Cx} {R:St->Prop} {c:Code} {k:List It} {st:St} {id v E z:Nat} {es:List (List D)} (hs:st.s id=some (v,.arr false E z es 0)) (hne:es≠[])
 (h:LoopG P C R c k (nxS st none .any (upd st.s id (some (v,.arr true E z es 0))) st.n st.k) trivial) (t:Prf c):LoopG P C R c k st t:=by
 intro a w hr
 obtain ⟨h1,h2,M,β,h0,h3,I⟩:=hr
 exact h a w ⟨h1,h2,M,β,h0,h3,I.wide hs hne⟩
def Gh (P:Program) (C:Cx) (Q:St->Prop) (st:St):Prop:=∃ st',(∀ a w,Rel P C st a w->Rel P C st' a w)/\Q st'
def Gh.no {C:Cx} {Q:St->Prop} {st:St} (h:Q st):Gh P C Q st:=⟨st,λ _ _ h=>h,h⟩
variable {P:Program} {C:Cx}
section
variable {s:Heap} {U:Nat->Prop} {M:Mem} {β:Loc} {w:World}
def U8.newRaw (h:U8 P C s U M β w) {ver:Nat} (hv:¬ U ver) (id:Nat) (o:Obj) :
 U8 P C (upd s id (some (ver,.raw o))) (λ v=>U v\/v=ver) M (Y4 β id ver (some (w.heap.size,0))) (w.alloc o)/\BLe β (Y4 β id ver (some (w.heap.size,0))):=by
 have hB:BLe β (Y4 β id ver (some (w.heap.size,0))):=YP (h.fresh hv id)
 have hnone:∀ o,M w.heap.size o=none:=by
  intro o
  cases hx:M w.heap.size o with
  | none=>rfl
  | some x=>exact absurd (h.mem.lt hx) (IC _)
 have hheap:∀ k,k≠w.heap.size->(w.alloc o).heap[k]? = w.heap[k]?:=by
  intro k hk
  show (w.heap.push _)[k]? = _
  rw[Array.getElem?_push,Wm hk]
 have hnew:(w.alloc o).heap[w.heap.size]? = some o:=World.alloc_heap_new w o
 refine ⟨h.set id ver (.raw o) w.heap.size 0 (MLe.refl M) hB hheap (λ _ _ _=>rfl) ?_ (XF ..) ⟨rfl,hnone,hnew⟩ ?_ (.inl h.keep.size) ?_ rfl rfl rfl ?_ YT,hB⟩
 ·intro o x hx;rw[hnone o] at hx;cases hx
 ·intro id' v' ob' cb' _ hs hx
  obtain ⟨y,hy,hr⟩:=h.obs id' v' ob' hs
  rw[hx] at hy
  obtain rfl:some (w.heap.size,cb')=y:=by simpa using hy
  exact absurd hr.lt (IC _)
 ·intro hlt;exact absurd h.keep.size (by omega)
 ·show w.heap.size<=(w.heap.push _).size
  simp
def U8.raw (h:U8 P C s U M β w) {id ver b cb:Nat} {o:Obj} (hs:s id=some (ver,.raw o)) (hb:β id ver=some (some (b,cb))):cb=0/\(∀ i,M b i=none)/\w.heap[b]? = some o:=by
 obtain ⟨x,hx,hr⟩:=h.obs id ver _ hs
 rw[hb] at hx
 obtain rfl:some (b,cb)=x:=by simpa using hx
 exact hr
def U8.putRaw (h:U8 P C s U M β w) {id ver b cb:Nat} {o:Obj} (hs:s id=some (ver,.raw o)) (hb:β id ver=some (some (b,cb))) (o':Obj) :
 U8 P C (upd s id (some (ver,.raw o'))) U M β (w.putObj b o'):=by
 obtain ⟨rfl,h2,h3⟩:=h.raw hs hb
 have hlt:b<w.heap.size:=(Array.getElem?_eq_some_iff.1 h3).1
 have:=h.set (M':=M) (β':=β) (w':=w.putObj b o') id ver (.raw o') b 0 (MLe.refl M) (BLe.refl β) (λ k hk=>World.putObj_heap_other hk) (λ _ _ _=>rfl) ?_ hb ⟨rfl,h2,World.putObj_heap_same hlt⟩ ?_ (by have:=h.own id ver _ b 0 hs hb;exact this) (λ _ _=>rfl) rfl rfl rfl (by simp) (λ _ _ _ e=>.inl e)
 ·exact this.mono λ v hv=>by
   rcases hv with hv | rfl
   ·exact hv
   ·exact h.used id _ _ hb
 ·intro o x hx;rw[h2 o] at hx;cases hx
 ·intro id' v' ob' cb' hne hs' hx'
  exact hne (h.inj id' v' ob' id ver _ b cb' 0 hs' hs hx' hb)
end
@[reducible] def Cx.inR (C:Cx) (l:Nat) (x:Mem×Loc):Cx:=⟨C.G,C.M0,C.w0,C.lb,x.2,x.1,C.off,some l,[]⟩
@[reducible] def Cx.mk' (C:Cx) (b:Loc) (D:Nat):Cx:=⟨C.G,C.M0,C.w0,C.lb,b,C.M1,C.off,C.rd,[{ target:=.collected D,args:=#[] }]⟩
def YieldX.of {args:List D} {dst:Option Nat} {st:St} {K:St->Prop} {l kr v:Nat} {r:Loop} {cA cB:Code} {p1 p2:Nat} {d1 d2:D} (tO:Nat->D) (nO m:Nat)
 (hs:st.s kr=some (v,.raw (.loop r))) (hst:r.state=.ready) (hA:r.assign=cA) (hB:r.body=cB) (hps:r.params=#[p1,p2]) (hp1:p1<nO) (hp2:p2<nO) (hargs:args=[d1,d2]) (hb:C.b0 kr v=some (some (l,0)))
 (hsz:r.tmps.size=nO) (hO:∀ x,Rep P C.M1 C.b0 (tO x) (r.tmps.getD x undef))
 (h:∀ x,run P (C.inR l x) (λ _=>False) m [.code cA,.stop λ sb=>sb.s kr=some (v,.raw (.loop r)) /\
  run P (C.inR l x) (λ sc=>sc.s kr=some (v,.raw (.loop { r with state:=.busy }))/\K (nxS st (XL dst st.n) (.v (.bool false)) (upd sc.s kr (some (v,.raw (.loop { r with state:=.done,pending:=some .ret })))) st.n sc.k)) m
   [.code cB,.stop λ sc=>sc.s kr=some (v,.raw (.loop { r with state:=.busy }))/\K (nxS st (XL dst st.n) (.v (.bool true)) (upd sc.s kr (some (v,.raw (.loop { r with state:=.ready,pending:=none })))) st.n sc.k)]
   ⟨sb.t,upd sb.s kr (some (v,.raw (.loop { r with state:=.busy }))),sb.n,sb.k⟩] ⟨upd (upd tO p1 d1) p2 d2,st.s,nO,st.k⟩) (t:Prf args):YieldX P C l args dst st K t:=by
 intro M β w vs h0 I hr
 subst hargs
 simp only[RepL] at hr
 obtain ⟨x1,_,rfl,hr1,x2,_,rfl,hr2,rfl⟩:=hr
 have hl:=(I.raw hs (h0 _ _ _ hb)).2.2
 refine ⟨r.fn,_,r.assign,r.body,run_yield hl (by rw[hps];rfl),roundIn_of_wpIn trivial ?_⟩
 have hrel0:Rel P (C.inR l (M,β)) ⟨upd (upd tO p1 d1) p2 d2,st.s,nO,st.k⟩ ((({ tmps:=r.tmps,defers:=[] }:Act).put (some p1) x1).put (some p2) x2) w:=by
  have hb:∀ x,Rep P M β (tO x) (r.tmps.getD x undef):=λ x=>(hO x).mono I.le h0
  have hI:U8 P (C.inR l (M,β)) st.s (·<st.k) M β w:=⟨I.mem,I.used,I.obs,I.own,I.inj,I.keep,I.old,MLe.refl M,λ g cs hg=>RepC.mono I.le (I.glob g cs hg)⟩
  have h1:=Ot (C:=C.inR l (M,β)) (st:=⟨tO,st.s,nO,st.k⟩) (a:={ tmps:=r.tmps,defers:=[] }) (dst:=some p1) (d:=d1) (v:=x1) rfl hsz (BLe.refl β) hb (MLe.refl M) (BLe.refl β) hI hr1
  simp only[XL,Wn hp1,nxS] at h1
  have hsz1:(({ tmps:=r.tmps,defers:=[] }:Act).put (some p1) x1).tmps.size=nO:=by simpa [Act.put] using hsz
  have hb1:∀ x,Rep P M β (upd tO p1 d1 x) ((({ tmps:=r.tmps,defers:=[] }:Act).put (some p1) x1).tmps.getD x undef):=λ x=>by
   have e:(({ tmps:=r.tmps,defers:=[] }:Act).put (some p1) x1).tmps.getD x undef=if x=p1 then x1 else r.tmps.getD x undef:=by
    simp only[Act.put]
    by_cases hy:x=p1
    ·subst hy;rw[Wn rfl];simp[hsz,hp1]
    ·rw[Wm hy];simp[Ne.symm hy]
   rw[e]
   unfold upd
   split
   ·exact hr1
   ·exact hb x
  have h2:=Ot (C:=C.inR l (M,β)) (st:=⟨upd tO p1 d1,st.s,nO,st.k⟩) (a:=({ tmps:=r.tmps,defers:=[] }:Act).put (some p1) x1) (dst:=some p2) (d:=d2) (v:=x2) rfl hsz1 (BLe.refl β) hb1 (MLe.refl M) (BLe.refl β) hI hr2
  simpa only[XL,Wn hp2,nxS] using h2
 have hrel:Rel P (C.inR l (M,β)) ⟨upd (upd tO p1 d1) p2 d2,st.s,nO,st.k⟩ { tmps:=(r.params.zip #[x1,x2]).foldl (λ tmps (t,a)=>tmps.setIfInBounds t a) r.tmps,defers:=[] } w:=by
  rw[hps,show (#[p1,p2].zip #[x1,x2])=#[(p1,x1),(p2,x2)] by simp];exact hrel0
 rw[hA,hB]
 refine wpIn_mono (Yu m _ hrel (h (M,β))) ?_
 clear h hrel hrel0
 intro e a1 w1 hq
 cases e with
 | normal =>
  obtain ⟨sb,⟨g1,g2,M1,β1,g0,g3,J⟩,hsb,hrun⟩:=hq
  have hbl:=g0 _ _ _ (h0 _ _ _ hb)
  have hl1:=(J.raw hsb hbl).2.2
  refine ⟨_,run_beginRound hl1 hst,?_⟩
  refine wpIn_mono (Yu m _ (st:=⟨sb.t,upd sb.s kr (some (v,.raw (.loop { r with state:=.busy }))),sb.n,sb.k⟩) ⟨g1,g2,M1,β1,g0,g3,J.putRaw hsb hbl _⟩ hrun) ?_
  intro e a2 w2 hq
  have fin:∀ (jump:Option Code) (sc:St),Rel P (C.inR l (M,β)) sc a2 w2->sc.s kr=some (v,.raw (.loop { r with state:=.busy })) ->
   K (nxS st (XL dst st.n) (.v (.bool jump.isNone)) (upd sc.s kr (some (v,.raw (.loop { r with state:=if jump.isNone then .ready else .done,pending:=jump })))) st.n sc.k) ->
   ∃ v' w',(Instr.endRound l jump).run P w2=.ok v' w'/\∃ v d s' k' M' β',Ending.returned v'=.returned v/\U8 P C s' (·<k') M' β' w'/\Rep P M' β' d v/\MLe M M'/\BLe β β'/\K (nxS st (XL dst st.n) d s' st.n k'):=by
   rintro jump sc ⟨k1,k2,M2,β2,k0,k3,J2⟩ hsc hk
   have hbl2:=k0 _ _ _ (h0 _ _ _ hb)
   have hl2:=(J2.raw hsc hbl2).2.2
   refine ⟨_,_,run_endRound jump hl2,_,.v (.bool jump.isNone),_,sc.k,M2,β2,rfl,?_,by simp[Rep,wfV],J2.le,k0,hk⟩
   have J3:=J2.putRaw hsc hbl2 (.loop { r with state:=if jump.isNone then .ready else .done,pending:=jump })
   exact ⟨J3.mem,J3.used,J3.obs,J3.own,J3.inj,J3.keep,J3.old,I.le.trans J3.le,I.glob⟩
  cases e with
  | normal =>
   obtain ⟨sc,hr,hc,hk⟩:=hq
   exact fin none sc hr hc hk
  | ret =>
   obtain ⟨sc,hr,hc,hk⟩:=hq
   exact fin (some .ret) sc hr hc hk
  | exit id=>exact hq.elim
  | _=>exact hq.elim
 | ret=>obtain ⟨_,_,hf⟩:=hq;exact hf.elim
 | exit id=>exact hq.elim
 | _=>exact hq.elim
def Xq1 (FN FR:Loop->St->Prop) (kr v:Nat) (st:St):Prop :=
 ∃ r:Loop,st.s kr=some (v,.raw (.loop r))/\r.state≠.busy/\((r.pending=none/\FN r st)\/(r.pending=some .ret/\FR r st))
def XpM {a:Act} {w:World} {st:St} {R:AW} {k:List It} {g:Operand} {ps:Array Tmp} {cA cB:Code} (hrd:C.rd=none) (hdf:C.df=[]) (hr:Rel P C st a w)
 {gf:FuncId} {caps:List D} (hg:ev st.t C.G g=.clo (.func gf) [] caps) (kr kd:Nat) (hne:kr≠kd)
 {fn:Func} {nt:Nat} (hk:(P.funcs[gf]?,fn.body,fn.name== "runtime.NumGoroutine",fn.results,fn.ntmps,(caps.length+1).ble nt)=(some fn,some (fn.body.get!),false,⟨[]⟩,nt,true)) (off m:Nat)
 (h:∀ (l D:Nat) (r:Loop) (x:Mem×Loc),r.state=.ready->r.pending=none->r.params=ps->r.assign=cA->r.body=cB->r.tmps.size=st.n->x.2 kr (st.k+1)=some (some (l,0))->x.2 kd st.k=some (some (D,0)) ->
  (∀ y,Rep P x.1 x.2 (st.t y) (r.tmps.getD y undef))->BLe C.b0 x.2 ->
  run P (C.sub off x) (Xq1
      (λ r' st'=>∀ a' w',Rel P (C.mk' x.2 D) ⟨st.t,upd st'.s kr (some (st.k+1,.raw (.loop { r' with state:=.exhausted }))),st.n,st'.k⟩ a' w'->sem P C R k none a' w')
      (λ r' st'=>∀ a' w',Rel P (C.mk' x.2 D) ⟨st.t,upd st'.s kr (some (st.k+1,.raw (.loop { r' with state:=.exhausted }))),st.n,st'.k⟩ a' w'->R a' w') kr (st.k+1)) m
   [.code (fn.body.get!)] (stI (.clo (.yield l) [] []::caps) (upd (upd st.s kd (some (st.k,.raw (.deferred (some []))))) kr (some (st.k+1,.raw (.loop r)))) nt (st.k+2))) :
 (Code.rangeFunc g ps cA cB).wpIn (fz C.rd) 0 P (Xba R (sem P C R k)) a w:=by
 injection hk with hf hk;injection hk with hb hk;injection hk with hn hk;injection hk with hrs hk;injection hk with hnt hargs
 have hargs:=Nat.le_of_ble_eq_true hargs
 obtain ⟨h1,h2,M,β,h0,h3,I⟩:=hr
 have hgv:=Xd0 I h3 g
 rw[hg] at hgv
 simp only[Rep,RepL] at hgv
 obtain ⟨_,vb,hgv,rfl,hcaps⟩:=hgv
 refine wpIn_rangeFunc ?_
 intro fi _
 rw[show (fz C.rd).round=none from hrd]
 obtain ⟨r,hrec⟩:∃ r:Loop,r={ state:=.ready,pending:=none,fn:=fi,tmps:=a.tmps,params:=ps,assign:=cA,body:=cB,defers:=w.heap.size }:=⟨_,rfl⟩
 obtain ⟨W1,hW1⟩:∃ W1,(w.alloc (.deferred (some []))).alloc (.loop r)=W1:=⟨_,rfl⟩
 refine ⟨w.heap.size+1,[{ target:=.collected w.heap.size,args:=#[] }],W1,{ target:=.fn (.func gf) ⟨vb⟩,args:=#[.func (.yield (w.heap.size+1)) #[] #[]] },W1,gf,
  #[.func (.yield (w.heap.size+1)) #[] #[]]++⟨vb⟩,W1,?_,?_,λ _ _=>trivial,?_,λ e=>(by cases e),?_⟩
 ·rw[← hW1,hrec];exact run_enterLoop_outer _ _ _ _ _
 ·simp only[resolve,hgv]
  simp[go_sem,Deferred.ofValue,pure]
 ·have hn':¬ fn.name = "runtime.NumGoroutine":=by simpa using hn
  have hb':¬ fn.body=none:=by
   intro h0;rw[h0] at hb;simp at hb
  simp[go_sem,invoke,callFunc,hf,hb',hn']
 refine XbV (calls_of_wp hf hb ?_)
 obtain ⟨I1,hB1⟩:=I.newRaw (ver:=st.k) (λ h=>absurd h (IC _)) kd (.deferred (some []))
 obtain ⟨I2,hB2⟩:=I1.newRaw (ver:=st.k+1) (λ h=>by rcases h with h | h<;>omega) kr (.loop r)
 rw[World.size_alloc] at I2 hB2
 rw[hW1] at I2
 have hB:=hB1.trans hB2
 generalize hβ2:Y4 (Y4 β kd st.k (some (w.heap.size,0))) kr (st.k+1) (some (w.heap.size+1,0))=β2 at I2 hB2 hB
 have hkr:β2 kr (st.k+1)=some (some (w.heap.size+1,0)):=by rw[← hβ2];exact XF ..
 have hkd:β2 kd st.k=some (some (w.heap.size,0)):=hB2 _ _ _ (XF ..)
 have I3:U8 P (C.sub off (M,β2)) (upd (upd st.s kd (some (st.k,.raw (.deferred (some []))))) kr (some (st.k+1,.raw (.loop r)))) (·<st.k+2) M β2 W1 :=
  ⟨I2.mem,λ i v x e=>by rcases I2.used i v x e with (h | h) | h<;>omega,I2.obs,I2.own,I2.inj,I2.keep,I2.old,MLe.refl M,λ g cs hg=>RepC.mono I.le (I.glob g cs hg)⟩
 have hvs:RepL P M β2 (.clo (.yield (w.heap.size+1)) [] []::caps) (.func (.yield (w.heap.size+1)) #[] #[]::vb):=by
  simp only[RepL,Rep]
  exact ⟨_,_,rfl,⟨[],[],rfl,rfl,rfl⟩,hcaps.mono (MLe.refl M) hB⟩
 have e0:(#[.func (.yield (w.heap.size+1)) #[] #[]]++(⟨vb⟩:Array Value))=(⟨.func (.yield (w.heap.size+1)) #[] #[]::vb⟩:Array Value):=by simp
 rw[e0]
 have hrel:Rel P (C.sub off (M,β2)) (stI (.clo (.yield (w.heap.size+1)) [] []::caps) (upd (upd st.s kd (some (st.k,.raw (.deferred (some []))))) kr (some (st.k+1,.raw (.loop r)))) nt (st.k+2)) _ W1:=Vn rfl (BLe.refl _) hvs hnt (by simpa using hargs) I3
 have hrun:=Yu m _ hrel (h (w.heap.size+1) w.heap.size r (M,β2) (by rw[hrec]) (by rw[hrec]) (by rw[hrec]) (by rw[hrec]) (by rw[hrec]) (by rw[hrec];exact h2) hkr hkd (λ y=>by rw[hrec];exact (h3 y).mono (MLe.refl M) hB) (h0.trans hB))
 refine wp_mono ((wpIn_wide (n:=0)).1 hrun) ?_
 have fin:∀ a1 w1,Jx P (C.sub off (M,β2)) (Xq1
  (λ r' st'=>∀ a' w',Rel P (C.mk' β2 w.heap.size) ⟨st.t,upd st'.s kr (some (st.k+1,.raw (.loop { r' with state:=.exhausted }))),st.n,st'.k⟩ a' w'->sem P C R k none a' w')
  (λ r' st'=>∀ a' w',Rel P (C.mk' β2 w.heap.size) ⟨st.t,upd st'.s kr (some (st.k+1,.raw (.loop { r' with state:=.exhausted }))),st.n,st'.k⟩ a' w'->R a' w') kr (st.k+1)) a1 w1 ->
  a1.defers=[]/\∃ v,(results fn a1.tmps).run P w1=.ok v w1/\rangePost (fz C.rd) 0 P (w.heap.size+1) (Xba R (sem P C R k)) { a with defers:=[{ target:=.collected w.heap.size,args:=#[] }]++a.defers } (.returned v) w1:=by
  rintro a1 w1 ⟨st',⟨g1,g2,M',β',g0,g3,J⟩,r',hs',hst',hor⟩
  obtain ⟨v,hv,_⟩:=VN J g3 hrs (ds:=[]) (c:=True) rfl trivial
  have hl:=g0 _ _ _ hkr
  refine ⟨g1,v,hv,_,_,run_endLoop (J.raw hs' hl).2.2 hst',?_⟩
  have J2:=J.putRaw hs' hl (.loop { r' with state:=.exhausted })
  have hrel':Rel P (C.mk' β2 w.heap.size) ⟨st.t,upd st'.s kr (some (st.k+1,.raw (.loop { r' with state:=.exhausted }))),st.n,st'.k⟩ { a with defers:=[{ target:=.collected w.heap.size,args:=#[] }]++a.defers } (w1.putObj (w.heap.size+1) (.loop { r' with state:=.exhausted })):=by
   refine ⟨by rw[h1,hdf];rfl,h2,M',β',g0,λ x=>(h3 x).mono J.le (hB.trans g0),⟨J2.mem,J2.used,J2.obs,J2.own,J2.inj,J2.keep,J2.old,I.le.trans J2.le,I.glob⟩⟩
  generalize w1.putObj (w.heap.size+1) (.loop { r' with state:=.exhausted })=w4 at hrel' ⊢
  rcases hor with ⟨hp,hf⟩ | ⟨hp,hf⟩
  ·rw[hp];exact hf _ _ hrel'
  ·rw[hp];exact wpIn_ret (hf _ _ hrel')
 intro e a' w' hq
 cases e with
 | normal=>exact fin a' w' hq
 | ret=>exact fin a' w' hq
 | exit id=>exact hq.elim
 | _=>exact hq.elim
def XgE (P:Program) (C:Cx) (Q:St->Prop):AW:=λ a w=>∃ D kd v b1,BLe C.b0 b1/\b1 kd v=some (some (D,0)) /\
 Jx P (C.mk' b1 D) (λ st=>st.s kd=some (v,.raw (.deferred (some [])))/\Q ⟨st.t,upd st.s kd (some (v,.raw (.deferred none))),st.n,st.k⟩) a w
def Xb2 {G:Nat->Option (List D)} {f:FuncId} {fn:Func} {body:Code} {rs:List ResultVar} {args:List D} {lent:List Ob} {R':D->List Ob->Prop} (fr:List Nat) (nt:Nat)
 (hf:P.funcs[f]? = some fn) (hb:fn.body=some body) (hn:(fn.name== "runtime.NumGoroutine")=false) (hrs:fn.results=⟨rs⟩) (hnt:fn.ntmps=nt) (hargs:args.length<=nt)
 (h:∀ (C:Cx) x,C.G=G->C.lb.length=lent.length->WfL P args->∀ a w,Rel P (C.sub 0 x) (st0 args lent nt) a w ->
  sem P (C.sub 0 x) (λ a w=>Jx P (C.sub 0 x) (VM P rs fr lent.length R') a w\/XgE P (C.sub 0 x) (VM P rs fr lent.length R') a w) [.code body] none a w):YY P G f args lent R':=by
 refine ⟨⟨fn,hf,by simp[hb],hn⟩,λ M w vs lb hM hG hlen hnd hob hvs=>?_⟩
 refine callsIn_wide.1 (callsIn_of_wp_marks (F:=Fence.wide) (n:=0) hf hb trivial ?_)
 have I0:=Xc7 (G:=G) hM hG hlen hnd hob
 have hrel:Rel P ⟨G,M,w,lb.map (·.1),Kc lb,M,0,none,[]⟩ (st0 args lent nt) _ w:=Vn rfl (BLe.refl _) hvs hnt hargs I0
 have hrun:=h ⟨G,M,w,lb.map (·.1),Kc lb,M,0,none,[]⟩ (M,Kc lb) rfl (by rw[← hlen];exact W0 ..) hvs.wf _ _ hrel
 refine wpIn_mono hrun ?_
 have fin:∀ a w',(Jx P ⟨G,M,w,lb.map (·.1),Kc lb,M,0,none,[]⟩ (VM P rs fr lent.length R') a w'\/XgE P ⟨G,M,w,lb.map (·.1),Kc lb,M,0,none,[]⟩ (VM P rs fr lent.length R') a w') ->
  LeavesInM Fence.wide 0 P fn a.tmps (XmU P M w lb R') a.defers .returning w':=by
  rintro a w' (hq | ⟨D,kd,v,b1,hb1,hkd,hq⟩)
  ·have hd:a.defers=[]:=by obtain ⟨st,h1,_⟩:=hq;exact h1.1
   rw[hd]
   exact XbY rfl (BLe.refl _) hlen hrs a w' hq
  ·obtain ⟨st,⟨h1,h2,M',β',h0,h3,I⟩,hs,hret⟩:=hq
   rw[h1]
   have hD:=h0 _ _ _ hkd
   have hh:=(I.raw hs hD).2.2
   refine ⟨by simp,.inl ⟨D,_,rfl,run_takeDeferred hh,?_⟩⟩
   exact XbY (C:=Cx.mk' ⟨G,M,w,lb.map (·.1),Kc lb,M,0,none,[]⟩ b1 D) rfl hb1 hlen hrs a _ ⟨⟨st.t,upd st.s kd (some (v,.raw (.deferred none))),st.n,st.k⟩,⟨h1,h2,M',β',h0,h3,I.putRaw hs hD _⟩,hret⟩
 intro e a w' hq
 cases e with
 | normal=>exact fin a w' hq
 | ret=>exact fin a w' hq
 | exit id=>exact hq.elim
 | _=>exact hq.elim
variable {P:Program} {C:Cx}
def XiW {R:AW} {id:Nat} {c:Code} {k:List It} {a:Act} {w:World} (h:sem P C R (.code c::.blk id::k) none a w):sem P C R (.code (.block id c)::k) none a w:=by
 refine wpIn_block (wpIn_mono h ?_)
 intro e a' w' hq
 cases e with
 | exit i =>
  simp only[Exit.inBlock]
  have hq:sem P C R (.blk id::k) (some i) a' w':=hq
  unfold sem at hq
  split at hq<;>rename_i e
  ·rw[Wn e];exact hq
  ·rw[Wm e];exact hq
 | _=>exact hq
def XkL:List It->Bool
 | []=>true
 | .stop _::_=>false
 | .ops _ _::_=>false
 | _::k=>XkL k
def KI {C':Cx} (hrd:C'.rd=C.rd) {R R':AW} (hR:∀ a w,R' a w->R a w):∀ (k:List It),XkL k=true->∀ e a w,sem P C' R' k e a w->sem P C R k e a w
 | [],_,none,a,w,h=>hR a w h
 | [],_,some _,a,w,h=>h.elim
 | .blk j::k,hk,none,a,w,h=>KI hrd hR k hk none a w h
 | .blk j::k,hk,some i,a,w,h=>by
  unfold sem at h ⊢
  split
  ·rename_i e;rw[Wn e] at h;exact KI hrd hR k hk none a w h
  ·rename_i e;rw[Wm e] at h;exact KI hrd hR k hk (some i) a w h
 | .code c::k,hk,some i,a,w,h=>KI hrd hR k hk (some i) a w h
 | .code c::k,hk,none,a,w,h=>by
  have h:c.wpIn (fz C'.rd) 0 P (Xba R' (sem P C' R' k)) a w:=h
  rw[hrd] at h
  refine wpIn_mono h ?_
  intro e a' w' hq
  cases e with
  | normal=>exact KI hrd hR k hk none a' w' hq
  | exit i=>exact KI hrd hR k hk (some i) a' w' hq
  | ret=>exact hR a' w' hq
  | _=>exact hq
def XoY:List It->Bool
 | []=>true
 | .ops _ _::_=>false
 | _::k=>XoY k
def Z8 {R R':AW} (hR:∀ a w,R' a w->R a w):∀ (k:List It),XoY k=true->∀ e a w,sem P C R' k e a w->sem P C R k e a w
 | [],_,none,a,w,h=>hR a w h
 | [],_,some _,a,w,h=>h.elim
 | .stop _::k,_,none,a,w,h=>h
 | .stop _::k,hk,some i,a,w,h=>Z8 hR k hk (some i) a w h
 | .blk j::k,hk,none,a,w,h=>Z8 hR k hk none a w h
 | .blk j::k,hk,some i,a,w,h=>by
  unfold sem at h ⊢
  split
  ·rename_i e;rw[Wn e] at h;exact Z8 hR k hk none a w h
  ·rename_i e;rw[Wm e] at h;exact Z8 hR k hk (some i) a w h
 | .code c::k,hk,some i,a,w,h=>Z8 hR k hk (some i) a w h
 | .code c::k,hk,none,a,w,h=>by
  refine wpIn_mono h ?_
  intro e a' w' hq
  cases e with
  | normal=>exact Z8 hR k hk none a' w' hq
  | exit i=>exact Z8 hR k hk (some i) a' w' hq
  | ret=>exact hR a' w' hq
  | _=>exact hq
def V8 {R:AW} {kx ky:List It} (h:∀ e a w,sem P C R kx e a w->sem P C R ky e a w):∀ (k1:List Code) (e:Option Nat) (a:Act) (w:World),sem P C R (k1.map It.code++kx) e a w->sem P C R (k1.map It.code++ky) e a w
 | [],e,a,w,hq=>h e a w hq
 | c::k1,none,a,w,hq=>by
  refine wpIn_mono hq ?_
  intro e a' w' hq
  cases e with
  | normal=>exact V8 h k1 none a' w' hq
  | exit i=>exact V8 h k1 (some i) a' w' hq
  | _=>exact hq
 | _::k1,some i,a,w,hq=>V8 h k1 (some i) a w hq
def Xnx {R:AW} {x y:Code} {k:List It} (e:Option Nat) (a:Act) (w:World) (h:sem P C R (.code x::.code y::k) e a w):sem P C R (.code (.seq x y)::k) e a w:=by
 cases e with
 | some i=>exact h
 | none =>
  refine wpIn_seq (wpIn_mono h ?_)
  intro e a' w' hq
  cases e<;>exact hq
open Go
def mkL:Nat->List (Int×Int)->List MapEntry
 | _,[]=>[]
 | i,x::l=>⟨.int .u64 x.1,.int .u64 x.2,i⟩::mkL (i+1) l
def mkE (m:List (Int×Int)):Array MapEntry:=(mkL 0 m).toArray
def Xny:mkE []=#[]:=rfl
def Xd7:∀ (m:List (Int×Int)) (i:Nat),(mkL i m).length=m.length
 | [],_=>rfl
 | _::m,i=>congrArg (·+1) (Xd7 m (i+1))
def V9:∀ (m l:List (Int×Int)) (i:Nat),mkL i (m++l)=mkL i m++mkL (i+m.length) l
 | [],l,i=>rfl
 | x::m,l,i=>by
  rw[Ia,mkL,mkL,V9 m l (i+1),Ia,Uc,IN,Nat.add_comm 1]
def Xbu (n:Int):∀ (m:List (Int×Int)) (i j:Nat),∃ q:Nat,Instr.findNow (.int .u64) (.int .u64 n) (mkL i m) j=some ((mG m n).map λ x=>(q,.int .u64 x))
 | [],i,j=>⟨0,rfl⟩
 | x::m,i,j=>by
  have hs:Instr.sameNow (.int .u64) (.int .u64 n) (.int .u64 x.1)=some (n==x.1):=JT .u64 n x.1
  have e:mG (x::m) n=if n=x.1 then some x.2 else mG m n:=rfl
  by_cases h:n=x.1
  ·refine ⟨j,?_⟩
   rw[e,Wn h];subst h
   simp only[mkL,Instr.findNow,hs,beq_self_eq_true,Iv]
  ·obtain ⟨q,hq⟩:=Xbu n m (i+1) (j+1)
   have hb:(n==x.1)=false:=by simpa using h
   refine ⟨q,?_⟩
   rw[e,Wm h]
   simp only[mkL,Instr.findNow,hs,hb,hq]
def Xnz (m:List (Int×Int)) (n:Int):XmE (mkE m) .u64 n=True:=by
 obtain ⟨q,hq⟩:=Xbu n m 0 0
 unfold XmE mkE
 rw[hq];simp
def XnA (m:List (Int×Int)) (n:Int):XdQ (mkE m) .u64 n (.int .u64 0)=.int .u64 ((mG m n).getD 0):=by
 obtain ⟨q,hq⟩:=Xbu n m 0 0
 unfold XdQ mkE
 rw[hq];cases mG m n<;>rfl
def XnB (m:List (Int×Int)) (n:Int):XeM (mkE m) .u64 n=(mG m n).isSome:=by
 obtain ⟨q,hq⟩:=Xbu n m 0 0
 unfold XeM mkE
 rw[hq];cases mG m n<;>rfl
def XnC (m:List (Int×Int)) (n x:Int):(mkE m).push ⟨.int .u64 n,.int .u64 x,m.length⟩=mkE (m++[(n,x)]):=by
 unfold mkE
 rw[V9,Ut];simp[mkL]
def XkM (m:List (Int×Int)) (n x:Int):((mkE (m++[(n,x)])).findIdx? λ e=>(e.born:Int)==(m.length:Int))=some m.length:=by
 unfold mkE
 rw[V9,Ut,List.findIdx?_toArray]
 have h0:∀ (m:List (Int×Int)) (i k:Nat),i+m.length<=k->(mkL i m).findIdx? (λ e=>(e.born:Int)==(k:Int))=none:=by
  intro m
  induction m with
  | nil=>intro i k _;rfl
  | cons x m ih =>
   intro i k h
   simp only[Uc] at h
   rw[mkL,List.findIdx?_cons,ih (i+1) k (by omega)]
   have:((i:Int)==(k:Int))=false:=by simp;omega
   simp[this]
 rw[List.findIdx?_append,h0 m 0 m.length (by omega),Xd7]
 simp[mkL]
def XnD (m:List (Int×Int)) (n x:Int):Xpb (mkE (m++[(n,x)])) (m.length:Int)=True:=by
 unfold Xpb
 rw[XkM];simp
def XnE (m:List (Int×Int)) (n x y:Int):XjI (mkE (m++[(n,x)])) (m.length:Int) (.int .u64 y)=mkE (m++[(n,y)]):=by
 unfold XjI
 rw[XkM,UF]
 unfold mkE
 rw[V9,V9,Ut]
 refine Array.ext' ?_
 rw[Array.toList_modify]
 show List.modify (mkL 0 m++mkL m.length [(n,x)]) m.length _=_
 refine I8 λ i=>?_
 rw[List.getElem?_modify,UN,UN,Xd7]
 by_cases h:i<m.length
 ·rw[Wn h,Wn h]
  have hne:¬ m.length=i:=by omega
  simp only[hne,if_false]
  cases (mkL 0 m)[i]?<;>rfl
 ·rw[Wm h,Wm h]
  by_cases h2:i=m.length
  ·subst h2;simp[mkL]
  ·have h3:i-m.length≠0:=by omega
   obtain ⟨k,hk⟩:∃ k,i-m.length=k+1:=⟨i-m.length-1,by omega⟩
   rw[hk];simp[mkL]
def XpN (x:Int):wfV (.int .u64 x)=(0<=x/\x<=18446744073709551615):=by
 simp only[wfV,IntKind.min,IntKind.max,IntKind.bits,IntKind.signed]
 simp
def XV {α β:Type} {i:Int} {f:α->Option β} {r:β} {Q:Prop} (h:bnd (Xb [] i) f=some r):Q:=by
 have e:Xb ([]:List α) i=none:=by unfold Xb;split<;>rfl
 rw[e] at h
 unfold bnd at h
 cases h
def XW {α:Type} {n:Nat} {Q:Prop} (h:n<([]:List α).length):Q:=absurd h (Nat.not_lt_zero _)
attribute [go_sem] Xny Xnz XnA XnB XnC XnD XnE XpN
end Go.Sx
