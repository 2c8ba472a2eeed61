import Derived.Maps.RangeRun
import Derived.ProofKit
import Derived.LaidMore
import Derived.OpenShut
import Derived.Stop.Joined
import Derived.ChangeSame
import Derived.Carry
import Derived.RangeFuncLeaves
import Derived.RangeFuncRecord
import Derived.RangeFuncIn
import Derived.RecoverIn
import Derived.Test.YtgbmffljpneflaaGreatDoorBB
set_option linter.all false
namespace Go.Sx
open Go.MapKept
variable {P:Program}{C:Cx}
def Xbb{R:AW}{Q:St->Prop}{k2:List It}(g:∀st a w,Rel P C st a w->Q st->sem P C R k2 none a w):∀(k1:List Code) (e:Option Nat) (a:Act) (w:World),sem P C R (k1.map It.code++[.stop Q]) e a w->sem P C R (k1.map It.code++k2) e a w
 |[],none,a,w,h=>by have⟨st,l,f⟩:=h;grind
 |[],some i,a,w,h=>h.elim
 |c::k1,none,a,w,h=>by
  refine wpIn_mono h ?_;intro e j k f;cases e with
  |normal=>exact Xbb g k1 none j k f
  |exit i=>exact Xbb g k1 (some i) j k f
  |_=>exact f
 |_::k1,some i,a,w,h=>Xbb g k1 (some i) a w h
def XbK:Nat->Code->List Code
 |n+1,.seq x y=>x::XbK n y
 |_,c=>[c]
def Jo{R:AW}{k:List It}:∀(n:Nat) (c:Code) (e:Option Nat) (a:Act) (w:World),sem P C R ((XbK n c).map It.code++k) e a w->sem P C R (.code c::k) e a w
 |0,c,e,a,w,h=>by assumption
 |n+1,.seq x y,none,a,w,h=>by
  refine wpIn_seq (wpIn_mono h ?_);intro e g j f;cases e with
  |normal=>exact Jo n y none g j f
  |exit i=>exact Jo n y (some i) g j f
  |_=>exact f
 |n+1,.seq x y,some i,a,w,h=>Jo n y (some i) a w h
 |n+1,.region _ _ _,e,a,w,h=>h
 |n+1,.skip,e,a,w,h=>h
 |n+1,.cond _ _ _,e,a,w,h=>h
 |n+1,.block _ _,e,a,w,h=>h
 |n+1,.loop _,e,a,w,h=>h
 |n+1,.rangeFunc ..,e,a,w,h=>h
 |n+1,.exit _,e,a,w,h=>h
 |n+1,.scope _,e,a,w,h=>h
 |n+1,.label _,e,a,w,h=>h
 |n+1,.goto _,e,a,w,h=>h
 |n+1,.ret,e,a,w,h=>h
 |n+1,.refuse _,e,a,w,h=>h
def YA{r:Option Nat}{ops:Array Oper}{Q:Exit->AW}{rest:List Oper}{o:Oper}{a:Act}{w w':World}{v:Value}(e:o.guard=none)(h:(execOp a.eval o).run P w=.ok (.value v) w')(k:wpListIn (fz r) 0 P ops Q rest (a.put o.dst v) w')(hd:∀c,o.op≠.defer c:=by intro c h;cases h):wpListIn (fz r) 0 P ops Q (o::rest) a w:=by
 refine wpListIn_step λK hK=>?_;have hw:Region.wanted o (yielded ops a.tmps)=true:=by unfold Region.wanted;rw[e]
 rw[Wq hw];refine Xlh hd ?_;unfold Oper.wp;rw[h];exact hK _ _ k
def XS{a:Act}{x y:Nat}{v:Value}(h:x<a.tmps.size):(a.put (some x) v).tmps.getD y undef=if y=x then v else a.tmps.getD y undef:=by
 simp only[Act.put];by_cases e:y=x
 .subst e;simp[h]
 simp[Wk,e,Ne.symm]
theorem XJ{a:Act}{x:Option Nat}{v:Value}:(a.put x v).tmps.size=a.tmps.size:=by cases x<;>simp[Act.put]
def Jp{a:Act}{x:Option Nat}{v:Value}:(a.put x v).defers=a.defers:=by cases x<;>rfl
def Xqf(f:Int)(l:List MapEntry)(x:Int):Prop:=
 (x=f\/∃e∈l,e.key=.int .i64 x)/\x<=f/\∀e∈l,∀n,e.key=.int .i64 n->x<=n
def Xfl(w e:World):Prop:=(∀k,k<w.heap.size->e.heap[k]? = w.heap[k]?)/\w.heap.size<=e.heap.size/\e.os=w.os/\e.tape=w.tape/\e.output=w.output
def Rel.same{st:St}{a f:Act}{w w':World}(p:Rel P C st a w)(hw:Xfl w w')(hd:f.defers=C.df)(g:f.tmps.size=a.tmps.size){t':Nat->D}(ht:∀M β,(∀x,Rep P M β (st.t x) (a.tmps.getD x undef))->∀x,Rep P M β (t' x) (f.tmps.getD x undef)):Rel P C ⟨t',st.s,st.n,st.k⟩ f w':=by
 have⟨y,h2,M,β,q,r,I⟩:=p;have⟨g1,g2,g3,g4,g5⟩:=hw;refine⟨hd,g.trans h2,M,β,q,ht M β r,?_⟩;have h:∀b o x,M b o=some x->b<w.heap.size:=λb o x e=>I.mem.lt e;constructor
 .intro b o x e;have:=I.mem b o x e;refine⟨?_,this.2⟩;rw[←this.1];simp[World.cell?,g1 b (h b o x e)]
 .exact I.used
 .intro id v ob g;have⟨x,e,j⟩:=I.obs id v ob g;refine⟨x,e,j.mono (MLe.refl _) (BLe.refl _) ?_ (λ_ _ _ _=>rfl)⟩;rintro b z rfl;exact g1 b j.lt
 .exact I.own
 .exact I.inj
 .exact⟨g3.trans I.keep.os,g4.trans I.keep.tape,g5.trans I.keep.output,Uq I.keep.size g2,λk l u=>by rw[g1 k (Iq l I.keep.size)];exact I.keep.block k l u⟩
 .exact I.old
 .exact I.le
 exact I.glob
def Y2(a:Act)(i:Nat):a.eval (.tmp i)=a.tmps.getD i undef:=rfl
def Xkj{R:AW}{k:List It}{T K E:Nat}(hT:P.underlying T=some (.map K E)){r0 r1 r2 r3 i0 i1 L u M N ta O U V W z A tz x0 x1 x2 x3 x4 x5 x6 x7 x8 x9 x10:Nat}{p0 p1 p2 p3 p4 p5 p6 p7 p8 p9 p10:String}{f0 f1 f2 f3 f4 f5 f6 f7 f8 f9 f10:Array Edge}{tys:Array Nat}{a:Act}{w:World}{b:Nat}{n0:Int}{ents:Array MapEntry}{clock:Nat}(hd:a.defers=[])(hsz:∀t∈[L,u,M,N,ta,O,U,V,W,z,A,tz],t<a.tmps.size)(hne:[L,u,N,ta,O,U,V,W,z,A,M,tz].Nodup)(hm:a.tmps.getD L undef=.map (some b))(hf:a.tmps.getD u undef=.int .i64 n0)(hb:w.heap[b]? = some (.map ents clock))(hp:(ents.toList.map (·.born)).Pairwise (·<·))(hc:∀e∈ents.toList,e.born<clock)(hkey:∀e∈ents.toList,∃n,e.key=.int .i64 n)(fin:∀f w' x,f.defers=[]->f.tmps.size=a.tmps.size->f.tmps.getD L undef=.map (some b)->f.tmps.getD u undef=.int .i64 x->Xqf n0 ents.toList x->Xfl w w'->sem P C R k none f w'):
 sem P C R (.code (.seq (.region r0 ⟨[⟨some ta,.move (.tmp L),x0,p0,f0,none⟩,⟨some N,.range T (.tmp ta),x1,p1,f1,none⟩]⟩ false)
  (.block i0 (.loop (.seq (.region r1 ⟨[⟨some O,.next (.tmp N) false,x2,p2,f2,none⟩,⟨some U,.extract (.tmp O) 0,x3,p3,f3,none⟩]⟩ false) (.seq (.cond (.tmp U) .skip (.exit i0))
   (.block i1 (.seq (.region r2 ⟨[⟨some V,.entry (.tmp N),x4,p4,f4,none⟩,⟨some W,.extract (.tmp V) 0,x5,p5,f5,none⟩,⟨some M,.assign (.tmp W),x6,p6,f6,none⟩]⟩ false)
    (.region r3 ⟨[⟨some z,.move (.tmp u),x7,p7,f7,none⟩,⟨some A,.move (.tmp M),x8,p8,f8,none⟩,⟨some tz,.call ⟨.builtin .min,#[.tmp z,.tmp A],tys⟩,x9,p9,f9,none⟩,⟨some u,.assign (.tmp tz),x10,p10,f10,none⟩]⟩ false))))))))
  :: k) none a w:=by
 simp only[UT,List.not_mem_nil,or_false,forall_eq_or_imp,forall_eq]at hsz;obtain⟨s1,s2,s3,s4,s5,s6,s7,s8,s9,p,q,s12⟩:=hsz;simp only[List.nodup_cons,UT,List.not_mem_nil,or_false,not_or,On,and_true,not_false_eq_true]at hne;obtain⟨⟨n1,n2,n3,n4,n5,n6,n7,n8,n9,n10,n11⟩,⟨n12,n13,n14,n15,n16,n17,n18,n19,n20,n21⟩,⟨n22,n23,n24,n25,n26,n27,n28,n29,n30⟩,⟨n31,n32,n33,n34,n35,n36,n37,n38⟩,⟨n39,n40,n41,n42,n43,n44,n45⟩,⟨n46,n47,n48,n49,n50,n51⟩,⟨n52,n53,n54,n55,n56⟩,⟨n57,n58,n59,n60⟩,⟨n61,n62,n63⟩,⟨n64,n65⟩,n66⟩:=hne;refine wpIn_seq (wpIn_region_list ?_);have hmap:∀w:World,w.heap[b]? = some (.map ents clock)->(Instr.range T (.map (some b))).run P w=.ok (.pointer (some ⟨w.heap.size,0,none⟩)) (w.alloc (.mapIter (some b) clock #[] clock)):=by intro w hb;simp[Instr.range,run_underlying hT,Go.MapKept.run_getObj_map hb]
 refine YA (v:=.map (some b)) (w':=w) rfl (by simp[execOp,Y2,hm]) ?_;refine YA (v:=.pointer (some ⟨w.heap.size,0,none⟩)) (w':=w.alloc (.mapIter (some b) clock #[] clock)) rfl (by
  simp only[execOp,Y2,XS s5,if_true]
  simp_all) ?_
 show Exit.then _ _ .normal _ _;refine wpIn_block ?_;have hblt:b<w.heap.size:=(Array.getElem?_eq_some_iff.1 hb).1;refine Vt (λn f w'=>∃seen c x,n=(leftOf ents seen).size/\f.defers=[]/\f.tmps.size=a.tmps.size/\f.tmps.getD L undef=.map (some b)/\f.tmps.getD u undef=.int .i64 x /\
  f.tmps.getD N undef=.pointer (some ⟨w.heap.size,0,none⟩)/\w'.heap[w.heap.size]? = some (.mapIter (some b) clock seen c)/\clock<=c/\w.heap.size+1<=w'.heap.size/\Xfl w w' /\
  (x=n0\/∃e∈ents.toList,e.key=.int .i64 x)/\x<=n0/\∀e∈ents.toList,seen.contains e.born=true->∀n,e.key=.int .i64 n->x<=n) _ ⟨#[],clock,n0,rfl,?_⟩ ?_
 .have⟨g1,g2⟩:=heap_alloc w (.mapIter (some b) clock #[] clock);refine⟨ag,by simp[XJ],?_,?_,?_,g1,Uj _,ab,⟨g2,ab,rfl,rfl,rfl⟩,.inl rfl,Int.le_refl _,λe Y h=>by grind⟩
  .rw[XS (by rw[XJ];exact s4),Wk n2,XS s5,Wk n3];omega
  .rw[XS (by rw[XJ];exact s4),Wk n12,XS s5,Wk n13];omega
  rw[XS (by simp_all[XJ]),Wq rfl]
 rintro n f w' ⟨seen,c,x,rfl,hd',hsz',hm',hf',B,hit,hcc,hsz2,g,hx1,hx2,hx3⟩;have hb':w'.heap[b]? = some (.map ents clock):=by rw[g.1 b hblt];exact hb
 have S:∀{t},t<a.tmps.size->t<f.tmps.size:=λh=>by omega
 refine wpIn_seq (wpIn_region_list ?_);rcases run_next_at (P:=P) w' x2 w.heap.size b clock c seen ents clock hit hb' hc hcc with⟨h0,r⟩|⟨e,Y,w1,hw1,r⟩
 ·
  refine YA (v:=.tuple #[.bool false]) (w':=w') rfl (by simp[execOp,Y2,B,r]) ?_;refine YA (v:=.bool false) (w':=w') rfl (by simp only[execOp,Y2,XS (S s6),if_true];rfl) ?_;refine wpIn_seq (wpIn_cond_split (t:=false) (by rw[Y2,XS (by simp_all[XJ]),Wq rfl]) (λh=>by grind) λ_=>wpIn_exit ?_);show Exit.inBlock i0 _ (.exit i0) _ _;unfold Exit.inBlock;simp;refine fin _ _ x ag (by simp_all[XJ]) ?_ ?_ ⟨hx1,hx2,λe Y n hn=>hx3 e Y (all_seen ents seen h0 e Y) n hn⟩ g
  .rw[XS (by rw[XJ];exact S s7),Wk n5,XS (S s6),Wk n4];omega
  rw[XS (by rw[XJ];exact S s7),Wk n15,XS (S s6),Wk n14];omega
 
 obtain⟨D,hns⟩:=mem_left Y;obtain⟨ke,hke⟩:=hkey e D;generalize s:Go.ChangeMaps.setBlock w1 w.heap.size (.mapIter (some b) clock (seen.push e.born) clock)=w2 at r;have o:w1.heap=w'.heap:=by rcases hw1 with rfl|rfl<;>rfl
 have hlt2:w.heap.size<w'.heap.size:=aa;have y:w2.heap[w.heap.size]? = some (.mapIter (some b) clock (seen.push e.born) clock):=by subst s;simp[Go.ChangeMaps.setBlock,o,hlt2]
 have h2o:∀j,j≠w.heap.size->w2.heap[j]? = w'.heap[j]?:=by intro j hj;subst s;simp[Go.ChangeMaps.setBlock,o,Ne.symm hj]
 have h2s:w2.heap.size=w'.heap.size:=by subst s;simp[Go.ChangeMaps.setBlock,o]
 have h2b:w2.heap[b]? = some (.map ents clock):=by rw[h2o b aa];exact hb'
 have G:w2.os=w'.os/\w2.tape=w'.tape/\w2.output=w'.output:=by subst s;rcases hw1 with rfl|rfl<;>exact⟨rfl,rfl,rfl⟩
 have hnod:(ents.toList.map (·.born)).Nodup:=by rw[Ir];exact hp.imp λh=>Nat.ne_of_lt h
 have hent:=run_entry_at (P:=P) w2 w.heap.size b clock seen ents clock e y h2b D hnod;refine YA (v:=.tuple #[.bool true,e.key,e.val]) (w':=w2) rfl (by simp[execOp,Y2,B,r]) ?_;refine YA (v:=.bool true) (w':=w2) rfl (by simp only[execOp,Y2,XS (S s6),if_true];rfl) ?_;generalize H:(f.put (some O) (.tuple #[.bool true,e.key,e.val])).put (some U) (.bool true)=Z;have G2:∀t,Z.tmps.getD t undef=if t=U then .bool true else if t=O then .tuple #[.bool true,e.key,e.val]else f.tmps.getD t undef:=by intro t;subst H;rw[XS (by simp_all[XJ]),XS (S s6)]
 have Z2:Z.tmps.size=a.tmps.size:=by subst H;rw[XJ,XJ];exact hsz'
 have D2:Z.defers=[]:=by subst H;rw[Jp,Jp];exact hd'
 refine wpIn_seq (wpIn_cond_split (t:=true) (by rw[Y2,G2,Wq rfl]) (λ_=>wpIn_skip ?_) λh=>by grind);refine wpIn_block (wpIn_seq (wpIn_region_list ?_));have S2:∀{t},t<a.tmps.size->t<Z.tmps.size:=λh=>by omega
 refine YA (v:=.tuple #[e.key,e.val]) (w':=w2) rfl (by simp[execOp,Y2,G2,Wk,n24,n23,B,hent]) ?_;refine YA (v:=.int .i64 ke) (w':=w2) rfl (by simp only[execOp,Y2,XS (S2 s8),if_true];simp[Instr.extract,hke]) ?_;refine YA (v:=.int .i64 ke) (w':=w2) rfl (by simp only[execOp,Y2];rw[XS (by simp_all[XJ]),Wq rfl];rfl) ?_;generalize I:((Z.put (some V) (.tuple #[e.key,e.val])).put (some W) (.int .i64 ke)).put (some M) (.int .i64 ke)=J;have G3:∀t,J.tmps.getD t undef=if t=M then .int .i64 ke else if t=W then .int .i64 ke else if t=V then .tuple #[e.key,e.val]else Z.tmps.getD t undef:=by intro t;subst I;rw[XS (by simp_all[XJ]),XS (by simp_all[XJ]),XS (S2 s8)]
 have Z3:J.tmps.size=a.tmps.size:=by subst I;rw[XJ,XJ,XJ];exact Z2
 have D3:J.defers=[]:=by subst I;rw[Jp,Jp,Jp];exact D2
 have S3:∀{t},t<a.tmps.size->t<J.tmps.size:=λh=>by omega
 have f3:J.tmps.getD u undef=.int .i64 x:=by rw[G3,Wk n20,Wk n17,Wk n16,G2,Wk n15,Wk n14];exact hf'
 refine wpIn_region_list ?_;refine YA (v:=.int .i64 x) (w':=w2) rfl (by simp[execOp,Y2,f3]) ?_;refine YA (v:=.int .i64 ke) (w':=w2) rfl (by simp only[execOp,Y2,XS (S3 p)];rw[Wk (Ne.symm n62),G3,Wq rfl];rfl) ?_;refine YA (v:=.int .i64 (if ke<x then ke else x)) (w':=w2) rfl (by
  have e1:((J.put (some z) (.int .i64 x)).put (some A) (.int .i64 ke)).eval (.tmp z)=.int .i64 x:=by rw[Y2,XS (by rw[XJ];exact S3 q),Wk n61,XS (S3 p),Wq rfl]
  have e2:((J.put (some z) (.int .i64 x)).put (some A) (.int .i64 ke)).eval (.tmp A)=.int .i64 ke:=by rw[Y2,XS (by rw[XJ];exact S3 q),Wq rfl]
  simp[execOp,resolve,invoke,builtin,e1,e2,Builtin.min_,Builtin.min2]) ?_
 refine YA (v:=.int .i64 (if ke<x then ke else x)) (w':=w2) rfl (by simp only[execOp,Y2];rw[XS (by grind[XJ]),Wq rfl];rfl) ?_;refine⟨_,left_shrinks ents seen e Y,seen.push e.born,clock,if ke<x then ke else x,rfl,ag,by grind[XJ],?_,?_,?_,y,Uj _,aa,?_,?_,?_,?_⟩
 .rw[XS (by rw[XJ,XJ,XJ];exact S3 s2),Wk n1,XS (by rw[XJ,XJ];exact S3 s12),Wk n11,XS (by rw[XJ];exact S3 q),Wk n9,XS (S3 p),Wk n8,G3,Wk n10,Wk n7,Wk n6,G2,Wk n5,Wk n4];omega
 .rw[XS (by grind[XJ]),Wq rfl]
 .rw[XS (by rw[XJ,XJ,XJ];exact S3 s2),Wk (Ne.symm n12),XS (by rw[XJ,XJ];exact S3 s12),Wk n30,XS (by rw[XJ];exact S3 q),Wk n28,XS (S3 p),Wk n27,G3,Wk n29,Wk n26,Wk n25,G2,Wk n24,Wk n23];omega
 .have⟨q1,q2,q3,q4,q5⟩:=g;refine⟨λj hj=>?_,aa,G.1.trans q3,G.2.1.trans q4,G.2.2.trans q5⟩;grind
 .grind
 .omega
 intro e2 he2 l n2 hn2;simp at l;rcases l with l|l
 .grind
 have:e2=e:=by
  obtain⟨i,hi,rfl⟩:=WM he2;obtain⟨j,hj,rfl⟩:=WM D;have hpn:=UL.1 hp;rcases Nat.lt_trichotomy i j with h|h|h
  .have:=hpn i j (by simpa using hi) (by simpa using hj) h;rw[Oe,Oe,l]at this;exact absurd this (Ib _)
  .subst h;rfl
  have:=hpn j i (by simpa using hj) (by simpa using hi) h;rw[Oe,Oe,l]at this;exact absurd this (Ib _)
 grind
open Go.RowKit Go.WideShapes Go.ChangeShapes
variable {P:Program}
def Ke(w:World):Mem:=λb o=>match w.cell? ⟨b,o,none⟩with
 |some x=>bif x.oneCell' then some x else none
 |none=>none
def Xkk(w:World):MemOK (Ke w) w:=by intro b o x h;unfold Ke at h;grind
def Xeo{w:World}{b o:Nat}{x:Value}(h:w.cell? ⟨b,o,none⟩=some x)(e:x.oneCell'=true):Ke w b o=some x:=by unfold Ke;simp_all
def ShF(g:TypeId->List D->Prop):List TypeId->List D->Prop
 |[],e=>e=[]
 |f::h,e=>∃a b,e=a++b/\g f a/\ShF g h b
def Sh(P:Program):Nat->TypeId->List D->Prop
 |0,_,_=>False
 |m+1,t,f=>match P.underlying t with
  |some .bool=>∃b,f=[.v (.bool b)]
  |some (.int k)=>∃n,f=[.v (.int k n)]/\k.min<=n/\n<=k.max
  |some (.slice e)=>∃g,f=[.isl e (P.cellsOf e) g]/\g.length<=Xy/\g.length*P.bytesOf e<=Xy/\∀x∈g,Sh P m e x
  |some (.struct h)=>ShF (Sh P m) (h.toList.map (·.type)) f
  |_=>False
def VL(P:Program):Nat->List Field->Option Nat
 |n,[]=>some n
 |n,f::e=>if f.offset=n then VL P (n+P.cellsOf f.type) e else none
def okS(P:Program):Nat->TypeId->Bool
 |0,_=>false
 |m+1,t=>match P.underlying t with
  |some .bool=>true
  |some (.int _)=>true
  |some (.slice e)=>decide (0<P.cellsOf e)&&decide (0<P.bytesOf e)&&okS P m e
  |some (.struct g)=>(VL P 0 g.toList==some (P.cellsOf t))&&g.toList.all λf=>okS P m f.type
  |_=>false
def Xi2{j:TypeId->List D->Prop}(h:∀t e,j t e->∀d∈e,d.one=true):∀(g:List TypeId) (e:List D),ShF j g e->∀d∈e,d.one=true
 |[],e,k,d,hd=>by simp_all[ShF]
 |f::g,e,k,d,hd=>by
  obtain⟨a,b,rfl,o,l⟩:=k;rcases WH.1 hd with hd|hd
  .grind
  exact Xi2 h g b l d hd
def Xl9:∀(m:Nat) (t:TypeId) (e:List D),Sh P m t e->∀d∈e,d.one=true
 |0,_,_,h=>by simp_all[Sh]
 |m+1,t,e,h=>by
  unfold Sh at h;split at h
  .obtain⟨b,rfl⟩:=h;intro d hd;simp at hd;subst hd;rfl
  .obtain⟨n,rfl,_⟩:=h;intro d hd;simp at hd;subst hd;rfl
  .obtain⟨f,rfl,_⟩:=h;intro d hd;simp at hd;subst hd;rfl
  .exact Xi2 (Xl9 m) _ _ h
  simp_all
def Xep{α β:Type}{g:α->Option β}:∀{l:List α} {e:List β},l.mapM g=some e->e.length=l.length/\∀(i:Nat)y,l[i]? = some y->∃x,g y=some x/\e[i]? = some x
 |[],e,h=>by simp_all
 |y::l,e,h=>by simp only[List.mapM_cons,Option.bind_eq_bind,Option.bind_eq_some_iff,Option.pure_def,Wt]at h;obtain⟨x,k,j,f,rfl⟩:=h;have⟨o,p⟩:=Xep f;grind
def Xi3{α:Type}{p:Nat->α->Prop}:∀(n:Nat),(∀i,i<n->∃x,p i x)->∃l:List α,l.length=n/\∀(i:Nat)x,l[i]? = some x->p i x
 |0,_=>⟨[],rfl,λi x h=>by grind⟩
 |n+1,h=>by have⟨l,e,f⟩:=Xi3 n λi g=>h i aa;have⟨x,j⟩:=h n aa;refine⟨l++[x],by simp[e],λi y k=>?_⟩;grind
def Xh3{w:World}{base n:Nat}{a:Addr}{e:List Value}(h:w.cells? base a n=some e):e.length=n/\∀j,j<n->∃x,w.cell? (a.add j)=some x/\e[j]? = some x:=by
 unfold World.cells? at h;split at h
 .have⟨f,g⟩:=Xep h;refine⟨by simpa using f,λj k=>g j j (by simp[k])⟩
 simp_all
def Xkl{w:World}{a:Addr}{x:Value}(h:w.cell? a=some x):a=⟨a.block,a.off,none⟩:=by
 have⟨b,o,s⟩:=a;cases s with
 |none=>rfl
 |some s=>unfold World.cell? at h;grind
variable {H:Type}{enc:TypeId×Value->H}
def Xq6{k:IntKind}{n:Int}(h:(Lit.int k n).wf=true):k.min<=n/\n<=k.max:=by simp_all[Lit.wf]
def Xc1{w:World}{base:Nat}{spare:Nat->Bool}{N:Bool}:∀(m:Nat) (t:TypeId),okS P m t=true->∀(fuel:Nat) (J:List Value) (d:DataW H) (ps:List MemPlace),
 DataW.trod enc P w base spare N fuel t J=some (d,ps)->(∀x∈d.weights P t,x<=reachBytes)->∃q,Sh P m t q/\RepL P (Ke w) Yx q J
 |0,t,I,_,_,_,_,_,_=>by simp_all[okS]
 |m+1,t,I,0,J,d,ps,h,_=>by simp_all[DataW.trod]
 |m+1,t,I,fuel+1,J,d,ps,h,hw=>by
  unfold okS at I;split at I
  ·
   rename_i B;obtain⟨b,rfl,_⟩:=DataW.trod_bool B h;exact⟨[.v (.bool b)],by simp[Sh,B],by simp[RepL,Rep,wfV]⟩
  ·
   rename_i k B;obtain⟨n,rfl,_,S⟩:=DataW.trod_int B h;have S:=Xq6 S;exact⟨[.v (.int k n)],by simp only[Sh,B];exact⟨n,rfl,S⟩,by simp[RepL,Rep,wfV,S]⟩
  ·
   rename_i e B;simp at I;have⟨⟨hz,hby⟩,I⟩:=I;rcases DataW.trod_slice B h with⟨rfl,_⟩|⟨a,len,cap,elems,rest,n,S,rfl,hd,hb,hlc,hcm,l1,l2,_,_⟩
   .refine⟨[.isl e (P.cellsOf e) []],by simp[Sh,B],?_⟩;simp only[RepL,Rep];exact⟨_,_,rfl,⟨ab,ab,ab,none,0,rfl,Uj _,.inl trivial⟩,rfl⟩
   obtain rfl:fuel=n:=aa;obtain⟨rfl,_⟩:=hd;simp only[DataW.weights,B,W4,UT,WH,forall_eq_or_imp]at hw;have⟨hw1,hw2⟩:=hw;have hbytes:len*P.bytesOf e<=reachBytes:=by refine Uq (W5 _ ?_) hw1;omega
   have hreach:reachBytes<=Xy:=ae;have hlen47:len<=Xy:=Uq (Nat.le_mul_of_pos_right _ hby) (Uq hbytes hreach);have key:∀i,i<len->∃q E,Sh P m e q/\RepL P (Ke w) Yx q E/\E.length=P.cellsOf e/\∀j,j<P.cellsOf e->∃x,w.cell? ((a.add (i*P.cellsOf e)).add j)=some x/\E[j]? = some x:=by
    intro i T;have A:=l2 i T;rw[Wc aa]at A;obtain⟨E,hvs,A⟩:=Option.bind_eq_some_iff.1 A;obtain⟨c1,c2⟩:=Xh3 hvs;have hwx:∀y∈(elems[i]).1.weights P e,y<=reachBytes:=by
     intro y K;refine hw2 y (.inl ?_);have u:(elems[i]).1∈elems.map (·.1):=UM.2 ⟨_,WL _,rfl⟩;generalize elems.map (·.1)=L at u;induction L with
     |nil=>cases u
     |cons z L U=>
      simp only[DataW.weightsAll,WH];rcases UT.1 u with rfl|u
      .exact .inl K
      exact .inr (U u)
    obtain⟨q,s1,s2⟩:=Xc1 m e I fuel E _ _ A hwx;exact⟨q,E,s1,s2,c1,c2⟩
   rcases Uf len with rfl|V
   .refine⟨[.isl e (P.cellsOf e) []],by simp[Sh,B],?_⟩;simp only[RepL,Rep];exact⟨_,_,rfl,⟨ab,ab,ab,some a,cap,rfl,UP _,.inl trivial⟩,rfl⟩
   have hplain:a=⟨a.block,a.off,none⟩:=by obtain⟨_,_,_,_,_,c2⟩:=key 0 V;obtain⟨x,A,_⟩:=c2 0 hz;simp only[Nat.zero_mul,Addr.add,if_true]at A;exact Xkl A
   have⟨b,o,s⟩:=a;simp at hplain;subst hplain;have⟨W,e1,e2⟩:=Xi3 (α:=List D) (p:=λi q=>∃E,Sh P m e q/\RepL P (Ke w) Yx q E/\E.length=P.cellsOf e/\∀j,j<P.cellsOf e->∃x,w.cell? (((⟨b,o,none⟩:Addr).add (i*P.cellsOf e)).add j)=some x/\E[j]? = some x) len (λi T=>by
    obtain⟨q,E,h⟩:=key i T;exact⟨q,E,h⟩)
   have elen:∀x∈W,x.length=P.cellsOf e:=by intro x A;obtain⟨i,T,rfl⟩:=WM A;obtain⟨E,_,h2,h3,_⟩:=e2 i W[i] ab;rw[←h2.length,h3]
   refine⟨[.isl e (P.cellsOf e) W],?_,?_⟩
   .simp only[Sh,B];refine⟨W,rfl,aa,by rw[e1];omega,λx A=>?_⟩;obtain⟨i,T,rfl⟩:=WM A;exact(e2 i W[i] ab).choose_spec.1
   refine⟨_,_,rfl,⟨elen,aa,by rw[e1];omega,some ⟨b,o,none⟩,cap,by rw[e1],aa,.inr ⟨b,o,rfl,?_⟩⟩,rfl⟩;refine RepE.of (z:=P.cellsOf e) elen λi x A=>?_;have⟨E,h1,h2,h3,h4⟩:=e2 i x A;refine RepC.of λj dd Y=>?_;have⟨y,K,hr⟩:=h2.get j dd Y;have hj:j<P.cellsOf e:=by
    rcases Ur j E.length with h'|h'
    .omega
    rw[W3 h']at K;cases K
   have⟨y',Z,hy2⟩:=h4 j hj;rw[K]at hy2;obtain rfl:y=y':=by simpa using hy2
   refine⟨y,Xeo ?_ (XcP (Xl9 m e x h1 dd (Ue Y)) hr).1,hr⟩;rw[UV,UV]at Z;exact Z
  ·
   rename_i fs B;simp only[W9,beq_iff_eq,Ud]at I;have⟨hcon,hall⟩:=I;have⟨M,n,S,hd,hlen,G,hxs⟩:=DataW.trod_struct B h;obtain rfl:fuel=n:=aa;obtain⟨rfl,_⟩:=hd;have hw':∀x∈DataW.weightsEach P (fs.toList.map (·.type)) (M.map (·.1)),x<=reachBytes:=by simpa only[DataW.weights,B]using hw
   have mono:∀(l:List Field)n k,VL P n l=some k->n<=k:=by
    intro l;induction l with
    |nil=>intro n k h;simp only[VL,Wt]at h;omega
    |cons g l U=>
     intro n k h;simp only[VL]at h;split at h
     .have:=U _ _ h;omega
     cases h
   have main:∀(l:List Field) (off:Nat) (M:List (DataW H×List MemPlace)),VL P off l=some (P.cellsOf t)->(∀f∈l,okS P m f.type=true)->M.length=l.length ->
    (∀(i:Nat) (f:Field),l[i]? = some f->DataW.trod enc P w base spare N fuel f.type ((J.drop f.offset).take (P.cellsOf f.type))=M[i]?)->(∀x∈DataW.weightsEach P (l.map (·.type)) (M.map (·.1)),x<=reachBytes) ->
    ∃q,ShF (Sh P m) (l.map (·.type)) q/\RepL P (Ke w) Yx q (J.drop off):=by
    intro l
    induction l with
    |nil=>
     intro off M O _ _ _ _
     simp only[VL,Wt]at O
     refine⟨[],rfl,?_⟩
     rw[UN aa]
     simp[RepL]
    |cons f l U=>
     intro off M O hok G A R
     simp only[VL]at O
     split at O
     .rename_i hoff
      match M,G with
      |x::xs',G=>
       simp only[Ub,DataW.weightsEach,WH]at R
       have hle2:=mono _ _ _ O
       have hx1:=A 0 f ab
       simp only[List.getElem?_cons_zero]at hx1
       obtain⟨ds1,s1,r1⟩:=Xc1 m f.type (hok f ab) fuel _ x.1 x.2 hx1 (λy K=>R y (.inl K))
       obtain⟨ds2,s2,r2⟩:=U (off+P.cellsOf f.type) xs' O (λg hg=>hok g (Ul _ hg)) (by simpa using G) (λi g hg=>by simpa using A (i+1) g (by simpa using hg)) (λy K=>R y (.inr K))
       refine⟨ds1++ds2,⟨ds1,ds2,rfl,s1,s2⟩,?_⟩
       have hsp:J.drop off=(J.drop f.offset).take (P.cellsOf f.type)++J.drop (off+P.cellsOf f.type):=by
        rw[hoff,←Oo,List.take_append_drop]
       rw[hsp]
       exact r1.append r2
     .cases O
   have⟨q,s,r⟩:=main fs.toList 0 M hcon hall (by simpa using G) (λi f hf=>hxs i f (by simpa using hf)) hw';exact⟨q,by simp only[Sh,B];exact s,by exact r⟩
  simp_all
open Go.RowKit Go.WideShapes Go.ChangeShapes
variable {P:Program}
def Xma:Kl []=Yx:=by grind[Kl,Yx]
def XrY{G:Nat->Option (List D)}{f:FuncId}{args:List D}(s:YS P G f args [] (Eqs (.v (.bool true)) [])){W:World}{j:List Value}(u:∀g q,G g=some q->RepC P (Ke W) q g 0)(o:RepL P (Ke W) Yx args j):Calls P f ⟨j⟩ W λe W'=>e=.returned (.bool true)/\Below W.heap.size W W':=by refine(s.2 (Ke W) W j [] (Xkk W) u rfl On (λk ob x h=>ab) (by simp_all[Xma])).mono ?_;rintro e W' ⟨v,r,y,M',l,rfl,⟨rfl,rfl⟩,hK,_,_,_,_,p,_⟩;have⟨_,rfl,_⟩:=p;exact⟨rfl,hK.os,hK.tape,hK.output,hK.size,λk w=>hK.block k w ab⟩
section
variable {H:Type}{enc:TypeId×Value->H}
def Xd9{f:Func}{s:ChangeSpec}{apart fresh handsOn again:Bool}{W W':World}{args:Array Value}{v:Value}{l o:List (DataW H)}{before pa pv:List MemPlace}(w:DataW.Whole enc P f.params.toList s.vars apart W args.toList l o before)(h:∀(b:Nat) (sp:Nat->Bool) (hd:Bool),DataW.TrodAll enc P W' b sp hd f.resultTypes.toList (v.resultList f.resultTypes.size) (s.fn H (l++o)).results [])(e:∀sp:Nat->Bool,(∀p∈before,sp p.block=true)->DataW.TrodAll enc P W' 0 sp true f.params.toList args.toList (s.fn H (l++o)).args pa)(g:∀sp:Nat->Bool,(∀p∈before,sp p.block=true)->DataW.TrodVars enc P W' sp s.vars (s.fn H (l++o)).vars pv)(q:before=pa++pv)(hb:Below W.heap.size W W')(y:∀(j:Nat) (t:TypeId) (r:Value),f.resultTypes[j]? = some t->(v.resultList f.resultTypes.size)[j]? = some r->Value.okWide P W' .any 0 t r):
 s.post enc P f apart fresh handsOn again W args v W':=by
 have z:∀p∈before,p.block<W.heap.size:=λp hp=>w.lt p hp;have k:∀p∈before,(λb=>decide (b<W.heap.size)) p.block=true:=λp hp=>by simp_all
 refine⟨l,o,before,[],pa,pv,w,h _ _ _,e _ k,g _ k,World.keptBut_mono (λp hp=>⟨hp,?_⟩) (hb.frame (·∈before)),λ_=>?_⟩
 .simp_all
 have⟨_,_,_,_,_,A,B⟩:=w;refine⟨y,_,_,([]++pa)++pv,⟨[]++pa,pv,trodAll_append (e _ (λ_ _=>rfl)) (h _ _ _),g _ (λ_ _=>rfl),rfl,?_,?_⟩,?_⟩
 .intro b off hp;have u:MemPlace.cell b off∈before:=by rw[q];simpa using hp
  rw[hb.frozen (z _ u)];exact A b off u
 .intro D;have:=B D;rw[q]at this;exact this
 simp_all
def Xat{W W':World}(r:laidOutB P=true){sp:Nat->Bool}(hb:Below W.heap.size W W'):∀{k:List TypeId} {l:List Value} {o:List (DataW H)} {f:List MemPlace},(∀t∈k,P.readableRec t=true/\t<P.types.size) ->
 DataW.TrodAll enc P W 0 (λ_=>true) true k l o f->(∀x∈f,x.block<W.heap.size)->(∀x∈f,sp x.block=true)->DataW.TrodAll enc P W' 0 sp true k l o f
 |[],[],[],f,_,h,_,_=>h
 |[],[],_::_,_,_,h,_,_=>h.elim
 |[],_::_,_,_,_,h,_,_=>h.elim
 |_::_,[],_,_,_,h,_,_=>h.elim
 |_::_,_::_,[],_,_,h,_,_=>h.elim
 |t::k,v::l,d::o,f,s,h,g,j=>by
  obtain⟨p,q,u,w,rfl⟩:=h;have⟨y,z⟩:=s t ab;exact⟨p,q,WideElems.Trod_stays r y z u (λx e=>hb.same (g x (W6 _ e))) (λx e=>j x (W6 _ e)),
   Xat r hb (λt ht=>s t (Ul _ ht)) w (λx e=>g x (Ug _ e)) (λx e=>j x (Ug _ e)),rfl⟩
def Xsp{fn:Func}{s:ChangeSpec}{apart fresh handsOn again:Bool}{W W':World}{args:Array Value}{k l:List (DataW H)}{before:List MemPlace}{tb:TypeId}(v:s.vars=[])(e:fn.resultTypes=#[tb])(g:P.underlying tb=some .bool)(z:laidOutB P=true)(A:∀t∈fn.params.toList,P.readableRec t=true/\t<P.types.size)(w:DataW.Whole enc P fn.params.toList s.vars apart W args.toList k l before)(f:s.fn H (k++l)={results:=[.lit (.bool true)],args:=k})(y:Below W.heap.size W W'):
 s.post enc P fn apart fresh handsOn again W args (.bool true) W':=by
 have h:=w;obtain⟨p,q,B,j,rfl,D,E⟩:=w;rw[v]at j;match l,j with
 |[],j=>
  subst j;have o:∀x∈p++[],x.block<W.heap.size:=λx r=>h.lt x r;refine Xd9 (pa:=p) (pv:=[]) h ?_ (λsp u=>?_) (λsp _=>?_) rfl y ?_
  .intro b sp hd;rw[e,f];exact trodAll_mk1 (shut_bool g _)
  .rw[f];exact Xat z y A B (λx r=>o x (by simp_all)) (λx r=>u x (by simp_all))
  .rw[v,f];rfl
  exact ok_one e rfl (okWide_bool_mk g _)
end
def Xgz{H:Type}{enc:TypeId×Value->H}{W:World}:∀{e:List TypeId} {j:List Value} {f:List (DataW H)} {g:List MemPlace},DataW.TrodAll enc P W 0 (λ_=>true) true e j f g->f.length=e.length
 |[],[],[],g,_=>rfl
 |[],[],_::_,_,h=>h.elim
 |[],_::_,_,_,h=>h.elim
 |_::_,[],_,_,h=>h.elim
 |_::_,_::_,[],_,h=>h.elim
 |t::e,v::j,d::f,g,h=>by have⟨p,q,_,k,_⟩:=h;simp[Xgz k]
def Xq7{M:Mem}{W:World}{base:Nat}{t:TypeId}{a b:Nat}{z:Value}{f:List (Nat×Nat×Nat)}(ht:Xu P t=some ⟨a,b,z,.struct f⟩){v:Value}(g:Value.okWide P W .any base t v){e:List D}(h:RepL P M Yx e v.cells.toList):Rep P M Yx (.agg e) v:=by have⟨fields,j,_⟩:=Kt ht;obtain⟨k,rfl,_⟩:=okWide_struct j g;grind[Rep,Value.cells]
def Xmb{M:Mem}{v:Value}(e:v.cells=#[v]){d:D}(h:RepL P M Yx [d] v.cells.toList):Rep P M Yx d v:=by simp only[RepL]at h;simp_all
def XrZ{M:Mem}{W:World}{base:Nat}{t:TypeId}{a b e s:Nat}{z:Value}(ht:Xu P t=some ⟨a,b,z,.slice e s⟩){v:Value}(f:Value.okWide P W .any base t v){d:D}(h:RepL P M Yx [d] v.cells.toList):Rep P M Yx d v:=by obtain⟨_,_,_,rfl⟩:=okWide_slice (X4 ht).1 f;exact Xmb rfl h
def Xt9{M:Mem}{W:World}{base:Nat}{t:TypeId}{a b:Nat}{k:IntKind}{z:Value}(ht:Xu P t=some ⟨a,b,z,.int k⟩){v:Value}(e:Value.okWide P W .any base t v){d:D}(h:RepL P M Yx [d] v.cells.toList):Rep P M Yx d v:=by obtain⟨_,rfl⟩:=okWide_int (Xa1 ht) e;exact Xmb rfl h
def Xkm{H:Type}{enc:TypeId×Value->H}{W:World}(m:Nat):∀{e:List TypeId} {g:List Value} {f:List (DataW H)} {j:List MemPlace},(∀t∈e,okS P m t=true)->DataW.TrodAll enc P W 0 (λ_=>true) true e g f j ->
 (∀x∈DataW.weightsEach P e f,x<=reachBytes)->∃dss:List (List D),dss.length=e.length/\g.length=e.length/\∀(i:Nat)t,e[i]? = some t->∃f v,dss[i]? = some f/\g[i]? = some v/\Sh P m t f/\RepL P (Ke W) Yx f v.cells.toList
 |[],[],[],j,_,h,_=>⟨[],rfl,rfl,λi t h=>by grind⟩
 |[],[],_::_,_,_,h,_=>h.elim
 |[],_::_,_,_,_,h,_=>h.elim
 |_::_,[],_,_,_,h,_=>h.elim
 |_::_,_::_,[],_,_,h,_=>h.elim
 |t::e,v::g,d::f,j,l,h,hw=>by obtain⟨p,q,⟨fuel,o⟩,r,rfl⟩:=h;simp only[DataW.weightsEach,WH]at hw;have⟨s,w,y⟩:=Xc1 m t (l t ab) fuel _ d p o (λx k=>hw x (.inl k));have⟨dss,g1,g2,g3⟩:=Xkm m (λt ht=>l t (Ul _ ht)) r (λx k=>hw x (.inr k));refine⟨s::dss,by simp[g1],by simp[g2],λi u z=>?_⟩;grind
variable {P:Program}
section
variable {C:Cx}{s:Heap}{U:Nat->Prop}{M:Mem}{β:Loc}{w:World}
def UY.wide(I:UY P C s U M β w){id v E z:Nat}{j:List (List D)}(hs:s id=some (v,.arr false E z j 0))(L:j≠[]):UY P C (upd s id (some (v,.arr true E z j 0))) U M β w:=by
 have g:∀i f ob,upd s id (some (v,.arr true E z j 0)) i=some (f,ob)->∃e,s i=some (f,e)/\(ob=e\/(e=.arr false E z j 0/\ob=.arr true E z j 0)):=by
  intro i f ob h;by_cases N:i=id
  .simp_all[YO,Wt,Wy]
  simp_all[Yf,N]
 constructor
 .exact I.mem
 .exact I.used
 .intro i f ob h;have⟨e,k,G⟩:=g i f ob h;have⟨x,O,o⟩:=I.obs i f e k;refine⟨x,O,?_⟩;rcases G with rfl|⟨rfl,rfl⟩
  .omega
  cases x with
  |none=>simp_all[ObRep]
  |some bc=>have⟨R,T,k1,k2,S,V,W,Y,Z,k8,k9,p⟩:=o;refine⟨R,T,k1,k2,S,V,W,Y,Z,k8,k9,λi d hd=>?_⟩;have⟨y,hy,o⟩:=p i d hd;exact⟨y,hy,o.mono (MLe.refl _) (BLe.zero _)⟩
 .intro i f ob b q h hb;have⟨e,k,G⟩:=g i f ob h;rcases I.own i f e b q k hb with l|l
  .exact .inl l
  grind[Ob.bx]
 .intro i f ob J K r b q u h h' hb A;have⟨e,k,_⟩:=g i f ob h;have⟨B,l,_⟩:=g J K r h';exact I.inj i f e J K B b q u k l hb A
 .exact I.keep
 .exact I.old
 .exact I.le
 exact I.glob
end
def LoopG.v{C:Cx}{R:St->Prop}{c:Code}{k:List It}{st:St}{id v:Nat}(_:(st.s id).map (·.1)=some v)(h:∀w,w=v->LoopG P C R c k st trivial)(t:Prf c):LoopG P C R c k st t:=h v rfl
def LoopG.wide{C:Cx}{R:St->Prop}{c:Code}{k:List It}{st:St}{id v E z:Nat}{e:List (List D)}(g:st.s id=some (v,.arr false E z e 0))(f:e≠[])(h:LoopG P C R c k (nxS st none .any (upd st.s id (some (v,.arr true E z e 0))) st.n st.k) trivial)(t:Prf c):LoopG P C R c k st t:=by intro a w j;have⟨l,o,M,β,p,q,I⟩:=j;exact h a w ⟨l,o,M,β,p,q,I.wide g f⟩
def Gh(P:Program)(C:Cx)(Q:St->Prop)(st:St):Prop:=∃e,(∀a w,Rel P C st a w->Rel P C e a w)/\Q e
def Gh.no{C:Cx}{Q:St->Prop}{st:St}(h:Q st):Gh P C Q st:=⟨st,λ_ _ h=>h,h⟩
variable {P:Program}{C:Cx}
section
variable {s:Heap}{U:Nat->Prop}{M:Mem}{β:Loc}{w:World}
def UY.newRaw(h:UY P C s U M β w){ver:Nat}(z:¬U ver)(id:Nat)(o:Obj):
 UY P C (upd s id (some (ver,.raw o))) (λv=>U v\/v=ver) M (Zx β id ver (some (w.heap.size,0))) (w.alloc o)/\BLe β (Zx β id ver (some (w.heap.size,0))):=by
 have r:BLe β (Zx β id ver (some (w.heap.size,0))):=Zd (h.fresh z id);have e:∀o,M w.heap.size o=none:=by
  intro o;cases g:M w.heap.size o with
  |none=>rfl
  |some x=>exact absurd (h.mem.lt g) (Ib _)
 have f:∀k,k≠w.heap.size->(w.alloc o).heap[k]? = w.heap[k]?:=by intro k A;show(w.heap.push _)[k]? = _;rw[Array.getElem?_push,Wk A]
 have j:(w.alloc o).heap[w.heap.size]? = some o:=World.alloc_heap_new w o;refine⟨h.set id ver (.raw o) w.heap.size 0 (MLe.refl M) r f (λ_ _ _=>rfl) ?_ (XM ..) ⟨rfl,e,j⟩ ?_ (.inl h.keep.size) ?_ rfl rfl rfl ?_ Zm,r⟩
 .intro o x g;rw[e o]at g;cases g
 .intro l B p q _ D g;have⟨y,u,E⟩:=h.obs l B p D;rw[g]at u;obtain rfl:some (w.heap.size,q)=y:=by simpa using u
  exact absurd E.lt (Ib _)
 .intro G;exact absurd h.keep.size aa
 simp
def UY.raw(h:UY P C s U M β w){id ver b e:Nat}{o:Obj}(f:s id=some (ver,.raw o))(hb:β id ver=some (some (b,e))):e=0/\(∀i,M b i=none)/\w.heap[b]? = some o:=by
 have⟨x,j,g⟩:=h.obs id ver _ f;obtain rfl:some (b,e)=x:=by simp_all
 exact g
def UY.putRaw(h:UY P C s U M β w){id ver b z:Nat}{o:Obj}(f:s id=some (ver,.raw o))(hb:β id ver=some (some (b,z)))(o':Obj):
 UY P C (upd s id (some (ver,.raw o'))) U M β (w.putObj b o'):=by
 obtain⟨rfl,A,B⟩:=h.raw f hb;have g:b<w.heap.size:=(Array.getElem?_eq_some_iff.1 B).1;have:=h.set (M':=M) (β':=β) (w':=w.putObj b o') id ver (.raw o') b 0 (MLe.refl M) (BLe.refl β) (λk D=>World.putObj_heap_other D) (λ_ _ _=>rfl) ?_ hb ⟨rfl,A,World.putObj_heap_same g⟩ ?_ (by have:=h.own id ver _ b 0 f hb;exact this) (λ_ _=>rfl) rfl rfl rfl ab (λ_ _ _ e=>.inl e)
 .exact this.mono λv y=>by
   rcases y with y|rfl
   .omega
   exact h.used id _ _ hb
 .simp_all
 intro j E l p q r u;exact q (h.inj j E l id ver _ b p 0 r f u hb)
end
@[reducible] def Cx.inR(C:Cx)(l:Nat)(x:Mem×Loc):Cx:=⟨C.G,C.M0,C.w0,C.lb,x.2,x.1,C.off,some l,[]⟩
@[reducible] def Cx.mk'(C:Cx)(b:Loc)(D:Nat):Cx:=⟨C.G,C.M0,C.w0,C.lb,b,C.M1,C.off,C.rd,[{target:=.collected D,args:=#[]}]⟩
def YieldX.of{args:List D}{dst:Option Nat}{st:St}{K:St->Prop}{l kr v:Nat}{r:Loop}{cA cB:Code}{p1 p2:Nat}{q B:D}(tO:Nat->D)(nO m:Nat)(hs:st.s kr=some (v,.raw (.loop r)))(Z:r.state=.ready)(hA:r.assign=cA)(hB:r.body=cB)(hps:r.params=#[p1,p2])(E:p1<nO)(hp2:p2<nO)(u:args=[q,B])(hb:C.b0 kr v=some (some (l,0)))(y:r.tmps.size=nO)(hO:∀x,Rep P C.M1 C.b0 (tO x) (r.tmps.getD x undef))(h:∀x,run P (C.inR l x) (λ_=>False) m [.code cA,.stop λf=>f.s kr=some (v,.raw (.loop r)) /\
  run P (C.inR l x) (λsc=>sc.s kr=some (v,.raw (.loop {r with state:=.busy}))/\K (nxS st (XR dst st.n) (.v (.bool false)) (upd sc.s kr (some (v,.raw (.loop {r with state:=.done,pending:=some .ret})))) st.n sc.k)) m
   [.code cB,.stop λsc=>sc.s kr=some (v,.raw (.loop {r with state:=.busy}))/\K (nxS st (XR dst st.n) (.v (.bool true)) (upd sc.s kr (some (v,.raw (.loop {r with state:=.ready,pending:=none})))) st.n sc.k)]
   ⟨f.t,upd f.s kr (some (v,.raw (.loop {r with state:=.busy}))),f.n,f.k⟩] ⟨upd (upd tO p1 q) p2 B,st.s,nO,st.k⟩)(t:Prf args):YieldX P C l args dst st K t:=by
 intro M β w vs Y I G;subst u;obtain⟨j,_,rfl,hr1,L,_,rfl,hr2,rfl⟩:=G;have hl:=(I.raw hs (Y _ _ _ hb)).2.2;refine⟨r.fn,_,r.assign,r.body,run_yield hl (by simp_all),roundIn_of_wpIn trivial ?_⟩;have A:Rel P (C.inR l (M,β)) ⟨upd (upd tO p1 q) p2 B,st.s,nO,st.k⟩ ((({tmps:=r.tmps,defers:=[]}:Act).put (some p1) j).put (some p2) L) w:=by
  have hb:∀x,Rep P M β (tO x) (r.tmps.getD x undef):=λx=>(hO x).mono I.le Y;have hI:UY P (C.inR l (M,β)) st.s (·<st.k) M β w:=⟨I.mem,I.used,I.obs,I.own,I.inj,I.keep,I.old,MLe.refl M,λg cs hg=>RepC.mono I.le (I.glob g cs hg)⟩
  have h1:=Ox (C:=C.inR l (M,β)) (st:=⟨tO,st.s,nO,st.k⟩) (a:={tmps:=r.tmps,defers:=[]}) (dst:=some p1) (d:=q) (v:=j) rfl y (BLe.refl β) hb (MLe.refl M) (BLe.refl β) hI hr1;simp only[XR,Wq E,nxS]at h1;have N:(({tmps:=r.tmps,defers:=[]}:Act).put (some p1) j).tmps.size=nO:=by simpa [Act.put]using y
  have hb1:∀x,Rep P M β (upd tO p1 q x) ((({tmps:=r.tmps,defers:=[]}:Act).put (some p1) j).tmps.getD x undef):=λx=>by
   have e:(({tmps:=r.tmps,defers:=[]}:Act).put (some p1) j).tmps.getD x undef=if x=p1 then j else r.tmps.getD x undef:=by
    simp only[Act.put];by_cases hy:x=p1
    .subst hy;rw[Wq rfl];simp[y,E]
    rw[Wk hy];simp[Ne.symm hy]
   rw[e];unfold upd;grind
  have h2:=Ox (C:=C.inR l (M,β)) (st:=⟨upd tO p1 q,st.s,nO,st.k⟩) (a:=({tmps:=r.tmps,defers:=[]}:Act).put (some p1) j) (dst:=some p2) (d:=B) (v:=L) rfl N (BLe.refl β) hb1 (MLe.refl M) (BLe.refl β) hI hr2;simpa only[XR,Wq hp2,nxS]using h2
 have O:Rel P (C.inR l (M,β)) ⟨upd (upd tO p1 q) p2 B,st.s,nO,st.k⟩ {tmps:=(r.params.zip #[j,L]).foldl (λtmps (t,a)=>tmps.setIfInBounds t a) r.tmps,defers:=[]} w:=by rw[hps,show(#[p1,p2].zip #[j,L])=#[(p1,j),(p2,L)] by simp];exact A
 rw[hA,hB];refine wpIn_mono (Ym m _ O (h (M,β))) ?_;intro e a1 w1 o;cases e with
 |normal=>
  have⟨f,⟨g1,g2,M1,β1,g0,g3,J⟩,R,S⟩:=o;have T:=g0 _ _ _ (Y _ _ _ hb);have hl1:=(J.raw R T).2.2;refine⟨_,run_beginRound hl1 Z,?_⟩;refine wpIn_mono (Ym m _ (st:=⟨f.t,upd f.s kr (some (v,.raw (.loop {r with state:=.busy}))),f.n,f.k⟩) ⟨g1,g2,M1,β1,g0,g3,J.putRaw R T _⟩ S) ?_;intro e a2 w2 o;have fin:∀(jump:Option Code) (sc:St),Rel P (C.inR l (M,β)) sc a2 w2->sc.s kr=some (v,.raw (.loop {r with state:=.busy})) ->
   K (nxS st (XR dst st.n) (.v (.bool jump.isNone)) (upd sc.s kr (some (v,.raw (.loop {r with state:=if jump.isNone then .ready else .done,pending:=jump})))) st.n sc.k) ->
   ∃v' w',(Instr.endRound l jump).run P w2=.ok v' w'/\∃v d s' k' M' β',Ending.returned v'=.returned v/\UY P C s' (·<k') M' β' w'/\Rep P M' β' d v/\MLe M M'/\BLe β β'/\K (nxS st (XR dst st.n) d s' st.n k'):=by
   rintro jump sc ⟨k1,k2,M2,β2,k0,k3,J2⟩ V W
   have p:=k0 _ _ _ (Y _ _ _ hb)
   have hl2:=(J2.raw V p).2.2
   refine⟨_,_,run_endRound jump hl2,_,.v (.bool jump.isNone),_,sc.k,M2,β2,rfl,?_,by simp[Rep,wfV],J2.le,k0,W⟩
   have J3:=J2.putRaw V p (.loop {r with state:=if jump.isNone then .ready else .done,pending:=jump})
   exact⟨J3.mem,J3.used,J3.obs,J3.own,J3.inj,J3.keep,J3.old,I.le.trans J3.le,I.glob⟩
  cases e with
  |normal=>have⟨sc,G,hc,W⟩:=o;exact fin none sc G hc W
  |ret=>have⟨sc,G,hc,W⟩:=o;exact fin (some .ret) sc G hc W
  |exit id=>exact o.elim
  |_=>exact o.elim
 |ret=>have⟨_,_,hf⟩:=o;assumption
 |exit id=>assumption
 |_=>exact o.elim
def Xsq(FN FR:Loop->St->Prop)(e v:Nat)(st:St):Prop:=
 ∃r:Loop,st.s e=some (v,.raw (.loop r))/\r.state≠.busy/\((r.pending=none/\FN r st)\/(r.pending=some .ret/\FR r st))
def Xq8{a:Act}{w:World}{st:St}{R:AW}{k:List It}{g:Operand}{ps:Array Tmp}{cA cB:Code}(hrd:C.rd=none)(hdf:C.df=[])(hr:Rel P C st a w){gf:FuncId}{caps:List D}(hg:ev st.t C.G g=.clo (.func gf) [] caps)(j kd:Nat)(hne:j≠kd){fn:Func}{nt:Nat}(A:(P.funcs[gf]?,fn.body,fn.name== "runtime.NumGoroutine",fn.results,fn.ntmps,(caps.length+1).ble nt)=(some fn,some (fn.body.get!),false,⟨[]⟩,nt,true))(off m:Nat)(h:∀(l D:Nat) (r:Loop) (x:Mem×Loc),r.state=.ready->r.pending=none->r.params=ps->r.assign=cA->r.body=cB->r.tmps.size=st.n->x.2 j (st.k+1)=some (some (l,0))->x.2 kd st.k=some (some (D,0)) ->
  (∀y,Rep P x.1 x.2 (st.t y) (r.tmps.getD y undef))->BLe C.b0 x.2 ->
  run P (C.sub off x) (Xsq
      (λu f=>∀p q,Rel P (C.mk' x.2 D) ⟨st.t,upd f.s j (some (st.k+1,.raw (.loop {u with state:=.exhausted}))),st.n,f.k⟩ p q->sem P C R k none p q)
      (λu f=>∀p q,Rel P (C.mk' x.2 D) ⟨st.t,upd f.s j (some (st.k+1,.raw (.loop {u with state:=.exhausted}))),st.n,f.k⟩ p q->R p q) j (st.k+1)) m
   [.code (fn.body.get!)] (stI (.clo (.yield l) [] []::caps) (upd (upd st.s kd (some (st.k,.raw (.deferred (some []))))) j (some (st.k+1,.raw (.loop r)))) nt (st.k+2))):
 (Code.rangeFunc g ps cA cB).wpIn (fz C.rd) 0 P (VF R (sem P C R k)) a w:=by
 injection A with N A;injection A with hb A;injection A with hn A;injection A with hrs A;injection A with hnt z;have z:=IZ z;have⟨h1,h2,M,β,h0,h3,I⟩:=hr;have B:=XcU I h3 g;rw[hg]at B;have⟨_,O,B,rfl,L⟩:=B;refine wpIn_rangeFunc ?_;intro fi _;rw[show(fz C.rd).round=none from hrd];have⟨r,K⟩:∃r:Loop,r={state:=.ready,pending:=none,fn:=fi,tmps:=a.tmps,params:=ps,assign:=cA,body:=cB,defers:=w.heap.size}:=⟨_,rfl⟩
 have⟨W1,S⟩:∃W1,(w.alloc (.deferred (some []))).alloc (.loop r)=W1:=⟨_,rfl⟩
 refine⟨w.heap.size+1,[{target:=.collected w.heap.size,args:=#[]}],W1,{target:=.fn (.func gf) ⟨O⟩,args:=#[.func (.yield (w.heap.size+1)) #[] #[]]},W1,gf,
  #[.func (.yield (w.heap.size+1)) #[] #[]]++⟨O⟩,W1,?_,?_,λ_ _=>trivial,?_,λe=>(by cases e),?_⟩
 .rw[←S,K];exact run_enterLoop_outer _ _ _ _ _
 .simp only[resolve,B];simp[go_sem,Deferred.ofValue,pure]
 .have hn':¬fn.name = "runtime.NumGoroutine":=by simpa using hn
  have hb':¬fn.body=none:=by intro h0;rw[h0]at hb;simp at hb
  simp[go_sem,invoke,callFunc,N,hb',hn']
 refine XcX (calls_of_wp N hb ?_);have⟨I1,hB1⟩:=I.newRaw (ver:=st.k) (λh=>absurd h (Ib _)) kd (.deferred (some []));have⟨I2,E⟩:=I1.newRaw (ver:=st.k+1) (λh=>aa) j (.loop r);rw[World.size_alloc]at I2 E;rw[S]at I2;have T:=hB1.trans E;generalize hβ2:Zx (Zx β kd st.k (some (w.heap.size,0))) j (st.k+1) (some (w.heap.size+1,0))=β2 at I2 E T;have V:β2 j (st.k+1)=some (some (w.heap.size+1,0)):=by rw[←hβ2];exact XM ..
 have hkd:β2 kd st.k=some (some (w.heap.size,0)):=E _ _ _ (XM ..);have I3:UY P (C.sub off (M,β2)) (upd (upd st.s kd (some (st.k,.raw (.deferred (some []))))) j (some (st.k+1,.raw (.loop r)))) (·<st.k+2) M β2 W1:=
  ⟨I2.mem,λi v x e=>by rcases I2.used i v x e with(h|h)|h<;>omega,I2.obs,I2.own,I2.inj,I2.keep,I2.old,MLe.refl M,λg cs hg=>RepC.mono I.le (I.glob g cs hg)⟩
 have hvs:RepL P M β2 (.clo (.yield (w.heap.size+1)) [] []::caps) (.func (.yield (w.heap.size+1)) #[] #[]::O):=by simp only[RepL,Rep];exact⟨_,_,rfl,⟨[],[],rfl,rfl,rfl⟩,L.mono (MLe.refl M) T⟩
 have e0:(#[.func (.yield (w.heap.size+1)) #[] #[]]++(⟨O⟩:Array Value))=(⟨.func (.yield (w.heap.size+1)) #[] #[]::O⟩:Array Value):=by simp
 rw[e0];have W:Rel P (C.sub off (M,β2)) (stI (.clo (.yield (w.heap.size+1)) [] []::caps) (upd (upd st.s kd (some (st.k,.raw (.deferred (some []))))) j (some (st.k+1,.raw (.loop r)))) nt (st.k+2)) _ W1:=Jd rfl (BLe.refl _) hvs hnt aa I3;have Y:=Ym m _ W (h (w.heap.size+1) w.heap.size r (M,β2) (by grind) (by grind) (by grind) (by grind) (by grind) (by grind) V hkd (λy=>by rw[K];exact(h3 y).mono (MLe.refl M) T) (h0.trans T));refine wp_mono ((wpIn_wide (n:=0)).1 Y) ?_
 have fin:∀a1 w1,Z8 P (C.sub off (M,β2)) (Xsq
  (λu f=>∀p q,Rel P (C.mk' β2 w.heap.size) ⟨st.t,upd f.s j (some (st.k+1,.raw (.loop {u with state:=.exhausted}))),st.n,f.k⟩ p q->sem P C R k none p q)
  (λu f=>∀p q,Rel P (C.mk' β2 w.heap.size) ⟨st.t,upd f.s j (some (st.k+1,.raw (.loop {u with state:=.exhausted}))),st.n,f.k⟩ p q->R p q) j (st.k+1)) a1 w1 ->
  a1.defers=[]/\∃v,(results fn a1.tmps).run P w1=.ok v w1/\rangePost (fz C.rd) 0 P (w.heap.size+1) (VF R (sem P C R k)) {a with defers:=[{target:=.collected w.heap.size,args:=#[]}]++a.defers} (.returned v) w1:=by
  rintro a1 w1 ⟨f,⟨g1,g2,M',β',g0,g3,J⟩,u,Z,hst',hor⟩
  obtain⟨v,hv,_⟩:=Vj J g3 hrs (ds:=[]) (c:=True) rfl trivial
  have hl:=g0 _ _ _ V
  refine⟨g1,v,hv,_,_,run_endLoop (J.raw Z hl).2.2 hst',?_⟩
  have J2:=J.putRaw Z hl (.loop {u with state:=.exhausted})
  have o:Rel P (C.mk' β2 w.heap.size) ⟨st.t,upd f.s j (some (st.k+1,.raw (.loop {u with state:=.exhausted}))),st.n,f.k⟩ {a with defers:=[{target:=.collected w.heap.size,args:=#[]}]++a.defers} (w1.putObj (w.heap.size+1) (.loop {u with state:=.exhausted})):=by
   refine⟨by grind,h2,M',β',g0,λx=>(h3 x).mono J.le (T.trans g0),⟨J2.mem,J2.used,J2.obs,J2.own,J2.inj,J2.keep,J2.old,I.le.trans J2.le,I.glob⟩⟩
  generalize w1.putObj (w.heap.size+1) (.loop {u with state:=.exhausted})=w4 at o⊢
  rcases hor with⟨hp,N⟩|⟨hp,N⟩
  .rw[hp];exact N _ _ o
  .rw[hp];exact wpIn_ret (N _ _ o)
 intro e p q hq;cases e with
 |normal=>exact fin p q hq
 |ret=>exact fin p q hq
 |exit id=>assumption
 |_=>exact hq.elim
def Xh4(P:Program)(C:Cx)(Q:St->Prop):AW:=λa w=>∃D kd v e,BLe C.b0 e/\e kd v=some (some (D,0)) /\
 Z8 P (C.mk' e D) (λst=>st.s kd=some (v,.raw (.deferred (some [])))/\Q ⟨st.t,upd st.s kd (some (v,.raw (.deferred none))),st.n,st.k⟩) a w
def Xc2{G:Nat->Option (List D)}{f:FuncId}{fn:Func}{body:Code}{rs:List ResultVar}{args:List D}{lent:List Ob}{R':D->List Ob->Prop}(y:List Nat)(nt:Nat)(L:P.funcs[f]? = some fn)(hb:fn.body=some body)(S:(fn.name== "runtime.NumGoroutine")=false)(o:fn.results=⟨rs⟩)(A:fn.ntmps=nt)(l:args.length<=nt)(h:∀(C:Cx)x,C.G=G->C.lb.length=lent.length->WfL P args->∀a w,Rel P (C.sub 0 x) (st0 args lent nt) a w ->
  sem P (C.sub 0 x) (λa w=>Z8 P (C.sub 0 x) (JM P rs y lent.length R') a w\/Xh4 P (C.sub 0 x) (JM P rs y lent.length R') a w) [.code body] none a w):YS P G f args lent R':=by
 refine⟨⟨fn,L,by grind,S⟩,λM w vs lb T V g B E p=>?_⟩;refine callsIn_wide.1 (callsIn_of_wp_marks (F:=Fence.wide) (n:=0) L hb trivial ?_);have I0:=XbJ (G:=G) T V g B E;have q:Rel P ⟨G,M,w,lb.map (·.1),Kl lb,M,0,none,[]⟩ (st0 args lent nt) _ w:=Jd rfl (BLe.refl _) p A l I0;have r:=h ⟨G,M,w,lb.map (·.1),Kl lb,M,0,none,[]⟩ (M,Kl lb) rfl (by simp_all) p.wf _ _ q;refine wpIn_mono r ?_;have fin:∀a w',(Z8 P ⟨G,M,w,lb.map (·.1),Kl lb,M,0,none,[]⟩ (JM P rs y lent.length R') a w'\/Xh4 P ⟨G,M,w,lb.map (·.1),Kl lb,M,0,none,[]⟩ (JM P rs y lent.length R') a w') ->
  LeavesInM Fence.wide 0 P fn a.tmps (Xos P M w lb R') a.defers .returning w':=by
  rintro a w' (j|⟨D,kd,v,W,J,K,j⟩)
  .have hd:a.defers=[]:=by obtain⟨st,z,_⟩:=j;exact z.1
   rw[hd]
   exact Xa8 rfl (BLe.refl _) g o a w' j
  .have⟨st,⟨z,Y,M',β',N,Z,I⟩,O,u⟩:=j
   rw[z]
   have R:=N _ _ _ K
   have hh:=(I.raw O R).2.2
   refine⟨ab,.inl ⟨D,_,rfl,run_takeDeferred hh,?_⟩⟩
   exact Xa8 (C:=Cx.mk' ⟨G,M,w,lb.map (·.1),Kl lb,M,0,none,[]⟩ W D) rfl J g o a _ ⟨⟨st.t,upd st.s kd (some (v,.raw (.deferred none))),st.n,st.k⟩,⟨z,Y,M',β',N,Z,I.putRaw O R _⟩,u⟩
 intro e a w' j;cases e with
 |normal=>exact fin a w' j
 |ret=>exact fin a w' j
 |exit id=>assumption
 |_=>exact j.elim
variable {P:Program}{C:Cx}
def Xkn{R:AW}{id:Nat}{c:Code}{k:List It}{a:Act}{w:World}(h:sem P C R (.code c::.blk id::k) none a w):sem P C R (.code (.block id c)::k) none a w:=by
 refine wpIn_block (wpIn_mono h ?_);intro e g w' f;cases e with
 |exit i=>
  simp only[Exit.inBlock];have f:sem P C R (.blk id::k) (some i) g w':=f;unfold sem at f;split at f<;>rename_i e
  .rw[Wq e];exact f
  rw[Wk e];exact f
 |_=>exact f
def Xmc:List It->Bool
 |[]=>true
 |.stop _::_=>false
 |.ops _ _::_=>false
 |_::k=>Xmc k
def Jq{C':Cx}(f:C'.rd=C.rd){R R':AW}(l:∀a w,R' a w->R a w):∀(k:List It),Xmc k=true->∀e a w,sem P C' R' k e a w->sem P C R k e a w
 |[],_,none,a,w,h=>l a w h
 |[],_,some _,a,w,h=>h.elim
 |.blk j::k,g,none,a,w,h=>Jq f l k g none a w h
 |.blk j::k,g,some i,a,w,h=>by
  unfold sem at h⊢;split
  .rename_i e;rw[Wq e]at h;exact Jq f l k g none a w h
  rename_i e;rw[Wk e]at h;exact Jq f l k g (some i) a w h
 |.code c::k,g,some i,a,w,h=>Jq f l k g (some i) a w h
 |.code c::k,g,none,a,w,h=>by
  have h:c.wpIn (fz C'.rd) 0 P (VF R' (sem P C' R' k)) a w:=h;rw[f]at h;refine wpIn_mono h ?_;intro e p q o;cases e with
  |normal=>exact Jq f l k g none p q o
  |exit i=>exact Jq f l k g (some i) p q o
  |ret=>exact l p q o
  |_=>exact o
def Xqg:List It->Bool
 |[]=>true
 |.ops _ _::_=>false
 |_::k=>Xqg k
def KD{R R':AW}(g:∀a w,R' a w->R a w):∀(k:List It),Xqg k=true->∀e a w,sem P C R' k e a w->sem P C R k e a w
 |[],_,none,a,w,h=>g a w h
 |[],_,some _,a,w,h=>h.elim
 |.stop _::k,_,none,a,w,h=>h
 |.stop _::k,f,some i,a,w,h=>KD g k f (some i) a w h
 |.blk j::k,f,none,a,w,h=>KD g k f none a w h
 |.blk j::k,f,some i,a,w,h=>by
  unfold sem at h⊢;split
  .rename_i e;rw[Wq e]at h;exact KD g k f none a w h
  rename_i e;rw[Wk e]at h;exact KD g k f (some i) a w h
 |.code c::k,f,some i,a,w,h=>KD g k f (some i) a w h
 |.code c::k,f,none,a,w,h=>by
  refine wpIn_mono h ?_;intro e o p l;cases e with
  |normal=>exact KD g k f none o p l
  |exit i=>exact KD g k f (some i) o p l
  |ret=>exact g o p l
  |_=>exact l
def Xbc{R:AW}{g j:List It}(h:∀e a w,sem P C R g e a w->sem P C R j e a w):∀(k1:List Code) (e:Option Nat) (a:Act) (w:World),sem P C R (k1.map It.code++g) e a w->sem P C R (k1.map It.code++j) e a w
 |[],e,a,w,f=>h e a w f
 |c::k1,none,a,w,f=>by
  refine wpIn_mono f ?_;intro e k l f;cases e with
  |normal=>exact Xbc h k1 none k l f
  |exit i=>exact Xbc h k1 (some i) k l f
  |_=>exact f
 |_::k1,some i,a,w,f=>Xbc h k1 (some i) a w f
def Xo4{R:AW}{x y:Code}{k:List It}(e:Option Nat)(a:Act)(w:World)(h:sem P C R (.code x::.code y::k) e a w):sem P C R (.code (.seq x y)::k) e a w:=by
 cases e with
 |some i=>exact h
 |none=>refine wpIn_seq (wpIn_mono h ?_);intro e g j f;cases e<;>exact f
variable {P:Program}
def Xq9{C:Cx}{s:Heap}{id v T z:Nat}{g J:List D}{c:Prop}{l:List Nat}(Z:s id=some (v,.arr true T z [g] 0))(K:ZO s g=some (c,J,l))(hc:c)(V:J.length=z):RoA P C s [.ept id v z 0 0] [.ipt z J 0]:=by
 intro s' U M β w vs p I hr;have q:=p _ _ Z;have r:=Jm p K;obtain⟨y,_,rfl,⟨b,W,hb,rfl⟩,rfl⟩:=hr;have⟨M1,I1,Y,hF⟩:=I.freeze l;have⟨x,hx,L⟩:=I.obs id v _ q;obtain rfl:some (b,W)=x:=by simp_all
 have⟨f,T0,k1,k2,k3,k4,k5,k6,k7,k8,k9,N⟩:=L;have O:g.length=z:=k3 g ab;have R:frz s' l id=some (v,.arr true T z [g] 0):=by
  unfold frz;split
  .rw[q];rfl
  omega
 have⟨x1,hx1,u⟩:=I1.obs id v _ R;obtain rfl:some (b,W)=x1:=by simp_all
 obtain⟨_,_,_,_,_,_,_,_,_,_,j9,_⟩:=u;have A:∀i,i<z->∃d x,g[i]? = some d/\f[i]? = some x/\Rep P M β d x:=λi G=>by have hd:g[i]? = some (g[i]'aa):=Wc _;obtain⟨x,B,k⟩:=N i _ (by rw[List.flatten_cons,List.flatten_nil,If];exact hd);exact⟨_,x,hd,B,k⟩
 have hsz:z<=f.size:=by
  rcases Uf z with h|h
  .omega
  grind
 have hL:RepL P M β g (f.toList.take z):=by
  refine RepL.of (by simp_all) λi d x B k=>?_;have G:i<z:=by rw[←O];exact(Iw.1 B).1
  obtain⟨d',x',g1,g2,g3⟩:=A i G;rw[B]at g1;cases g1;rw[List.getElem?_take_of_lt G,UW,g2]at k;cases k;exact g3
 have S:=Ku I Y r hc hF hL;let M2:Mem:=λj o=>if j=b/\o<z then f[o]? else M1 j o
 have E:MLe M1 M2:=λj o x h=>by grind
 refine⟨M2,Y.trans E,λj o x h=>?_,?_⟩
 .have h:(if j=b/\o<z then f[o]? else M1 j o)=some x:=h;split at h
  .rename_i e;rw[e.1,cell_of_row w b o f T0 (0,0) k1];grind
  exact I1.mem j o x h
 refine⟨_,_,rfl,⟨V,b,0,ab,RepC.of λi d hd=>?_⟩,rfl⟩;have⟨x,B,k⟩:=S.get i d hd;have G:i<z:=by rw[←V];exact(Iw.1 hd).1
 exact⟨x,by grind,k.mono E (BLe.refl _)⟩
variable {P:Program}{C:Cx}{st:St}{a:Act}{w:World}
def Xsr{c:Code}{Q:St->Prop}{K:Exit->AW}(f:C.rd=none)(l:Rel P C st a w)(m:Nat)(h:run P C (λ_=>False) m [.code c,.stop Q] st)(k:∀st a w,Rel P C st a w->Q st->K .normal a w):c.wpIn Fence.wide 0 P K a w:=by
 have j:c.wpIn (fz C.rd) 0 P (VF (Z8 P C λ_=>False) (sem P C (Z8 P C λ_=>False) [.stop Q])) a w:=Ym m _ l h;rw[f]at j;refine wpIn_mono j ?_;intro e r u g;cases e with
 |normal=>have⟨o,p,q⟩:=g;grind
 |ret=>have⟨_,_,v⟩:=g;simp_all
 |_=>exact g.elim
def Xss{c:Code}{Q:St->Prop}{K:Exit->AW}(f:C.rd=none)(l:Rel P C st a w)(m:Nat)(h:run P C Q m [.code c] st)(k:∀a w,Z8 P C Q a w->K .normal a w/\K .ret a w):c.wpIn Fence.wide 0 P K a w:=by
 have j:c.wpIn (fz C.rd) 0 P (VF (Z8 P C Q) (sem P C (Z8 P C Q) [])) a w:=Ym m _ l h;rw[f]at j;refine wpIn_mono j ?_;intro e o p g;cases e with
 |normal=>exact(k _ _ g).1
 |ret=>exact(k _ _ g).2
 |_=>exact g.elim
@[reducible] def Cx.dfr(C:Cx)(M:Mem)(β:Loc)(l:List Deferred):Cx:=⟨C.G,C.M0,C.w0,C.lb,β,M,C.off,none,l⟩
def UY.dfr{s:Heap}{U:Nat->Prop}{M:Mem}{β:Loc}(l:List Deferred)(I:UY P C s U M β w):UY P (C.dfr M β l) s U M β w:=
 ⟨I.mem,I.used,I.obs,I.own,I.inj,I.keep,I.old,MLe.refl _,λg e f=>RepC.mono I.le (I.glob g e f)⟩
def Xmd{o:Oper}{c:Call}{x:Operand}{g:Nat}{caps:List D}(j:o.op=.defer c)(p:c.callee=.value x)(q:c.args=#[])(hd:o.dst=none)(r:ev st.t C.G x=.clo (.func g) [] caps)(u:C.rd=none)(v:C.df=[])(y:Rel P C st a w){K:AW}{Q:Exit->AW}(k:∀vb M β,RepL P M β caps vb->BLe C.b0 β->∀a,Rel P (C.dfr M β [⟨.fn (.func g) ⟨vb⟩,#[]⟩]) st a w->K a w):o.wpIn Fence.wide 0 P a w K Q:=by
 have⟨E,z,M,β,A,l,I⟩:=y;have f:=XcU I l x;rw[r]at f;obtain⟨va,vb,e,rfl,hb⟩:=f;refine⟨λ_ _=>trivial,?_⟩;rw[show Fence.wide.round=none from rfl,Oper.semAt_none];have B:(execOp a.eval o).run P w=.ok (.defer ⟨.fn (.func g) ⟨vb⟩,#[]⟩) w:=by have h:=Xcb (P:=P) (g:=g) (va:=[]) (vb:=vb) (vs:=[]) (w:=w);unfold execOp;simp only[j,resolve,p,q,e];simp only[Array.map_empty]at h⊢;simp[go_sem,h]
 rw[B,Oper.uponIn_defer,hd];exact k vb M β hb A _ ⟨by show _::a.defers=_;simp_all,z,M,β,BLe.refl _,l,I.dfr _⟩
def Xh5{fn gn:Func}{g:FuncId}{tmps:Array Value}{R:Ending->World->Prop}{j:List Value}{u:FrameMode}(p:u≠.run)(q:P.funcs[g]? = some gn)(hb:gn.body.isNone=false)(r:(gn.name== "runtime.NumGoroutine")=false)(h:CallsDIn Fence.wide 0 P g ⟨j⟩ u w λe k f=>(∃v,e=.returned v)/\settle k=.returning/\∃v,(results fn tmps).run P f=.ok v f/\R (.returned v) f):
 LeavesIn Fence.wide 0 P fn tmps R [⟨.fn (.func g) ⟨j⟩,#[]⟩] u w:=by
 have l:¬gn.name = "runtime.NumGoroutine":=by simpa using r
 have o:¬gn.body=none:=by intro y;rw[y]at hb;simp at hb
 refine⟨p,λe=>(by cases e),.func g,⟨j⟩,g,⟨j⟩,rfl,by simp[go_sem,invoke,callFunc,q,o,l],λ_ _=>trivial,h.mono ?_⟩;rintro e k f ⟨⟨v,rfl⟩,z,A⟩;show LeavesIn Fence.wide 0 P fn tmps R [] (settle k) f;rw[z];exact A
def Xea{G:Nat->Option (List D)}{f:FuncId}{fn:Func}{body:Code}{rs:List ResultVar}{args:List D}{lent:List Ob}{R':D->List Ob->Prop}(fr:List Nat)(nt:Nat)(u:P.funcs[f]? = some fn)(hb:fn.body=some body)(y:(fn.name== "runtime.NumGoroutine")=false)(o:fn.results=⟨rs⟩)(p:fn.ntmps=nt)(g:args.length<=nt)(h:∀(C:Cx)x(R:Ending->World->Prop),C.G=G->C.lb.length=lent.length->WfL P args ->
  (∀C':Cx,C'.lb=C.lb->C'.M0=C.M0->C'.w0=C.w0->BLe x.2 C'.b0->∀a j,Z8 P C' (JM P rs fr lent.length R') a j->∃v,(results fn a.tmps).run P j=.ok v j/\R (.returned v) j) ->
  ∀a w,Rel P (C.sub 0 x) (st0 args lent nt) a w->body.wpIn Fence.wide 0 P (bodyPostDIn Fence.wide 0 P fn R) a w):YS P G f args lent R':=by refine⟨⟨fn,u,by simp[hb],y⟩,λM w I lb z A e q r k=>?_⟩;refine callsIn_wide.1 (callsIn_of_wp_defers (F:=Fence.wide) (n:=0) u hb trivial ?_);have I0:=XbJ (G:=G) z A e q r;have l:Rel P ⟨G,M,w,lb.map (·.1),Kl lb,M,0,none,[]⟩ (st0 args lent nt) _ w:=Jd rfl (BLe.refl _) k p g I0;refine h ⟨G,M,w,lb.map (·.1),Kl lb,M,0,none,[]⟩ (M,Kl lb) _ rfl (by rw[←e];exact W4 ..) k.wf (λC' B J e3 e4 a j E=>?_) _ _ l;have:=Xa8 (C:=C') (rs:=rs) (fr:=fr) B e4 e o a j E;simp_all
variable {P:Program}{C:Cx}{st:St}{a:Act}{w:World}
def Xst:List Code->Code->Code
 |[],c=>c
 |x::l,c=>.seq x (Xst l c)
def Xau{R:AW}{Q:St->Prop}{i:Nat}:∀(l:List Code) {a:Act} {w:World},sem P C R (l.map It.code++[.stop Q]) (some i) a w->False
 |[],_,_,h=>h
 |_::l,_,_,h=>Xau l h
def Xh6{Q:St->Prop}{K:Exit->AW}(g:C.rd=none){c:Code}(k:∀st a w,Rel P C st a w->Q st->c.wpIn Fence.wide 0 P K a w):∀(l:List Code) (a:Act) (w:World),
 sem P C (Z8 P C λ_=>False) (l.map It.code++[.stop Q]) none a w->(Xst l c).wpIn Fence.wide 0 P K a w
 |[],a,w,h=>by have⟨st,o,f⟩:=h;exact k st a w o f
 |x::l,a,w,h=>by
  have j:x.wpIn (fz C.rd) 0 P (VF (Z8 P C λ_=>False) (sem P C (Z8 P C λ_=>False) (l.map It.code++[.stop Q]))) a w:=h;rw[g]at j;refine wpIn_seq (wpIn_mono j ?_);intro e p q f;cases e with
  |normal=>exact Xh6 g k l p q f
  |ret=>have⟨_,_,r⟩:=f;simp_all
  |exit i=>exfalso;exact Xau l f
  |_=>exact f.elim
end Go.Sx
