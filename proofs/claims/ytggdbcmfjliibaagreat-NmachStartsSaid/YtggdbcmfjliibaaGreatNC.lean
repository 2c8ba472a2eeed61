import Derived.KernelRfl
import Derived.Test.YtggdbcmfjliibaaGreatNA
set_option linter.all false
namespace Go.Sx
structure TIns where
 Op:Int
 A:Int
 B:Int
 C:Int
 K:Int
structure TCode where
 Args:Int
 Ins:List TIns
structure TFrame where
 Pc:Int
 Regs:List Int
 Err:Int
structure TConf where
 PageWords:Int
 Pages:Int
structure TPage where
 Kind:Int
 Space:Int
 Used:Int
 Pins:Int
structure THeap where
 Conf:TConf
 Words:List Int
 Pages:List TPage
 Space:Int
 Bump:Int
structure TSlot where
 Stamp:Int
 Ref:Int
 Live:Bool
structure TScope where
 From:Int
 Cap:Int
 Base:Bool
structure TLocals where
 Slots:List TSlot
 Scopes:List TScope
 Issued:List Int
structure TEntry where
 Gen:Int
 Ref:Int
 Live:Bool
structure TTable where
 Entries:List TEntry
structure TPin where
 Ref:Int
 Count:Int
structure TEnv where
 Heap:THeap
 Locals:TLocals
 Globals:TTable
 Weaks:TTable
 Pins:List TPin
 Roots:List Int
structure THeader where
 Kind:Int
 Length:Int
 Map:Int
structure TThing where
 Header:THeader
 Fields:List Int
structure TMark where
 Id:Int
 Count:Int
 Base:Int
structure TWorld where
 Conf:TConf
 Things:List TThing
 Locals:TLocals
 Globals:TTable
 Weaks:TTable
 Marks:List TMark
 Roots:List Int
structure TPair where
 Env:TEnv
 World:TWorld
 Words:List Int
structure TEvent where
 Kind:Int
 Value:Int
 Ins:TIns
structure TFact where
 Failed:Bool
 Collected:Bool
 Base:Int
structure TField where
 Width:Int
 Value:Int
structure TTape where
 L:List Int
 at_:Int
structure Tframes where
 Locals:TLocals
structure TFinding where
 Fault:Int
 Page:Int
 Addr:Int
structure Tfound where
 addr:Int
 hd:THeader
@[simp] abbrev zWd:TWorld:=TWorld.mk (TConf.mk 0 0) [] (TLocals.mk [] [] []) (TTable.mk []) (TTable.mk []) [] []
@[simp] abbrev zHp:THeap:=THeap.mk (TConf.mk 0 0) [] [] 0 0
def ncode_Ins_formed (N:Nat) (a0:TIns):Option Bool :=
 bif (decide (a0.Op>=1)) then (bif (decide (a0.Op<=17)) then (bif (decide (a0.A>=0)) then (bif (decide (a0.A<8)) then (bif (decide (a0.B>=0)) then (bif (decide (a0.B<=255)) then (bif (decide (a0.C>=0)) then some (decide (a0.C<8))
             else some false)
  else some false)
  else some false)
  else some false)
  else some false)
  else some false)
 else some false
def ncode_Code_formed_l1 (N:Nat) (a0:TCode):Nat->Int->Option (Ex Bool Unit)
 | 0,_=>none
 | n+1,v1 =>
  bif (decide (v1<((a0.Ins.length:Nat):Int))) then (bnd (getI a0.Ins v1) fun p2 =>
   bnd (ncode_Ins_formed N p2) fun y3 =>
   bif (!y3) then some (.ret false)
   else ncode_Code_formed_l1 N a0 n (wI (v1+1)))
  else some (.nxt ())
def ncode_Code_formed (N:Nat) (a0:TCode):Option Bool :=
 bif (decide (a0.Args<0)) then some false
 else bif (decide (a0.Args>3)) then some false
 else bif (decide (((a0.Ins.length:Nat):Int)>256)) then some false
 else bnd (ncode_Code_formed_l1 N a0 N 0) fun e=>exK e (fun r=>some r) fun y4 =>
 some true
def bits_Ones_l1 (N:Nat) (a0:Int):Nat->Int->Int->Option Int
 | 0,_,_=>none
 | n+1,v1,v2 =>
  bif (decide (v2<(if 64<(if a0<0 then 0 else a0) then 64 else (if a0<0 then 0 else a0)))) then bits_Ones_l1 N a0 n (bOr .u64 (sShl .u64 v1 1) 1) (wI (v2+1))
  else some v1
def bits_Ones (N:Nat) (a0:Int):Option Int :=
 bnd (bits_Ones_l1 N a0 N 0 0) fun y3 =>
 some y3
def bits_fits (N:Nat) (a0:Int) (a1:Int):Option Bool :=
 bnd (bits_Ones N a1) fun y1 =>
 some ((bAndNot .u64 a0 y1)==0)
def bits_Pack_l1 (N:Nat) (a0:List TField):Nat->Int->Int->Option (Ex (Int×Int) Unit)
 | 0,_,_=>none
 | n+1,v1,v2 =>
  bif (decide (v2<((a0.length:Nat):Int))) then (bnd (getI a0 v2) fun p3 =>
   bif (decide (p3.Width<1)) then some (.ret (0,1))
   else bif (decide (p3.Width>v1)) then some (.ret (0,1))
   else bits_Pack_l1 N a0 n (wI (v1-p3.Width)) (wI (v2+1)))
  else some (.nxt ())
def bits_Pack_l2 (N:Nat) (a0:List TField):Nat->Int->Int->Int->Option (Ex (Int×Int) Int)
 | 0,_,_,_=>none
 | n+1,v5,v6,v7 =>
  bif (decide (v7<((a0.length:Nat):Int))) then (bnd (getI a0 v7) fun p8 =>
   bnd (bits_fits N p8.Value p8.Width) fun y9 =>
   bif (!y9) then some (.ret (0,2))
   else grd (0<=v6) <|
   bits_Pack_l2 N a0 n (bOr .u64 v5 (sShl .u64 p8.Value v6)) (wI (v6+p8.Width)) (wI (v7+1)))
  else some (.nxt v5)
def bits_Pack (N:Nat) (a0:List TField):Option (Int×Int) :=
 bnd (bits_Pack_l1 N a0 N 64 0) fun e=>exK e (fun r=>some r) fun y4 =>
 bnd (bits_Pack_l2 N a0 N 0 0 0) fun e=>exK e (fun r=>some r) fun y10 =>
 some (y10,0)
def ncode_Encode_l1 (N:Nat) (a0:TCode):Nat->Int->(List Int)->Option (Ex (List Int×Int) (List Int))
 | 0,_,_=>none
 | n+1,v2,v3 =>
  bif (decide (v2<((a0.Ins.length:Nat):Int))) then (bnd (getI a0.Ins v2) fun p4 =>
   bnd (bits_Pack N [(TField.mk 8 (wU p4.Op)),(TField.mk 4 (wU p4.A)),(TField.mk 8 (wU p4.B)),(TField.mk 4 (wU p4.C))]) fun y5 =>
   bif (y5.2 != 0) then some (.ret ([],y5.2))
   else grd ((v3.length+2)*8<=140737488355328) <|
   ncode_Encode_l1 N a0 n (wI (v2+1)) (v3++[y5.1,p4.K]))
  else some (.nxt v3)
def ncode_Encode (N:Nat) (a0:TCode):Option (List Int×Int) :=
 bnd (ncode_Code_formed N a0) fun y1 =>
 bif (!y1) then some ([],1)
 else bnd (ncode_Encode_l1 N a0 N 0 [(wU a0.Args)]) fun e=>exK e (fun r=>some r) fun y6 =>
 some (y6,0)
def nmach_Start (N:Nat) (a0:TCode) (a1:List Int):Option (TFrame×Int) :=
 bnd (ncode_Encode N a0) fun y1 =>
 bif (y1.2 != 0) then some ((TFrame.mk 0 [] 0),1)
 else bif (((a1.length:Nat):Int) != a0.Args) then some ((TFrame.mk 0 [] 0),1)
 else grd (a1.length<=8) <|
 some ((TFrame.mk 0 ((((List.replicate 8 0).take 0)++a1)++((List.replicate 8 0).drop a1.length)) 0),0)
def law23_code_l1 (N:Nat) (a0:TCode):Nat->Int->(List TIns)->Option (List TIns)
 | 0,_,_=>none
 | n+1,v1,v2 =>
  bif (decide (v1<((a0.Ins.length:Nat):Int))) then (bnd (getI a0.Ins v1) fun p3 =>
   grd ((v2.length+1)*40<=140737488355328) <|
   law23_code_l1 N a0 n (wI (v1+1)) (v2++[p3]))
  else some v2
def law23_code (N:Nat) (a0:TCode):Option TCode :=
 bnd (law23_code_l1 N a0 N 0 []) fun y4 =>
 some (TCode.mk a0.Args y4)
def ref22_Formed_l1 (N:Nat) (a0:TCode):Nat->Int->Option (Ex Bool Unit)
 | 0,_=>none
 | n+1,v1 =>
  bif (decide (v1<((a0.Ins.length:Nat):Int))) then (bnd (getI a0.Ins v1) fun p2 =>
   bif (decide (p2.Op<1)) then some (.ret false)
   else bif (decide (p2.Op>17)) then some (.ret false)
   else bif (decide (p2.A<0)) then some (.ret false)
   else bif (decide (p2.A>7)) then some (.ret false)
   else bif (decide (p2.C<0)) then some (.ret false)
   else bif (decide (p2.C>7)) then some (.ret false)
   else bif (decide (p2.B<0)) then some (.ret false)
   else bif (decide (p2.B>255)) then some (.ret false)
   else ref22_Formed_l1 N a0 n (wI (v1+1)))
  else some (.nxt ())
def ref22_Formed (N:Nat) (a0:TCode):Option Bool :=
 bnd (ref22_Formed_l1 N a0 N 0) fun e=>exK e (fun r=>some r) fun y3 =>
 bif (decide (a0.Args>=0)) then (bif (decide (a0.Args<=3)) then some (decide (((a0.Ins.length:Nat):Int)<=256))
  else some false)
 else some false
def ref23_Start (N:Nat) (a0:TCode) (a1:List Int):Option (TFrame×Int) :=
 bnd (ref22_Formed N a0) fun y1 =>
 bif (!y1) then some ((TFrame.mk 0 [] 0),1)
 else bif (((a1.length:Nat):Int) != a0.Args) then some ((TFrame.mk 0 [] 0),1)
 else grd (a1.length*8<=140737488355328) <|
 grd (0<=(wI (8-((a1.length:Nat):Int)))∧(wI (8-((a1.length:Nat):Int))).toNat*8<=140737488355328) <|
 grd ((a1.length+(wI (8-((a1.length:Nat):Int))).toNat)*8<=140737488355328) <|
 some ((TFrame.mk 0 (a1++(List.replicate (wI (8-((a1.length:Nat):Int))).toNat 0)) 0),0)
def nmach_Frame_valid (N:Nat) (a0:TFrame) (a1:TCode):Option Bool :=
 bif (((a0.Regs.length:Nat):Int)==8) then (bif (decide (a0.Pc>=0)) then some (decide (a0.Pc<=((a1.Ins.length:Nat):Int)))
  else some false)
 else some false
def nmach_Fetch (N:Nat) (a0:TCode) (a1:TFrame):Option (TIns×Bool) :=
 bnd (nmach_Frame_valid N a1 a0) fun y1 =>
 bif (!y1) then some ((TIns.mk 0 0 0 0 0),false)
 else bif (a1.Pc==((a0.Ins.length:Nat):Int)) then some ((TIns.mk 0 0 0 0 0),false)
 else bnd (getI a0.Ins a1.Pc) fun p2 =>
 some (p2,true)
def law23_frame (N:Nat) (a0:TFrame):Option TFrame :=
 some a0
def ref23_Valid (N:Nat) (a0:TCode) (a1:TFrame):Option Bool :=
 bif (((a1.Regs.length:Nat):Int)==8) then (bif (decide (a1.Pc>=0)) then some (decide (a1.Pc<=((a0.Ins.length:Nat):Int)))
  else some false)
 else some false
def ref23_Fetch (N:Nat) (a0:TCode) (a1:TFrame):Option (TIns×Bool) :=
 bnd (ref23_Valid N a0 a1) fun y1 =>
 bif (!y1) then some ((TIns.mk 0 0 0 0 0),false)
 else bif (a1.Pc==((a0.Ins.length:Nat):Int)) then some ((TIns.mk 0 0 0 0 0),false)
 else bnd (getI a0.Ins a1.Pc) fun p2 =>
 some (p2,true)
def nmach_may (N:Nat) (a0:TCode) (a1:TFrame):Option Bool :=
 bnd (ncode_Encode N a0) fun y1 =>
 bif (y1.2==0) then (bnd (nmach_Frame_valid N a1 a0) fun y2 =>
  some y2)
 else some false
def page_ValidConf (N:Nat) (a0:TConf):Option Bool :=
 bif (decide (a0.PageWords>=16)) then (bif (decide (a0.PageWords<=64)) then (bif ((a0.PageWords.tmod 4)==0) then (bif (decide (a0.Pages>=8)) then some (decide (a0.Pages<=64))
  else some false)
  else some false)
  else some false)
 else some false
def page_entry_free (N:Nat) (a0:TPage) (a1:TConf):Option Bool :=
 some ((a0.Kind==0)&&((a0.Space==0)&&((a0.Used==0)&&(a0.Pins==0))))
def page_entry_spaced (N:Nat) (a0:TPage):Option Bool :=
 bif (a0.Space==0) then some true
 else some (a0.Space==1)
def page_entry_pinned (N:Nat) (a0:TPage):Option Bool :=
 bif (decide (a0.Pins>=0)) then some (decide (a0.Pins<=2147483647))
 else some false
def page_entry_small (N:Nat) (a0:TPage) (a1:TConf):Option Bool :=
 bnd (page_entry_spaced N a0) fun y1 =>
 bif y1 then (bnd (page_entry_pinned N a0) fun y2 =>
  bif y2 then (bif (decide (a0.Used>=0)) then some (decide (a0.Used<=a1.PageWords))
   else some false)
  else some false)
 else some false
def page_SmallWords (N:Nat) (a0:TConf):Option Int :=
 bnd (page_ValidConf N a0) fun y1 =>
 bif (!y1) then some 0
 else some (wI (a0.PageWords.tdiv 4))
def page_Need (N:Nat) (a0:TConf) (a1:Int):Option Int :=
 bnd (page_ValidConf N a0) fun y1 =>
 bif (!y1) then some (-1)
 else bif (decide (a1<1)) then some (-1)
 else bif (decide (a1>(wI (4*a0.PageWords)))) then some (-1)
 else bnd (page_SmallWords N a0) fun y2 =>
 bif (decide (a1<=y2)) then some 0
 else grd (a0.PageWords≠0) <|
 some (wI ((wI ((wI (a1+a0.PageWords))-1)).tdiv a0.PageWords))
def page_entry_large (N:Nat) (a0:TPage) (a1:TConf):Option Bool :=
 bnd (page_entry_spaced N a0) fun y1 =>
 bif y1 then (bnd (page_entry_pinned N a0) fun y2 =>
  bif y2 then (bnd (page_Need N a1 a0.Used) fun y3 =>
   some (decide (y3>=1)))
  else some false)
 else some false
def page_entry_tailOf (N:Nat) (a0:TPage) (a1:TPage):Option Bool :=
 some ((a0.Kind==3)&&((a0.Space==a1.Space)&&((a0.Used==0)&&(a0.Pins==0))))
def page_span_l1 (N:Nat) (a1:List TPage) (a2:Int) (p1:TPage) (x5:Int) (y6:Int):Nat->Int->Option (Ex Int Unit)
 | 0,_=>none
 | n+1,v7 =>
  bif (decide (v7<(((min ((wI (a2+y6)).toNat-(wI (a2+1)).toNat) (a1.length-(wI (a2+1)).toNat)):Nat):Int))) then (bnd (getI ((a1.drop (wI (a2+1)).toNat).take ((wI (a2+y6)).toNat-(wI (a2+1)).toNat)) v7) fun p8 =>
   bnd (page_entry_tailOf N p8 (TPage.mk x5 p1.Space p1.Used p1.Pins)) fun y9 =>
   bif (!y9) then some (.ret 0)
   else page_span_l1 N a1 a2 p1 x5 y6 n (wI (v7+1)))
  else some (.nxt ())
def page_span (N:Nat) (a0:TConf) (a1:List TPage) (a2:Int):Option Int :=
 bnd (getI a1 a2) fun p1 =>
 jn (fun (x5:Int) =>
  bif (x5 != 2) then some 1
  else bnd (page_Need N a0 p1.Used) fun y6 =>
  bif (decide (y6>(wI (((a1.length:Nat):Int)-a2)))) then some 0
  else grd (0<=(wI (a2+1))∧(wI (a2+1))<=(wI (a2+y6))∧(wI (a2+y6))<=((a1.length:Nat):Int)) <|
  bnd (page_span_l1 N a1 a2 p1 x5 y6 N 0) fun e=>exK e (fun r=>some r) fun y10 =>
  some y6) fun j1 =>
 bif (decide (p1.Kind<0)) then some 0
 else bif (decide (p1.Kind>=3)) then some 0
 else bif (p1.Kind==0) then (bnd (page_entry_free N (TPage.mk 0 p1.Space p1.Used p1.Pins) a0) fun y2 =>
  bif (!y2) then some 0
  else j1 0)
 else bif (p1.Kind==1) then (bnd (page_entry_small N (TPage.mk 1 p1.Space p1.Used p1.Pins) a0) fun y3 =>
  bif (!y3) then some 0
  else j1 1)
 else bif (p1.Kind==2) then (bnd (page_entry_large N (TPage.mk 2 p1.Space p1.Used p1.Pins) a0) fun y4 =>
  bif (!y4) then some 0
  else j1 2)
 else none
def page_Proper_l1 (N:Nat) (a0:THeap):Nat->Int->Option (Ex Bool Unit)
 | 0,_=>none
 | n+1,v3 =>
  bif (decide (v3<((a0.Pages.length:Nat):Int))) then (bnd (page_span N a0.Conf a0.Pages v3) fun y4 =>
   bif (y4==0) then some (.ret false)
   else page_Proper_l1 N a0 n (wI (v3+y4)))
  else some (.nxt ())
def page_Proper (N:Nat) (a0:THeap):Option Bool :=
 jn (fun (_:Unit) =>
  jn (fun (_:Unit) =>
   bnd (page_Proper_l1 N a0 N 0) fun e=>exK e (fun r=>some r) fun y5 =>
   some true) fun j2 =>
  bif (a0.Bump != (-1)) then (bif (decide (a0.Bump<0)) then some false
   else bif (decide (a0.Bump>=((a0.Pages.length:Nat):Int))) then some false
   else bnd (getI a0.Pages a0.Bump) fun p2 =>
   bif (p2.Kind != 1) then some false
   else j2 ())
  else j2 ()) fun j1 =>
 bnd (page_ValidConf N a0.Conf) fun y1 =>
 bif (!y1) then some false
 else bif (((a0.Words.length:Nat):Int) != (wI (a0.Conf.PageWords*a0.Conf.Pages))) then some false
 else bif (((a0.Pages.length:Nat):Int) != a0.Conf.Pages) then some false
 else bif (a0.Space != 0) then (bif (a0.Space != 1) then some false
  else j1 ())
 else j1 ()
def walk_addresses_l1 (N:Nat) (a0:List Tfound):Nat->Int->(List Int)->Option (List Int)
 | 0,_,_=>none
 | n+1,v1,v2 =>
  bif (decide (v1<((a0.length:Nat):Int))) then (bnd (getI a0 v1) fun p3 =>
   grd ((v2.length+1)*8<=140737488355328) <|
   walk_addresses_l1 N a0 n (wI (v1+1)) (v2++[p3.addr]))
  else some v2
def walk_addresses (N:Nat) (a0:List Tfound):Option (List Int) :=
 bnd (walk_addresses_l1 N a0 N 0 []) fun y4 =>
 some y4
def page_Of (N:Nat) (a0:TConf) (a1:Int):Option (Int×Int×Int) :=
 bnd (page_ValidConf N a0) fun y1 =>
 bif (!y1) then some (0,0,1)
 else bif (decide (a1<4096)) then some (0,0,2)
 else bif (decide ((wU (a1-4096))>=(wU (wI (a0.PageWords*a0.Pages))))) then some (0,0,2)
 else grd (a0.PageWords≠0) <|
 grd (a0.PageWords≠0) <|
 some ((wI ((wI (wU (a1-4096))).tdiv a0.PageWords)),((wI (wU (a1-4096))).tmod a0.PageWords),0)
def header_Valid (N:Nat) (a0:THeader):Option Bool :=
 bif (decide (a0.Kind<0)) then some false
 else bif (decide (a0.Kind>3)) then some false
 else bif (decide (a0.Length<0)) then some false
 else bif (decide (a0.Length>255)) then some false
 else bif (a0.Kind==1) then (jn (fun (x2:Bool) =>
  some x2) fun j1 =>
  bif (decide (a0.Length<=32)) then (bnd (bits_Ones N a0.Length) fun y1 =>
   j1 (decide ((wU a0.Map)<=y1)))
  else j1 false)
 else some ((a0.Kind==a0.Kind)&&((a0.Length==a0.Length)&&(a0.Map==0)))
def header_Size (N:Nat) (a0:THeader):Option Int :=
 bnd (header_Valid N a0) fun y1 =>
 bif (!y1) then some 0
 else some (wI (a0.Length+1))
def bits_Unpack_l1 (N:Nat) (a0:Int) (a1:List Int):Nat->Int->Int->Option (Ex (List Int×Int) Unit)
 | 0,_,_=>none
 | n+1,v1,v2 =>
  bif (decide (v2<((a1.length:Nat):Int))) then (bnd (getI a1 v2) fun p3 =>
   bif (decide (p3<1)) then some (.ret ([],1))
   else bif (decide (p3>v1)) then some (.ret ([],1))
   else bits_Unpack_l1 N a0 a1 n (wI (v1-p3)) (wI (v2+1)))
  else some (.nxt ())
def bits_Unpack_l2 (N:Nat) (a1:List Int):Nat->Int->Int->(List Int)->Option (Int×List Int)
 | 0,_,_,_=>none
 | n+1,v5,v6,v7 =>
  bif (decide (v6<((a1.length:Nat):Int))) then (bnd (getI a1 v6) fun p8 =>
   bnd (bits_Ones N p8) fun y9 =>
   grd ((v7.length+1)*8<=140737488355328) <|
   grd (0<=p8) <|
   bits_Unpack_l2 N a1 n (sShr .u64 v5 p8) (wI (v6+1)) (v7++[(bAnd .u64 v5 y9)]))
  else some (v5,v7)
def bits_Unpack (N:Nat) (a0:Int) (a1:List Int):Option (List Int×Int) :=
 bnd (bits_Unpack_l1 N a0 a1 N 64 0) fun e=>exK e (fun r=>some r) fun y4 =>
 bnd (bits_Unpack_l2 N a1 N a0 0 []) fun y10 =>
 bif (y10.1 != 0) then some ([],2)
 else some (y10.2,0)
def header_Decode (N:Nat) (a0:Int):Option (THeader×Bool) :=
 bnd (bits_Unpack N a0 [2,2,12,32]) fun y1 =>
 bif (y1.2 != 0) then some ((THeader.mk 0 0 0),false)
 else bnd (getI y1.1 0) fun p2 =>
 bif (p2 != 1) then some ((THeader.mk 0 0 0),false)
 else bnd (getI y1.1 1) fun p3 =>
 bnd (getI y1.1 2) fun p4 =>
 bnd (getI y1.1 3) fun p5 =>
 bnd (header_Valid N (THeader.mk (wI p3) (wI p4) (wW p5))) fun y6 =>
 bif (!y6) then some ((THeader.mk 0 0 0),false)
 else some ((THeader.mk (wI p3) (wI p4) (wW p5)),true)
def arena_place (N:Nat) (a0:List Int) (a1:Int) (a2:Int):Option (Int×Bool) :=
 bif (decide (a1<4096)) then some (0,false)
 else bif (decide ((wU (a1-4096))>(wU ((a0.length:Nat):Int)))) then some (0,false)
 else some ((wI (wU (a1-4096))),(decide (a2<=(wI (((a0.length:Nat):Int)-(wI (wU (a1-4096))))))))
def arena_Index (N:Nat) (a0:List Int) (a1:Int):Option (Int×Int) :=
 bnd (arena_place N a0 a1 1) fun y1 =>
 bif (!y1.2) then some (0,2)
 else some (y1.1,0)
def arena_Load (N:Nat) (a0:List Int) (a1:Int):Option (Int×Int) :=
 bnd (arena_Index N a0 a1) fun y1 =>
 bif (y1.2 != 0) then some (0,y1.2)
 else bnd (getI a0 y1.1) fun p2 =>
 some (p2,0)
def object_At_1_2 (N:Nat) (a0:THeap) (a1:Int):Option Int :=
 bnd (arena_Load N a0.Words a1) fun y1 =>
 some y1.1
def object_At (N:Nat) (a0:THeap) (a1:Int):Option (THeader×Int) :=
 bnd (page_Proper N a0) fun y1 =>
 bif (!y1) then some ((THeader.mk 0 0 0),1)
 else bnd (page_Of N a0.Conf a1) fun y2 =>
 bif (y2.2.2 != 0) then some ((THeader.mk 0 0 0),y2.2.2)
 else bnd (getI a0.Pages y2.1) fun p3 =>
 bnd (object_At_1_2 N a0 a1) fun y4 =>
 bnd (header_Decode N y4) fun y5 =>
 bnd (header_Size N y5.1) fun y6 =>
 jn (fun (x10:Bool) =>
  bif (!x10) then some ((THeader.mk 0 0 0),19)
  else some (y5.1,0)) fun j4 =>
 bif (!y5.2) then j4 false
 else bif (decide (y2.2.1>=p3.Used)) then j4 false
 else jn (fun (x9:Bool) =>
  j4 x9) fun j3 =>
 bif (p3.Kind==1) then j3 (decide (y6<=(wI (p3.Used-y2.2.1))))
 else jn (fun (x8:Bool) =>
  j3 x8) fun j2 =>
 bif (p3.Kind==2) then (jn (fun (x7:Bool) =>
     j2 x7) fun j1 =>
  bif (y2.2.1==0) then j1 (y6==p3.Used)
  else j1 false)
 else j2 false
def page_Address (N:Nat) (a0:TConf) (a1:Int) (a2:Int):Option (Int×Int) :=
 bnd (page_ValidConf N a0) fun y1 =>
 bif (!y1) then some (0,1)
 else bif (decide (a1<0)) then some (0,2)
 else bif (decide (a1>=a0.Pages)) then some (0,2)
 else bif (decide (a2<0)) then some (0,2)
 else bif (decide (a2>=a0.PageWords)) then some (0,2)
 else some ((wU (4096+(wU (wI ((wI (a1*a0.PageWords))+a2))))),0)
def walk_listed_l1 (N:Nat) (a0:THeap) (a1:Int) (p1:TPage):Nat->Int->List Tfound->Option (List Tfound×Int)
 | 0,_,_=>none
 | n+1,v2,v3 =>
  bif (decide (v2<p1.Used)) then (bnd (page_Address N a0.Conf a1 v2) fun y4 =>
   bif (y4.2==0) then (bnd (object_At N a0 y4.1) fun y5 =>
    bif (y5.2==0) then (bnd (header_Size N y5.1) fun y6 =>
     grd ((v3.length+1)*32<=140737488355328) <|
     walk_listed_l1 N a0 a1 p1 n (wI (v2+y6)) (v3++[Tfound.mk y4.1 y5.1]))
    else some ([],19))
   else some ([],19))
  else some (v3,0)
def walk_listed (N:Nat) (a0:THeap) (a1:Int):Option (List Tfound×Int) :=
 bnd (getI a0.Pages a1) fun p1 =>
 bif (p1.Kind != 1) then (bif (p1.Kind != 2) then some ([],0)
  else walk_listed_l1 N a0 a1 p1 N 0 [])
 else walk_listed_l1 N a0 a1 p1 N 0 []
def walk_Page (N:Nat) (a0:THeap) (a1:Int):Option (List Int×Int) :=
 bnd (page_Proper N a0) fun y1 =>
 bif (!y1) then some ([],1)
 else bif (decide (a1<0)) then some ([],2)
 else bif (decide (a1>=((a0.Pages.length:Nat):Int))) then some ([],2)
 else bnd (walk_listed N a0 a1) fun y2 =>
 bif (y2.2 != 0) then some ([],y2.2)
 else bnd (walk_addresses N y2.1) fun y3 =>
 some (y3,0)
def audit_class_l1 (N:Nat) (a0:THeap) (a1:Int) (a2:List Int):Nat->Int->Option (Ex (Int×Bool) Unit)
 | 0,_=>none
 | n+1,v1 =>
  bif (decide (v1<((a2.length:Nat):Int))) then (bnd (getI a2 v1) fun p2 =>
   bnd (object_At N a0 p2) fun y3 =>
   bnd (header_Size N y3.1) fun y4 =>
   bnd (page_SmallWords N a0.Conf) fun y5 =>
   bnd (getI a0.Pages a1) fun p6 =>
   bif (p6.Kind==1) then (bif (!(decide (y4<=y5))) then some (.ret (p2,true))
    else bnd (getI a0.Pages a1) fun p7 =>
    bif (p7.Kind==2) then (bif (y3.1.Kind==0) then some (.ret (p2,true))
     else audit_class_l1 N a0 a1 a2 n (wI (v1+1)))
    else audit_class_l1 N a0 a1 a2 n (wI (v1+1)))
   else bnd (getI a0.Pages a1) fun p8 =>
   bif (p8.Kind==2) then (bif (y3.1.Kind==0) then some (.ret (p2,true))
    else audit_class_l1 N a0 a1 a2 n (wI (v1+1)))
   else audit_class_l1 N a0 a1 a2 n (wI (v1+1)))
  else some (.nxt ())
def audit_class (N:Nat) (a0:THeap) (a1:Int) (a2:List Int):Option (Int×Bool) :=
 bnd (audit_class_l1 N a0 a1 a2 N 0) fun e=>exK e (fun r=>some r) fun y9 =>
 some (0,false)
def slices_Clone_uint64_uint64 (N:Nat) (a0:List Int):Option (List Int) :=
 some a0
def arena_Read (N:Nat) (a0:List Int) (a1:Int) (a2:Int):Option (List Int×Int) :=
 bif (decide (a2<0)) then some ([],1)
 else bnd (arena_place N a0 a1 a2) fun y1 =>
 bif (!y1.2) then some ([],2)
 else grd (0<=y1.1∧y1.1<=(wI (y1.1+a2))∧(wI (y1.1+a2))<=((a0.length:Nat):Int)) <|
 bnd (slices_Clone_uint64_uint64 N ((a0.drop y1.1.toNat).take ((wI (y1.1+a2)).toNat-y1.1.toNat))) fun y2 =>
 some (y2,0)
def audit_head_l1 (N:Nat) (a0:THeap):Nat->Int->Option Int
 | 0,_=>none
 | n+1,v1 =>
  bif (decide (v1>0)) then (bnd (getI a0.Pages v1) fun p2 =>
   bif (p2.Kind==3) then audit_head_l1 N a0 n (wI (v1-1))
   else some v1)
  else some v1
def audit_head (N:Nat) (a0:THeap) (a1:Int):Option Int :=
 bnd (audit_head_l1 N a0 N a1) fun y3 =>
 some y3
def audit_dirt_1 (N:Nat) (a0:Int):Option Bool :=
 some (a0 != 0)
def slices_IndexFunc_uint64_uint64_dirt1_l1 (N:Nat) (a0:List Int):Nat->Int->Option (Ex Int Unit)
 | 0,_=>none
 | n+1,v1 =>
  bif (decide (v1<((a0.length:Nat):Int))) then (bnd (getI a0 v1) fun p2 =>
   bnd (audit_dirt_1 N p2) fun y3 =>
   bif y3 then some (.ret v1)
   else slices_IndexFunc_uint64_uint64_dirt1_l1 N a0 n (wI (v1+1)))
  else some (.nxt ())
def slices_IndexFunc_uint64_uint64_dirt1 (N:Nat) (a0:List Int):Option Int :=
 bnd (slices_IndexFunc_uint64_uint64_dirt1_l1 N a0 N 0) fun e=>exK e (fun r=>some r) fun y4 =>
 some (-1)
def audit_dirt_l1 (N:Nat) (a0:THeap) (y1:Int×Int) (y4:List Int×Int):Nat->Int->(List Int)->Option (List Int)
 | 0,_,_=>none
 | n+1,v5,v6 =>
  bif (decide (v5<((y4.1.length:Nat):Int))) then (bnd (getI y4.1 v5) fun p7 =>
   bnd (object_At N a0 p7) fun y8 =>
   jn (fun (x10:Int) =>
    grd (v6.length<=140737488355328) <|
    grd (v6.length<=140737488355328) <|
    grd (0<=(if ((v6.length:Nat):Int)<(if (wI ((wI p7)-(wI y1.1)))<0 then 0 else (wI ((wI p7)-(wI y1.1)))) then ((v6.length:Nat):Int) else (if (wI ((wI p7)-(wI y1.1)))<0 then 0 else (wI ((wI p7)-(wI y1.1)))))∧(if ((v6.length:Nat):Int)<(if (wI ((wI p7)-(wI y1.1)))<0 then 0 else (wI ((wI p7)-(wI y1.1)))) then ((v6.length:Nat):Int) else (if (wI ((wI p7)-(wI y1.1)))<0 then 0 else (wI ((wI p7)-(wI y1.1)))))<=(if ((v6.length:Nat):Int)<(if (wI ((wI ((wI p7)-(wI y1.1)))+x10))<0 then 0 else (wI ((wI ((wI p7)-(wI y1.1)))+x10))) then ((v6.length:Nat):Int) else (if (wI ((wI ((wI p7)-(wI y1.1)))+x10))<0 then 0 else (wI ((wI ((wI p7)-(wI y1.1)))+x10))))∧(if ((v6.length:Nat):Int)<(if (wI ((wI ((wI p7)-(wI y1.1)))+x10))<0 then 0 else (wI ((wI ((wI p7)-(wI y1.1)))+x10))) then ((v6.length:Nat):Int) else (if (wI ((wI ((wI p7)-(wI y1.1)))+x10))<0 then 0 else (wI ((wI ((wI p7)-(wI y1.1)))+x10))))<=((v6.length:Nat):Int)) <|
    audit_dirt_l1 N a0 y1 y4 n (wI (v5+1)) (((v6.take (if ((v6.length:Nat):Int)<(if (wI ((wI p7)-(wI y1.1)))<0 then 0 else (wI ((wI p7)-(wI y1.1)))) then ((v6.length:Nat):Int) else (if (wI ((wI p7)-(wI y1.1)))<0 then 0 else (wI ((wI p7)-(wI y1.1))))).toNat)++(List.replicate ((if ((v6.length:Nat):Int)<(if (wI ((wI ((wI p7)-(wI y1.1)))+x10))<0 then 0 else (wI ((wI ((wI p7)-(wI y1.1)))+x10))) then ((v6.length:Nat):Int) else (if (wI ((wI ((wI p7)-(wI y1.1)))+x10))<0 then 0 else (wI ((wI ((wI p7)-(wI y1.1)))+x10)))).toNat-(if ((v6.length:Nat):Int)<(if (wI ((wI p7)-(wI y1.1)))<0 then 0 else (wI ((wI p7)-(wI y1.1)))) then ((v6.length:Nat):Int) else (if (wI ((wI p7)-(wI y1.1)))<0 then 0 else (wI ((wI p7)-(wI y1.1))))).toNat) 0))++(v6.drop ((if ((v6.length:Nat):Int)<(if (wI ((wI p7)-(wI y1.1)))<0 then 0 else (wI ((wI p7)-(wI y1.1)))) then ((v6.length:Nat):Int) else (if (wI ((wI p7)-(wI y1.1)))<0 then 0 else (wI ((wI p7)-(wI y1.1))))).toNat+((if ((v6.length:Nat):Int)<(if (wI ((wI ((wI p7)-(wI y1.1)))+x10))<0 then 0 else (wI ((wI ((wI p7)-(wI y1.1)))+x10))) then ((v6.length:Nat):Int) else (if (wI ((wI ((wI p7)-(wI y1.1)))+x10))<0 then 0 else (wI ((wI ((wI p7)-(wI y1.1)))+x10)))).toNat-(if ((v6.length:Nat):Int)<(if (wI ((wI p7)-(wI y1.1)))<0 then 0 else (wI ((wI p7)-(wI y1.1)))) then ((v6.length:Nat):Int) else (if (wI ((wI p7)-(wI y1.1)))<0 then 0 else (wI ((wI p7)-(wI y1.1))))).toNat))))) fun j1 =>
   bif (y8.1.Kind != 0) then (bnd (header_Size N y8.1) fun y9 =>
    j1 y9)
   else j1 1)
  else some v6
def audit_dirt (N:Nat) (a0:THeap) (a1:Int):Option (Int×Bool) :=
 bnd (page_Address N a0.Conf a1 0) fun y1 =>
 bnd (arena_Read N a0.Words y1.1 a0.Conf.PageWords) fun y2 =>
 bnd (audit_head N a0 a1) fun y3 =>
 bnd (walk_Page N a0 y3) fun y4 =>
 bnd (audit_dirt_l1 N a0 y1 y4 N 0 y2.1) fun y11 =>
 bnd (slices_IndexFunc_uint64_uint64_dirt1 N y11) fun y12 =>
 some ((wU (y1.1+(wU (if y12<0 then 0 else y12)))),(decide (y12>=0)))
def audit_pages_l1 (N:Nat) (a0:THeap):Nat->Int->Option (Ex TFinding Unit)
 | 0,_=>none
 | n+1,v1 =>
  bif (decide (v1<((a0.Pages.length:Nat):Int))) then (bnd (getI a0.Pages v1) fun p2 =>
   jn (fun (_:Unit) =>
    bnd (walk_Page N a0 v1) fun y3 =>
    bif (y3.2 != 0) then some (.ret (TFinding.mk 3 v1 0))
    else bnd (audit_class N a0 v1 y3.1) fun y4 =>
    bif y4.2 then some (.ret (TFinding.mk 5 v1 y4.1))
    else bnd (audit_dirt N a0 v1) fun y5 =>
    bif y5.2 then some (.ret (TFinding.mk 4 v1 y5.1))
    else audit_pages_l1 N a0 n (wI (v1+1))) fun j1 =>
   bif (p2.Kind != 0) then (bif (p2.Space != a0.Space) then some (.ret (TFinding.mk 2 v1 0))
    else j1 ())
   else j1 ())
  else some (.nxt ())
def audit_pages (N:Nat) (a0:THeap):Option TFinding :=
 bnd (audit_pages_l1 N a0 N 0) fun e=>exK e (fun r=>some r) fun y6 =>
 some (TFinding.mk 0 0 0)
def walk_all_l1 (N:Nat) (a0:THeap):Nat->Int->(List Tfound)->Option (Ex (List Tfound×Int) (List Tfound))
 | 0,_,_=>none
 | n+1,v2,v3 =>
  bif (decide (v2<((a0.Pages.length:Nat):Int))) then (bnd (walk_listed N a0 v2) fun y4 =>
   bif (y4.2 != 0) then some (.ret ([],y4.2))
   else grd ((v3.length+y4.1.length)*32<=140737488355328) <|
   walk_all_l1 N a0 n (wI (v2+1)) (v3++y4.1))
  else some (.nxt v3)
def walk_all (N:Nat) (a0:THeap):Option (List Tfound×Int) :=
 bnd (page_Proper N a0) fun y1 =>
 bif (!y1) then some ([],1)
 else bnd (walk_all_l1 N a0 N 0 []) fun e=>exK e (fun r=>some r) fun y5 =>
 some (y5,0)
def walk_Objects_1 (N:Nat) (a0:Tfound):Option Bool :=
 some (a0.hd.Kind==0)
def slices_IndexFunc_walk_found_walk_found_Objects1_l1 (N:Nat) (a0:List Tfound):Nat->Int->Option (Ex Int Unit)
 | 0,_=>none
 | n+1,v1 =>
  bif (decide (v1<((a0.length:Nat):Int))) then (bnd (getI a0 v1) fun p2 =>
   bnd (walk_Objects_1 N p2) fun y3 =>
   bif y3 then some (.ret v1)
   else slices_IndexFunc_walk_found_walk_found_Objects1_l1 N a0 n (wI (v1+1)))
  else some (.nxt ())
def slices_IndexFunc_walk_found_walk_found_Objects1 (N:Nat) (a0:List Tfound):Option Int :=
 bnd (slices_IndexFunc_walk_found_walk_found_Objects1_l1 N a0 N 0) fun e=>exK e (fun r=>some r) fun y4 =>
 some (-1)
def walk_Objects_l1 (N:Nat):Nat->Int->Int->(List Tfound)->Option (Int×List Tfound)
 | 0,_,_,_=>none
 | n+1,v3,v4,v5 =>
  grd (v5.length<=140737488355328) <|
  bif (decide (v4<((v5.length:Nat):Int))) then (bnd (getI v5 v4) fun p6 =>
   bnd (walk_Objects_1 N p6) fun y7 =>
   bif (!y7) then (bnd (getI v5 v3) fun p8 =>
    walk_Objects_l1 N n (wI (v3+1)) (wI (v4+1)) (v5.set v3.toNat p6))
   else walk_Objects_l1 N n v3 (wI (v4+1)) v5)
  else some (v3,v5)
def walk_Objects (N:Nat) (a0:THeap):Option (List Int×Int) :=
 bnd (walk_all N a0) fun y1 =>
 bif (y1.2 != 0) then some ([],y1.2)
 else bnd (slices_IndexFunc_walk_found_walk_found_Objects1 N y1.1) fun y2 =>
 bif (y2==(-1)) then (bnd (walk_addresses N y1.1) fun y11 =>
  some (y11,0))
 else bnd (walk_Objects_l1 N N y2 (wI (y2+1)) y1.1) fun y9 =>
 grd (0<=y9.1∧y9.1<=((y9.2.length:Nat):Int)∧((y9.2.length:Nat):Int)<=((y9.2.length:Nat):Int)) <|
 grd (0<=y9.1∧y9.1<=(((((min y9.1.toNat y9.2.length)+(y9.2.length-y9.1.toNat))+(y9.2.length-(y9.1.toNat+(y9.2.length-y9.1.toNat)))):Nat):Int)) <|
 bnd (walk_addresses N ((((y9.2.take y9.1.toNat)++(List.replicate (y9.2.length-y9.1.toNat) (Tfound.mk 0 (THeader.mk 0 0 0))))++(y9.2.drop (y9.1.toNat+(y9.2.length-y9.1.toNat)))).take y9.1.toNat)) fun y12 =>
 some (y12,0)
def cmp_isNaN_uint64 (N:Nat) (a0:Int):Option Bool :=
 some (a0 != a0)
def cmp_Less_uint64 (N:Nat) (a0:Int) (a1:Int):Option Bool :=
 bnd (cmp_isNaN_uint64 N a0) fun y1 =>
 bif y1 then (bnd (cmp_isNaN_uint64 N a1) fun y2 =>
  bif (!y2) then some true
  else some (decide (a0<a1)))
 else some (decide (a0<a1))
def slices_isNaN_uint64 (N:Nat) (a0:Int):Option Bool :=
 some (a0 != a0)
def slices_BinarySearch_uint64_uint64_l1 (N:Nat) (a0:List Int) (a1:Int):Nat->Int->Int->Option Int
 | 0,_,_=>none
 | n+1,v1,v2 =>
  bif (decide (v1<v2)) then (bnd (getI a0 (wI (sShr .u64 (wU (wI (v1+v2))) 1))) fun p3 =>
   bnd (cmp_Less_uint64 N p3 a1) fun y4 =>
   bif y4 then slices_BinarySearch_uint64_uint64_l1 N a0 a1 n (wI ((wI (sShr .u64 (wU (wI (v1+v2))) 1))+1)) v2
   else slices_BinarySearch_uint64_uint64_l1 N a0 a1 n v1 (wI (sShr .u64 (wU (wI (v1+v2))) 1)))
  else some v1
def slices_BinarySearch_uint64_uint64 (N:Nat) (a0:List Int) (a1:Int):Option (Int×Bool) :=
 bnd (slices_BinarySearch_uint64_uint64_l1 N a0 a1 N 0 ((a0.length:Nat):Int)) fun y5 =>
 bif (decide (y5<((a0.length:Nat):Int))) then (bnd (getI a0 y5) fun p6 =>
  bif (p6==a1) then some (y5,true)
  else bnd (getI a0 y5) fun p7 =>
  bnd (slices_isNaN_uint64 N p7) fun y8 =>
  bif y8 then (bnd (slices_isNaN_uint64 N a1) fun y9 =>
   some (y5,y9))
  else some (y5,false))
 else some (y5,false)
def header_Pointer (N:Nat) (a0:THeader) (a1:Int):Option Bool :=
 bnd (header_Valid N a0) fun y1 =>
 bif (!y1) then some false
 else bif (decide (a1<0)) then some false
 else bif (decide (a1>=a0.Length)) then some false
 else bif (a0.Kind==2) then some true
 else bif (a0.Kind==1) then (grd (0<=a1) <|
  some ((bAnd .u32 (sShr .u32 a0.Map a1) 1)==1))
 else some false
def header_Pointers_l1 (N:Nat) (a0:THeader) (y1:Int):Nat->Int->(List Int)->Option (List Int)
 | 0,_,_=>none
 | n+1,v2,v3 =>
  bif (decide (v2<y1)) then (bnd (header_Pointer N a0 v2) fun y4 =>
   bif y4 then (grd ((v3.length+1)*8<=140737488355328) <|
    header_Pointers_l1 N a0 y1 n (wI (v2+1)) (v3++[v2]))
   else header_Pointers_l1 N a0 y1 n (wI (v2+1)) v3)
  else some v3
def header_Pointers (N:Nat) (a0:THeader):Option (List Int) :=
 bnd (header_Size N a0) fun y1 =>
 bnd (header_Pointers_l1 N a0 y1 N 0 []) fun y5 =>
 some y5
def audit_pointers_l1 (N:Nat) (a0:THeap) (y1:List Int×Int) (v2:Int) (p3:Int) (y5:List Int):Nat->Int->Option (Ex Int Unit)
 | 0,_=>none
 | n+1,v6 =>
  bif (decide (v6<((y5.length:Nat):Int))) then (bnd (getI y5 v6) fun p7 =>
   bnd (arena_Load N a0.Words (wU ((wU (p3+1))+(wU p7)))) fun y8 =>
   bnd (slices_BinarySearch_uint64_uint64 N y1.1 y8.1) fun y9 =>
   bif (y8.1 != 0) then (bif (!y9.2) then some (.ret (wU ((wU (p3+1))+(wU p7))))
    else audit_pointers_l1 N a0 y1 v2 p3 y5 n (wI (v6+1)))
   else audit_pointers_l1 N a0 y1 v2 p3 y5 n (wI (v6+1)))
  else some (.nxt ())
def audit_pointers_l2 (N:Nat) (a0:THeap) (y1:List Int×Int):Nat->Int->Option Int
 | 0,_=>none
 | n+1,v2 =>
  bif (decide (v2<((y1.1.length:Nat):Int))) then (bnd (getI y1.1 v2) fun p3 =>
   bnd (object_At N a0 p3) fun y4 =>
   bnd (header_Pointers N y4.1) fun y5 =>
   bnd (audit_pointers_l1 N a0 y1 v2 p3 y5 N 0) fun e=>exK e (fun y10=>some y10) fun y11 =>
   audit_pointers_l2 N a0 y1 n (wI (v2+1)))
  else some 0
def audit_pointers (N:Nat) (a0:THeap):Option TFinding :=
 bnd (walk_Objects N a0) fun y1 =>
 bnd (audit_pointers_l2 N a0 y1 N 0) fun y12 =>
 bif (y12==0) then some (TFinding.mk 0 0 0)
 else bnd (page_Of N a0.Conf y12) fun y13 =>
 some (TFinding.mk 6 y13.1 y12)
def audit_Check_l1 (N:Nat) (a0:THeap):Nat->Int->Int->Option Int
 | 0,_,_=>none
 | n+1,v4,v5 =>
  bif (decide (v5<((a0.Pages.length:Nat):Int))) then (bnd (getI a0.Pages v5) fun p6 =>
   bif (p6.Kind==1) then (bif (decide (p6.Pins>0)) then audit_Check_l1 N a0 n (wI (v4+1)) (wI (v5+1))
    else audit_Check_l1 N a0 n v4 (wI (v5+1)))
   else audit_Check_l1 N a0 n v4 (wI (v5+1)))
  else some v4
def audit_Check (N:Nat) (a0:THeap):Option TFinding :=
 bnd (page_Proper N a0) fun y1 =>
 bif (!y1) then some (TFinding.mk 1 0 0)
 else bnd (audit_pages N a0) fun y2 =>
 bif (!((y2.Fault==0)&&((y2.Page==0)&&(y2.Addr==0)))) then some y2
 else bnd (audit_pointers N a0) fun y3 =>
 bif (!((y3.Fault==0)&&((y3.Page==0)&&(y3.Addr==0)))) then some y3
 else bnd (audit_Check_l1 N a0 N 0 0) fun y7 =>
 bif (decide (y7>(wI (a0.Conf.Pages.tdiv 4)))) then some (TFinding.mk 7 0 0)
 else some (TFinding.mk 0 0 0)
def audit_Good (N:Nat) (a0:THeap):Option Bool :=
 bnd (audit_Check N a0) fun y1 =>
 some ((y1.Fault==0)&&((y1.Page==0)&&(y1.Addr==0)))
def pin_list_find_1_2 (N:Nat) (a0:TPin) (a1:Int):Option Bool :=
 some (a0.Ref==a1)
def slices_IndexFunc_pin_list_api_Pin_find1_l1 (N:Nat) (a0:List TPin) (c0:Int):Nat->Int->Option (Ex Int Unit)
 | 0,_=>none
 | n+1,v1 =>
  bif (decide (v1<((a0.length:Nat):Int))) then (bnd (getI a0 v1) fun p2 =>
   bnd (pin_list_find_1_2 N p2 c0) fun y3 =>
   bif y3 then some (.ret v1)
   else slices_IndexFunc_pin_list_api_Pin_find1_l1 N a0 c0 n (wI (v1+1)))
  else some (.nxt ())
def slices_IndexFunc_pin_list_api_Pin_find1 (N:Nat) (a0:List TPin) (c0:Int):Option Int :=
 bnd (slices_IndexFunc_pin_list_api_Pin_find1_l1 N a0 c0 N 0) fun e=>exK e (fun r=>some r) fun y4 =>
 some (-1)
def pin_list_find (N:Nat) (a0:List TPin) (a1:Int):Option Int :=
 bnd (slices_IndexFunc_pin_list_api_Pin_find1 N a0 a1) fun y1 =>
 some y1
def pin_list_counts_l1 (N:Nat) (a0:List TPin) (a1:THeap) (y1:List Int×Int):Nat->Int->(List Int)->Option (Ex (List Int×Bool) (List Int))
 | 0,_,_=>none
 | n+1,v2,v3 =>
  bif (decide (v2<((a0.length:Nat):Int))) then (bnd (getI a0 v2) fun p4 =>
   bnd (slices_BinarySearch_uint64_uint64 N y1.1 p4.Ref) fun y5 =>
   bif (!y5.2) then some (.ret ([],false))
   else bif (decide (p4.Count<1)) then some (.ret ([],false))
   else bif (decide (p4.Count>1000)) then some (.ret ([],false))
   else bnd (pin_list_find N a0 p4.Ref) fun y6 =>
   bif (y6 != v2) then some (.ret ([],false))
   else bnd (page_Of N a1.Conf p4.Ref) fun y7 =>
   bnd (getI v3 y7.1) fun p8 =>
   bnd (getI v3 y7.1) fun p9 =>
   pin_list_counts_l1 N a0 a1 y1 n (wI (v2+1)) (v3.set y7.1.toNat (wI (p8+p4.Count))))
  else some (.nxt v3)
def pin_list_counts (N:Nat) (a0:List TPin) (a1:THeap):Option (List Int×Bool) :=
 bnd (walk_Objects N a1) fun y1 =>
 grd (0<=((a1.Pages.length:Nat):Int)∧((a1.Pages.length:Nat):Int).toNat*8<=140737488355328) <|
 bnd (pin_list_counts_l1 N a0 a1 y1 N 0 (List.replicate ((a1.Pages.length:Nat):Int).toNat 0)) fun e=>exK e (fun r=>some r) fun y10 =>
 some (y10,true)
def pin_Match_l1 (N:Nat) (a0:THeap) (y2:List Int×Bool):Nat->Int->Option (Ex Bool Unit)
 | 0,_=>none
 | n+1,v3 =>
  bif (decide (v3<((a0.Pages.length:Nat):Int))) then (bnd (getI a0.Pages v3) fun p4 =>
   bnd (getI y2.1 v3) fun p5 =>
   bif (p4.Pins != p5) then some (.ret false)
   else pin_Match_l1 N a0 y2 n (wI (v3+1)))
  else some (.nxt ())
def pin_Match (N:Nat) (a0:THeap) (a1:List TPin):Option Bool :=
 bnd (audit_Good N a0) fun y1 =>
 bif (!y1) then some false
 else bif (decide (((a1.length:Nat):Int)>64)) then some false
 else bnd (pin_list_counts N a1 a0) fun y2 =>
 bif (!y2.2) then some false
 else bnd (pin_Match_l1 N a0 y2 N 0) fun e=>exK e (fun r=>some r) fun y6 =>
 some true
def scope_frames_nested_l1 (N:Nat) (a0:Tframes):Nat->Int->Int->Option (Ex Bool Unit)
 | 0,_,_=>none
 | n+1,v1,v2 =>
  bif (decide (v2<((a0.Locals.Scopes.length:Nat):Int))) then (bnd (getI a0.Locals.Scopes v2) fun p3 =>
   bif (v2==0) then (bif (p3.From != 0) then some (.ret false)
    else bif (!p3.Base) then some (.ret false)
    else bif (decide (p3.From<v1)) then some (.ret false)
    else bif (decide (p3.From>((a0.Locals.Slots.length:Nat):Int))) then some (.ret false)
    else bif (decide (p3.Cap<0)) then some (.ret false)
    else bif (decide (p3.Cap>64)) then some (.ret false)
    else scope_frames_nested_l1 N a0 n p3.From (wI (v2+1)))
   else bif (decide (p3.From<v1)) then some (.ret false)
   else bif (decide (p3.From>((a0.Locals.Slots.length:Nat):Int))) then some (.ret false)
   else bif (decide (p3.Cap<0)) then some (.ret false)
   else bif (decide (p3.Cap>64)) then some (.ret false)
   else scope_frames_nested_l1 N a0 n p3.From (wI (v2+1)))
  else some (.nxt ())
def scope_frames_nested (N:Nat) (a0:Tframes):Option Bool :=
 jn (fun (_:Unit) =>
  bnd (scope_frames_nested_l1 N a0 N 0 0) fun e=>exK e (fun r=>some r) fun y4 =>
  some true) fun j1 =>
 bif (decide (((a0.Locals.Scopes.length:Nat):Int)>64)) then some false
 else bif (((a0.Locals.Scopes.length:Nat):Int)==0) then (bif (decide (((a0.Locals.Slots.length:Nat):Int)>0)) then some false
  else j1 ())
 else j1 ()
def scope_frames_stamped_l1 (N:Nat) (a0:Tframes):Nat->Int->Int->Option (Ex Bool Unit)
 | 0,_,_=>none
 | n+1,v1,v2 =>
  bif (decide (v2<((a0.Locals.Slots.length:Nat):Int))) then (bnd (getI a0.Locals.Slots v2) fun p3 =>
   bif (decide (p3.Stamp<=v1)) then some (.ret false)
   else bif (decide (p3.Stamp>((a0.Locals.Issued.length:Nat):Int))) then some (.ret false)
   else bnd (getI a0.Locals.Issued (wI (p3.Stamp-1))) fun p4 =>
   bif (p4 != v2) then some (.ret false)
   else bif (p3.Live==(p3.Ref==0)) then some (.ret false)
   else scope_frames_stamped_l1 N a0 n p3.Stamp (wI (v2+1)))
  else some (.nxt ())
def scope_frames_stamped (N:Nat) (a0:Tframes):Option Bool :=
 bnd (scope_frames_stamped_l1 N a0 N 0 0) fun e=>exK e (fun r=>some r) fun y5 =>
 some true
def scope_frames_slots (N:Nat) (a0:Tframes) (a1:Int):Option (List TSlot) :=
 bif (decide ((wI (a1+1))<((a0.Locals.Scopes.length:Nat):Int))) then (bnd (getI a0.Locals.Scopes a1) fun p1 =>
  bnd (getI a0.Locals.Scopes (wI (a1+1))) fun p2 =>
  grd (0<=p1.From∧p1.From<=p2.From∧p2.From<=((a0.Locals.Slots.length:Nat):Int)) <|
  some ((a0.Locals.Slots.drop p1.From.toNat).take (p2.From.toNat-p1.From.toNat)))
 else bnd (getI a0.Locals.Scopes a1) fun p3 =>
 grd (0<=p3.From∧p3.From<=((a0.Locals.Slots.length:Nat):Int)∧((a0.Locals.Slots.length:Nat):Int)<=((a0.Locals.Slots.length:Nat):Int)) <|
 some (a0.Locals.Slots.drop p3.From.toNat)
def scope_frames_live_l1 (N:Nat) (y1:List TSlot):Nat->Int->Int->Option Int
 | 0,_,_=>none
 | n+1,v2,v3 =>
  bif (decide (v3<((y1.length:Nat):Int))) then (bnd (getI y1 v3) fun p4 =>
   bif p4.Live then scope_frames_live_l1 N y1 n (wI (v2+1)) (wI (v3+1))
   else scope_frames_live_l1 N y1 n v2 (wI (v3+1)))
  else some v2
def scope_frames_live (N:Nat) (a0:Tframes) (a1:Int):Option Int :=
 bnd (scope_frames_slots N a0 a1) fun y1 =>
 bnd (scope_frames_live_l1 N y1 N 0 0) fun y5 =>
 some y5
def scope_Valid_1 (N:Nat) (a0:Int):Option Bool :=
 bif (decide (a0<0)) then some true
 else some (decide (a0>=4096))
def slices_IndexFunc_int_int_Valid1_l1 (N:Nat) (a0:List Int):Nat->Int->Option (Ex Int Unit)
 | 0,_=>none
 | n+1,v1 =>
  bif (decide (v1<((a0.length:Nat):Int))) then (bnd (getI a0 v1) fun p2 =>
   bnd (scope_Valid_1 N p2) fun y3 =>
   bif y3 then some (.ret v1)
   else slices_IndexFunc_int_int_Valid1_l1 N a0 n (wI (v1+1)))
  else some (.nxt ())
def slices_IndexFunc_int_int_Valid1 (N:Nat) (a0:List Int):Option Int :=
 bnd (slices_IndexFunc_int_int_Valid1_l1 N a0 N 0) fun e=>exK e (fun r=>some r) fun y4 =>
 some (-1)
def slices_ContainsFunc_int_int_Valid1 (N:Nat) (a0:List Int):Option Bool :=
 bnd (slices_IndexFunc_int_int_Valid1 N a0) fun y1 =>
 some (decide (y1>=0))
def scope_Valid_l1 (N:Nat) (a0:TLocals):Nat->Int->Option (Ex Bool Unit)
 | 0,_=>none
 | n+1,v4 =>
  bif (decide (v4<((a0.Scopes.length:Nat):Int))) then (bnd (getI a0.Scopes v4) fun p5 =>
   bnd (scope_frames_live N (Tframes.mk a0) v4) fun y6 =>
   bif (decide (y6>p5.Cap)) then some (.ret false)
   else scope_Valid_l1 N a0 n (wI (v4+1)))
  else some (.nxt ())
def scope_Valid (N:Nat) (a0:TLocals):Option Bool :=
 bif (decide (((a0.Issued.length:Nat):Int)>4096)) then some false
 else bnd (slices_ContainsFunc_int_int_Valid1 N a0.Issued) fun y1 =>
 bif y1 then some false
 else bnd (scope_frames_nested N (Tframes.mk a0)) fun y2 =>
 bif (!y2) then some false
 else bnd (scope_frames_stamped N (Tframes.mk a0)) fun y3 =>
 bif (!y3) then some false
 else bnd (scope_Valid_l1 N a0 N 0) fun e=>exK e (fun r=>some r) fun y7 =>
 some true
def slots_Valid_1 (N:Nat) (a0:TEntry):Option Bool :=
 bif (decide (a0.Gen<1)) then some true
 else bif (decide (a0.Gen>4294967295)) then some true
 else bif (!a0.Live) then some (a0.Ref != 0)
 else some false
def slices_IndexFunc_api_Entry_api_Entry_Valid1_l1 (N:Nat) (a0:List TEntry):Nat->Int->Option (Ex Int Unit)
 | 0,_=>none
 | n+1,v1 =>
  bif (decide (v1<((a0.length:Nat):Int))) then (bnd (getI a0 v1) fun p2 =>
   bnd (slots_Valid_1 N p2) fun y3 =>
   bif y3 then some (.ret v1)
   else slices_IndexFunc_api_Entry_api_Entry_Valid1_l1 N a0 n (wI (v1+1)))
  else some (.nxt ())
def slices_IndexFunc_api_Entry_api_Entry_Valid1 (N:Nat) (a0:List TEntry):Option Int :=
 bnd (slices_IndexFunc_api_Entry_api_Entry_Valid1_l1 N a0 N 0) fun e=>exK e (fun r=>some r) fun y4 =>
 some (-1)
def slices_ContainsFunc_api_Entry_api_Entry_Valid1 (N:Nat) (a0:List TEntry):Option Bool :=
 bnd (slices_IndexFunc_api_Entry_api_Entry_Valid1 N a0) fun y1 =>
 some (decide (y1>=0))
def slots_Valid (N:Nat) (a0:TTable):Option Bool :=
 bif (decide (((a0.Entries.length:Nat):Int)<=64)) then (bnd (slices_ContainsFunc_api_Entry_api_Entry_Valid1 N a0.Entries) fun y1 =>
  some (!y1))
 else some false
def slices_Index_uint64_uint64_l1 (N:Nat) (a0:List Int) (a1:Int):Nat->Int->Option (Ex Int Unit)
 | 0,_=>none
 | n+1,v1 =>
  bif (decide (v1<((a0.length:Nat):Int))) then (bnd (getI a0 v1) fun p2 =>
   bif (a1==p2) then some (.ret v1)
   else slices_Index_uint64_uint64_l1 N a0 a1 n (wI (v1+1)))
  else some (.nxt ())
def slices_Index_uint64_uint64 (N:Nat) (a0:List Int) (a1:Int):Option Int :=
 bnd (slices_Index_uint64_uint64_l1 N a0 a1 N 0) fun e=>exK e (fun r=>some r) fun y3 =>
 some (-1)
def slices_Contains_uint64_uint64 (N:Nat) (a0:List Int) (a1:Int):Option Bool :=
 bnd (slices_Index_uint64_uint64 N a0 a1) fun y1 =>
 some (decide (y1>=0))
def slots_Refs_l1 (N:Nat) (a0:TTable):Nat->Int->(List Int)->Option (List Int)
 | 0,_,_=>none
 | n+1,v2,v3 =>
  bif (decide (v2<((a0.Entries.length:Nat):Int))) then (bnd (getI a0.Entries v2) fun p4 =>
   bif p4.Live then (grd ((v3.length+1)*8<=140737488355328) <|
    slots_Refs_l1 N a0 n (wI (v2+1)) (v3++[p4.Ref]))
   else slots_Refs_l1 N a0 n (wI (v2+1)) v3)
  else some v3
def slots_Refs (N:Nat) (a0:TTable):Option (List Int) :=
 bnd (slots_Valid N a0) fun y1 =>
 bif (!y1) then some []
 else bnd (slots_Refs_l1 N a0 N 0 []) fun y5 =>
 some y5
def audit_Refers_1_2 (N:Nat) (a0:Int) (a1:List Int):Option Bool :=
 bnd (slices_BinarySearch_uint64_uint64 N a1 a0) fun y1 =>
 bif (a0 != 0) then some (!y1.2)
 else some false
def slices_IndexFunc_uint64_uint64_Refers1_l1 (N:Nat) (a0:List Int) (c0:List Int):Nat->Int->Option (Ex Int Unit)
 | 0,_=>none
 | n+1,v1 =>
  bif (decide (v1<((a0.length:Nat):Int))) then (bnd (getI a0 v1) fun p2 =>
   bnd (audit_Refers_1_2 N p2 c0) fun y3 =>
   bif y3 then some (.ret v1)
   else slices_IndexFunc_uint64_uint64_Refers1_l1 N a0 c0 n (wI (v1+1)))
  else some (.nxt ())
def slices_IndexFunc_uint64_uint64_Refers1 (N:Nat) (a0:List Int) (c0:List Int):Option Int :=
 bnd (slices_IndexFunc_uint64_uint64_Refers1_l1 N a0 c0 N 0) fun e=>exK e (fun r=>some r) fun y4 =>
 some (-1)
def slices_ContainsFunc_uint64_uint64_Refers1 (N:Nat) (a0:List Int) (c0:List Int):Option Bool :=
 bnd (slices_IndexFunc_uint64_uint64_Refers1 N a0 c0) fun y1 =>
 some (decide (y1>=0))
def audit_Refers (N:Nat) (a0:THeap) (a1:List Int):Option Bool :=
 bnd (audit_Good N a0) fun y1 =>
 bif (!y1) then some false
 else bnd (walk_Objects N a0) fun y2 =>
 bnd (slices_ContainsFunc_uint64_uint64_Refers1 N a1 y2.1) fun y3 =>
 some (!y3)
def slices_Grow_uint64_uint64_nil (N:Nat) (a1:Int):Option (List Int) :=
 bif (decide (a1<0)) then none
 else bif (decide ((wI (a1-(wI 0)))>0)) then (grd (0=0∧0=0) <|
  grd (0<=(wI (a1-(wI 0)))∧(wI (a1-(wI 0))).toNat*8<=140737488355328) <|
  grd ((wI (a1-(wI 0))).toNat*8<=140737488355328) <|
  grd (0<=0∧0<=0∧0<=(((wI (a1-(wI 0))).toNat:Nat):Int)) <|
  some ((List.replicate (wI (a1-(wI 0))).toNat 0).take 0))
 else some []
def slices_Concat_uint64_uint64_l1 (N:Nat) (a0:List (List Int)):Nat->Int->Int->Option Int
 | 0,_,_=>none
 | n+1,v1,v2 =>
  bif (decide (v2<((a0.length:Nat):Int))) then (bnd (getI a0 v2) fun p3 =>
   bif (decide ((wI (v1+((p3.length:Nat):Int)))<0)) then none
   else slices_Concat_uint64_uint64_l1 N a0 n (wI (v1+((p3.length:Nat):Int))) (wI (v2+1)))
  else some v1
def slices_Concat_uint64_uint64_l2 (N:Nat) (a0:List (List Int)):Nat->Int->(List Int)->Option (List Int)
 | 0,_,_=>none
 | n+1,v6,v7 =>
  bif (decide (v6<((a0.length:Nat):Int))) then (bnd (getI a0 v6) fun p8 =>
   grd ((v7.length+p8.length)*8<=140737488355328) <|
   slices_Concat_uint64_uint64_l2 N a0 n (wI (v6+1)) (v7++p8))
  else some v7
def slices_Concat_uint64_uint64 (N:Nat) (a0:List (List Int)):Option (List Int) :=
 bnd (slices_Concat_uint64_uint64_l1 N a0 N 0 0) fun y4 =>
 bnd (slices_Grow_uint64_uint64_nil N y4) fun y5 =>
 bnd (slices_Concat_uint64_uint64_l2 N a0 N 0 y5) fun y9 =>
 some y9
def env_joined (N:Nat) (a0:List (List Int)):Option (List Int) :=
 bnd (slices_Concat_uint64_uint64 N a0) fun y1 =>
 some y1
def scope_Refs_l1 (N:Nat) (a0:TLocals):Nat->Int->(List Int)->Option (List Int)
 | 0,_,_=>none
 | n+1,v2,v3 =>
  bif (decide (v2<((a0.Slots.length:Nat):Int))) then (bnd (getI a0.Slots v2) fun p4 =>
   bif p4.Live then (grd ((v3.length+1)*8<=140737488355328) <|
    scope_Refs_l1 N a0 n (wI (v2+1)) (v3++[p4.Ref]))
   else scope_Refs_l1 N a0 n (wI (v2+1)) v3)
  else some v3
def scope_Refs (N:Nat) (a0:TLocals):Option (List Int) :=
 bnd (scope_Valid N a0) fun y1 =>
 bif (!y1) then some []
 else bnd (scope_Refs_l1 N a0 N 0 []) fun y5 =>
 some y5
def env_pinned_l1 (N:Nat) (a0:TEnv):Nat->Int->(List Int)->Option (List Int)
 | 0,_,_=>none
 | n+1,v1,v2 =>
  bif (decide (v1<((a0.Pins.length:Nat):Int))) then (bnd (getI a0.Pins v1) fun p3 =>
   grd ((v2.length+1)*8<=140737488355328) <|
   env_pinned_l1 N a0 n (wI (v1+1)) (v2++[p3.Ref]))
  else some v2
def env_pinned (N:Nat) (a0:TEnv):Option (List Int) :=
 bnd (env_pinned_l1 N a0 N 0 []) fun y4 =>
 some y4
def env_Strong (N:Nat) (a0:TEnv):Option (List Int) :=
 bnd (scope_Refs N a0.Locals) fun y1 =>
 bnd (slots_Refs N a0.Globals) fun y2 =>
 bnd (env_pinned N a0) fun y3 =>
 bnd (env_joined N [a0.Roots,y1,y2,y3]) fun y4 =>
 some y4
def env_Valid (N:Nat) (a0:TEnv):Option Bool :=
 bnd (pin_Match N a0.Heap a0.Pins) fun y1 =>
 bif (!y1) then some false
 else bnd (scope_Valid N a0.Locals) fun y2 =>
 bif (!y2) then some false
 else bnd (slots_Valid N a0.Globals) fun y3 =>
 bif (!y3) then some false
 else bnd (slots_Valid N a0.Weaks) fun y4 =>
 bif (!y4) then some false
 else bnd (slots_Refs N a0.Globals) fun y5 =>
 bnd (slices_Contains_uint64_uint64 N y5 0) fun y6 =>
 bif y6 then some false
 else bnd (env_Strong N a0) fun y7 =>
 bnd (slots_Refs N a0.Weaks) fun y8 =>
 bnd (env_joined N [y7,y8]) fun y9 =>
 bnd (audit_Refers N a0.Heap y9) fun y10 =>
 some y10
def slices_Clone_api_Page_api_Page (N:Nat) (a0:List TPage):Option (List TPage) :=
 some a0
def copies_Heap (N:Nat) (a0:THeap):Option THeap :=
 bnd (slices_Clone_uint64_uint64 N a0.Words) fun y1 =>
 bnd (slices_Clone_api_Page_api_Page N a0.Pages) fun y2 =>
 some (THeap.mk a0.Conf y1 y2 a0.Space a0.Bump)
def slices_Clone_api_Slot_api_Slot (N:Nat) (a0:List TSlot):Option (List TSlot) :=
 some a0
def slices_Clone_api_Scope_api_Scope (N:Nat) (a0:List TScope):Option (List TScope) :=
 some a0
def slices_Clone_int_int (N:Nat) (a0:List Int):Option (List Int) :=
 some a0
def copies_Locals (N:Nat) (a0:TLocals):Option TLocals :=
 bnd (slices_Clone_api_Slot_api_Slot N a0.Slots) fun y1 =>
 bnd (slices_Clone_api_Scope_api_Scope N a0.Scopes) fun y2 =>
 bnd (slices_Clone_int_int N a0.Issued) fun y3 =>
 some (TLocals.mk y1 y2 y3)
def slices_Clone_api_Entry_api_Entry (N:Nat) (a0:List TEntry):Option (List TEntry) :=
 some a0
def copies_Table (N:Nat) (a0:TTable):Option TTable :=
 bnd (slices_Clone_api_Entry_api_Entry N a0.Entries) fun y1 =>
 some (TTable.mk y1)
def slices_Clone_api_Pin_api_Pin (N:Nat) (a0:List TPin):Option (List TPin) :=
 some a0
def copies_Env (N:Nat) (a0:TEnv):Option TEnv :=
 bnd (copies_Heap N a0.Heap) fun y1 =>
 bnd (copies_Locals N a0.Locals) fun y2 =>
 bnd (copies_Table N a0.Globals) fun y3 =>
 bnd (copies_Table N a0.Weaks) fun y4 =>
 bnd (slices_Clone_api_Pin_api_Pin N a0.Pins) fun y5 =>
 bnd (slices_Clone_uint64_uint64 N a0.Roots) fun y6 =>
 some (TEnv.mk y1 y2 y3 y4 y5 y6)
def ncode_Args (N:Nat) (a0:Int):Option Int :=
 jn (fun (x1:Bool) =>
  bif x1 then some 3
  else jn (fun (x4:Bool) =>
   bif x4 then some 2
   else bif (decide (a0<1)) then some 0
   else bif (decide (a0>20)) then some 0
   else some 1) fun j4 =>
  bif (a0==1) then j4 true
  else jn (fun (x3:Bool) =>
   j4 x3) fun j3 =>
  bif (a0==6) then j3 true
  else jn (fun (x2:Bool) =>
   j3 x2) fun j2 =>
  bif (a0==8) then j2 true
  else j2 (a0==10)) fun j1 =>
 bif (a0==7) then j1 true
 else j1 (a0==9)
def nmach_suits (N:Nat) (a0:TCode) (a1:TIns):Option Bool :=
 jn (fun (x8:Bool) =>
  bif x8 then some (decide (a1.B<8))
  else bif (a1.Op==13) then (bnd (ncode_Args N a1.B) fun y9 =>
   some (decide ((wI (a1.C+y9))<=8)))
  else jn (fun (x10:Bool) =>
   bif x10 then some (decide (a1.K<=(wU ((a0.Ins.length:Nat):Int))))
   else some true) fun j9 =>
  bif (a1.Op==9) then j9 true
  else j9 (a1.Op==10)) fun j8 =>
 bif (a1.Op==2) then j8 true
 else jn (fun (x7:Bool) =>
  j8 x7) fun j7 =>
 bif (a1.Op==3) then j7 true
 else jn (fun (x6:Bool) =>
  j7 x6) fun j6 =>
 bif (a1.Op==4) then j6 true
 else jn (fun (x5:Bool) =>
  j6 x5) fun j5 =>
 bif (a1.Op==5) then j5 true
 else jn (fun (x4:Bool) =>
  j5 x4) fun j4 =>
 bif (a1.Op==6) then j4 true
 else jn (fun (x3:Bool) =>
  j4 x3) fun j3 =>
 bif (a1.Op==7) then j3 true
 else jn (fun (x2:Bool) =>
  j3 x2) fun j2 =>
 bif (a1.Op==8) then j2 true
 else jn (fun (x1:Bool) =>
  j2 x1) fun j1 =>
 bif (a1.Op==11) then j1 true
 else j1 (a1.Op==12)
def nmach_Step (N:Nat) (a0:TEnv) (a1:TCode) (a2:TFrame):Option (TEnv×TFrame×TEvent×TFact×Int) :=
 bnd (nmach_may N a1 a2) fun y1 =>
 bif (!y1) then some ((TEnv.mk zHp (TLocals.mk [] [] []) (TTable.mk []) (TTable.mk []) [] []),(TFrame.mk 0 [] 0),(TEvent.mk 0 0 (TIns.mk 0 0 0 0 0)),(TFact.mk false false 0),1)
 else bnd (env_Valid N a0) fun y2 =>
 bif (!y2) then some ((TEnv.mk zHp (TLocals.mk [] [] []) (TTable.mk []) (TTable.mk []) [] []),(TFrame.mk 0 [] 0),(TEvent.mk 0 0 (TIns.mk 0 0 0 0 0)),(TFact.mk false false 0),19)
 else bnd (copies_Env N a0) fun y3 =>
 jn (fun (x8:Int) (x9:Int) (x10:Int) (x11:List Int) (x12:Int) =>
  bif (x8 != 0) then some ((TEnv.mk zHp (TLocals.mk [] [] []) (TTable.mk []) (TTable.mk []) [] []),(TFrame.mk 0 [] 0),(TEvent.mk 0 0 (TIns.mk 0 0 0 0 0)),(TFact.mk false false 0),x8)
  else some (y3,(TFrame.mk x9 x11 x10),(TEvent.mk x12 0 (TIns.mk 0 0 0 0 0)),(TFact.mk false false 0),0)) fun j1 =>
 bnd (slices_Clone_uint64_uint64 N a2.Regs) fun y4 =>
 bnd (nmach_Fetch N a1 (TFrame.mk a2.Pc y4 a2.Err)) fun y5 =>
 bif (!y5.2) then j1 0 a2.Pc a2.Err y4 4
 else bnd (nmach_suits N a1 y5.1) fun y6 =>
 bif (!y6) then j1 16 0 0 y4 0
 else bif (y5.1.Op==1) then (bnd (getI y4 y5.1.A) fun p7 =>
  j1 0 (wI (a2.Pc+1)) a2.Err (y4.set y5.1.A.toNat y5.1.K) 0)
 else none
def made_Tape_Next (N:Nat) (a0:TTape) (a1:Int):Option (Int×TTape) :=
 bif (decide (a1<1)) then some (0,a0)
 else jn (fun (x2:Int) =>
  grd (a1≠0) <|
  grd (a1≠0) <|
  some (((wI ((x2.tmod a1)+a1)).tmod a1),(TTape.mk a0.L (wI (a0.at_+1))))) fun j1 =>
 bif (decide (a0.at_<((a0.L.length:Nat):Int))) then (bnd (getI a0.L a0.at_) fun p1 =>
  j1 p1)
 else j1 (wI ((wI (a0.at_*7))+3))
def made_Tape_Conf (N:Nat) (a0:TTape):Option (TConf×TTape) :=
 bnd (made_Tape_Next N a0 4) fun y1 =>
 bnd (getI [16,16,20,32] y1.1) fun p2 =>
 bnd (made_Tape_Next N y1.2 5) fun y3 =>
 bnd (getI [8,12,16,20,24] y3.1) fun p4 =>
 some ((TConf.mk p2 p4),y3.2)
def ref04_ValidConf (N:Nat) (a0:TConf):Option Bool :=
 bif (decide (a0.PageWords>=16)) then (bif (decide (a0.PageWords<=64)) then (bif ((a0.PageWords.tmod 4)==0) then (bif (decide (a0.Pages>=8)) then some (decide (a0.Pages<=64))
  else some false)
  else some false)
  else some false)
 else some false
def ref04_New (N:Nat) (a0:TConf):Option (THeap×Int) :=
 bnd (ref04_ValidConf N a0) fun y1 =>
 bif (!y1) then some (zHp,1)
 else grd (0<=(wI (a0.Pages*a0.PageWords))∧(wI (a0.Pages*a0.PageWords)).toNat*8<=140737488355328) <|
 grd (0<=a0.Pages∧a0.Pages.toNat*32<=140737488355328) <|
 some ((THeap.mk a0 (List.replicate (wI (a0.Pages*a0.PageWords)).toNat 0) (List.replicate a0.Pages.toNat (TPage.mk 0 0 0 0)) 0 (-1)),0)
def ref18_New (N:Nat) (a0:TConf):Option (TEnv×Int) :=
 bnd (ref04_New N a0) fun y1 =>
 some ((TEnv.mk y1.1 (TLocals.mk [] [] []) (TTable.mk []) (TTable.mk []) [] []),y1.2)
def ref21_New (N:Nat) (a0:TConf):Option (TWorld×Int) :=
 bnd (ref04_ValidConf N a0) fun y1 =>
 bif (!y1) then some (zWd,1)
 else some ((TWorld.mk a0 [] (TLocals.mk [] [] []) (TTable.mk []) (TTable.mk []) [] []),0)
def made_Tape_Start (N:Nat) (a0:TTape):Option (TPair×TTape) :=
 bnd (made_Tape_Conf N a0) fun y1 =>
 bnd (ref18_New N y1.1) fun y2 =>
 bnd (ref21_New N y1.1) fun y3 =>
 bnd (made_Tape_Next N y1.2 40) fun y4 =>
 some ((TPair.mk (TEnv.mk y2.1.Heap (TLocals.mk y2.1.Locals.Slots [(TScope.mk 0 (wI (4+y4.1)) true)] y2.1.Locals.Issued) y2.1.Globals y2.1.Weaks y2.1.Pins y2.1.Roots) (TWorld.mk y3.1.Conf y3.1.Things (TLocals.mk y3.1.Locals.Slots [(TScope.mk 0 (wI (4+y4.1)) true)] y3.1.Locals.Issued) y3.1.Globals y3.1.Weaks y3.1.Marks y3.1.Roots) [0]),y4.2)
def made_Tape_Done (N:Nat) (a0:TTape):Option Bool :=
 some (decide (a0.at_>=((a0.L.length:Nat):Int)))
def made_Play_l1 (N:Nat) (a1:Int) (y1:TPair×TTape):Nat->Option Unit
 | 0=>none
 | n+1 =>
  bif (decide (0<a1)) then (bnd (made_Tape_Done N y1.2) fun y2 =>
   bif (!y2) then none
   else some ())
  else some ()
def made_Play (N:Nat) (a0:List Int) (a1:Int):Option TPair :=
 bnd (made_Tape_Start N (TTape.mk a0 0)) fun y1 =>
 bnd (made_Play_l1 N a1 y1 N ) fun y3 =>
 some y1.1
def law23_awake (N:Nat):Option Bool :=
 bnd (nmach_Start N (TCode.mk 0 [(TIns.mk 1 1 0 0 5)]) []) fun y1 =>
 bnd (made_Play N [] 0) fun y2 =>
 bnd (nmach_Step N y2.Env (TCode.mk 0 [(TIns.mk 1 1 0 0 5)]) y1.1) fun y3 =>
 bif (y1.2==0) then (bif (y3.2.2.2.2==0) then (bif (y3.2.2.1.Kind==0) then (bif (((y3.2.1.Regs.length:Nat):Int)==8) then (bnd (getI y3.2.1.Regs 1) fun p4 =>
  bif (p4==5) then some (y3.2.1.Pc==1)
  else some false)
  else some false)
  else some false)
  else some false)
 else some false
def ref23_Same_l1 (N:Nat) (a0:TFrame) (a1:TFrame):Nat->Int->Option (Ex Bool Unit)
 | 0,_=>none
 | n+1,v1 =>
  bif (decide (v1<((a0.Regs.length:Nat):Int))) then (bnd (getI a0.Regs v1) fun p2 =>
   bnd (getI a1.Regs v1) fun p3 =>
   bif (p2 != p3) then some (.ret false)
   else ref23_Same_l1 N a0 a1 n (wI (v1+1)))
  else some (.nxt ())
def ref23_Same (N:Nat) (a0:TFrame) (a1:TFrame):Option Bool :=
 bif (a0.Pc != a1.Pc) then some false
 else bif (a0.Err != a1.Err) then some false
 else bif (((a0.Regs.length:Nat):Int) != ((a1.Regs.length:Nat):Int)) then some false
 else bnd (ref23_Same_l1 N a0 a1 N 0) fun e=>exK e (fun r=>some r) fun y4 =>
 some true
def law23_same (N:Nat) (a0:TFrame) (a1:TFrame):Option Bool :=
 bnd (ref23_Same N a0 a1) fun y1 =>
 some y1
def law23_NmachStarts (N:Nat) (a0:TCode) (a1:List Int) (a2:TFrame):Option Bool :=
 bif (decide (((a0.Ins.length:Nat):Int)>300)) then some true
 else bif (decide (((a1.length:Nat):Int)>20)) then some true
 else bif (decide (((a2.Regs.length:Nat):Int)>20)) then some true
 else bnd (law23_code N a0) fun y1 =>
 bnd (nmach_Start N y1 a1) fun y2 =>
 bnd (ref23_Start N a0 a1) fun y3 =>
 bnd (law23_code N a0) fun y4 =>
 bnd (law23_frame N a2) fun y5 =>
 bnd (nmach_Fetch N y4 y5) fun y6 =>
 bnd (ref23_Fetch N a0 a2) fun y7 =>
 bnd (law23_awake N ) fun y8 =>
 bif y8 then (bif (y2.2==y3.2) then (bnd (law23_same N y2.1 y3.1) fun y9 =>
     bif y9 then (bif (y6.2==y7.2) then (bif (y6.1.Op==y7.1.Op) then (bif (y6.1.A==y7.1.A) then (bif (y6.1.B==y7.1.B) then (bif (y6.1.C==y7.1.C) then some (y6.1.K==y7.1.K)
      else some false)
      else some false)
      else some false)
      else some false)
      else some false)
     else some false)
  else some false)
 else some false
end Go.Sx
namespace Go.Sx
def Ok {α:Type} (o:Option α) (P:α->Prop):Prop:=∃ r,o=some r∧P r
section
variable {α β γ:Type} {P:β->Prop}
theorem bnd_eq (x:α) (f:α->Option β):bnd (some x) f=f x:=by unfold bnd;rfl
theorem bnd_no (f:α->Option β):bnd none f=none:=by unfold bnd;rfl
theorem grd_eq {p:Prop} [Decidable p] (h:p) (x:Option α):grd p x=x:=by unfold grd;rw[if_pos h]
theorem jn_eq {κ:Type} (k:κ) (f:κ->γ):jn k f=f k:=by unfold jn;rfl
theorem exK_ret (a:α) (f:α->γ) (k:β->γ):exK (.ret a) f k=f a:=by unfold exK;rfl
theorem exK_nxt (b:β) (f:α->γ) (k:β->γ):exK (.nxt b) f k=k b:=by unfold exK;rfl
theorem getI_nat (l:List α) (k:Nat):getI l (k:Int)=l[k]?:=by unfold getI;simp
theorem getI_of {l:List α} {i:Int} (h0:0<=i) (h1:i<l.length):getI l i=some (l[i.toNat]'(by omega)):=by
 unfold getI;rw[if_pos h0];exact List.getElem?_eq_getElem _
theorem getI_some_iff {l:List α} {i:Int} {p:α}:getI l i=some p↔0<=i∧l[i.toNat]? = some p:=by
 unfold getI
 by_cases h0:0<=i
 ·rw[if_pos h0];exact ⟨fun h=>⟨h0,h⟩,fun h=>h.2⟩
 ·rw[if_neg h0];exact ⟨fun h=>(by cases h),fun h=>absurd h.1 h0⟩
theorem getI_mem {l:List α} {i:Int} {p:α} (h:getI l i=some p):p∈l:=List.mem_of_getElem? (getI_some_iff.1 h).2
theorem getI_none {l:List α} {i:Int} (h:¬ (0<=i∧i<l.length)):getI l i=none:=by
 unfold getI;split
 ·exact List.getElem?_eq_none (by omega)
 ·rfl
theorem Ok.some {x:β} (h:P x):Ok (some x) P:=⟨x,rfl,h⟩
theorem Ok.bnd {o:Option α} {f:α->Option β} {Q:α->Prop} (h:Ok o Q) (k:∀ y,o=.some y->Q y->Ok (f y) P):Ok (Sx.bnd o f) P:=by
 obtain ⟨y,rfl,hq⟩:=h;rw[bnd_eq];exact k y rfl hq
theorem Ok.grd {p:Prop} [Decidable p] {x:Option β} (h:p) (k:Ok x P):Ok (Sx.grd p x) P:=by rw[grd_eq h];exact k
theorem Ok.jn {κ:Type} {k:κ} {f:κ->Option β} (h:Ok (f k) P):Ok (Sx.jn k f) P:=by rw[jn_eq];exact h
theorem Ok.bif {b:Bool} {x y:Option β} (h1:b=true->Ok x P) (h2:b=false->Ok y P):Ok (bif b then x else y) P:=by
 cases b
 ·exact h2 rfl
 ·exact h1 rfl
theorem Ok.get {l:List α} {i:Int} {f:α->Option β} (h0:0<=i) (h1:i<l.length) (k:∀ p,getI l i=.some p->Ok (f p) P):Ok (Sx.bnd (getI l i) f) P:=by
 rw[getI_of h0 h1,bnd_eq];exact k _ (getI_of h0 h1)
theorem Ok.mono {o:Option β} {Q:β->Prop} (h:Ok o Q) (k:∀ x,Q x->P x):Ok o P:=by
 obtain ⟨y,rfl,hq⟩:=h;exact ⟨y,rfl,k y hq⟩
theorem Ok.of_eq {o:Option β} {x:β} (h:o=.some x) (hp:P x):Ok o P:=⟨x,h,hp⟩
theorem Ok.get_eq {o:Option β} {x:β} (h:Ok o P) (e:o=.some x):P x:=by
 obtain ⟨y,h1,h2⟩:=h;rw[e] at h1;exact Option.some.inj h1▸h2
theorem Ok.isSome {o:Option β} (h:Ok o P):o≠none:=by obtain ⟨y,rfl,_⟩:=h;simp
theorem Ok.exk {α':Type} {o:Option (Ex α' α)} {f:α'->Option β} {k:α->Option β} {Q:Ex α' α->Prop} (h:Ok o Q) (h1:∀ a,Q (.ret a)->Ok (f a) P) (h2:∀ b,Q (.nxt b)->Ok (k b) P):Ok (Sx.bnd o fun e=>exK e f k) P:=by
 obtain ⟨y,rfl,hq⟩:=h
 rw[bnd_eq]
 cases y with
 | ret a=>rw[exK_ret];exact h1 a hq
 | nxt b=>rw[exK_nxt];exact h2 b hq
end
theorem wI_id {n:Int} (h1 : -9223372036854775808<=n) (h2:n<=9223372036854775807):wI n=n:=by
 have e:wI n=if n % 18446744073709551616>=9223372036854775808 then n % 18446744073709551616-18446744073709551616 else n % 18446744073709551616:=by
  have e1:IntKind.bits .i64=64:=rfl
  have e2:IntKind.signed .i64=true:=rfl
  simp[wI,IntKind.wrap,e1,e2]
 rw[e]
 split<;>omega
theorem wI_range (n:Int) : -9223372036854775808<=wI n∧wI n<=9223372036854775807:=by
 have e:wI n=if n % 18446744073709551616>=9223372036854775808 then n % 18446744073709551616-18446744073709551616 else n % 18446744073709551616:=by
  have e1:IntKind.bits .i64=64:=rfl
  have e2:IntKind.signed .i64=true:=rfl
  simp[wI,IntKind.wrap,e1,e2]
 rw[e]
 split<;>omega
theorem wU_eq (n:Int):wU n=n % 18446744073709551616:=by
 have e1:IntKind.bits .u64=64:=rfl
 have e2:IntKind.signed .u64=false:=rfl
 simp[wU,IntKind.wrap,e1,e2]
theorem wU_id {n:Int} (h1:0<=n) (h2:n<=18446744073709551615):wU n=n:=by rw[wU_eq];omega
theorem wU_range (n:Int):0<=wU n∧wU n<=18446744073709551615:=by rw[wU_eq];omega
theorem wW_eq (n:Int):wW n=n % 4294967296:=by
 have e1:IntKind.bits .u32=32:=rfl
 have e2:IntKind.signed .u32=false:=rfl
 simp[wW,IntKind.wrap,e1,e2]
theorem wW_id {n:Int} (h1:0<=n) (h2:n<=4294967295):wW n=n:=by rw[wW_eq];omega
theorem sShl_one {n:Int} (h0:0<=n) (h1:n<=63):sShl .u64 1 n=2 ^ n.toNat:=by
 have e1:IntKind.bits .u64=64:=rfl
 have h:min n.toNat 64=n.toNat:=by omega
 have hp:(2:Int) ^ n.toNat<=2 ^ 63:=by
  have:2 ^ n.toNat<=2 ^ 63:=Nat.pow_le_pow_right (by omega) (by omega)
  exact_mod_cast this
 have hq:(0:Int)<=2 ^ n.toNat:=Int.pow_nonneg (by decide)
 show IntKind.wrap .u64 (1*2 ^ min n.toNat (IntKind.bits .u64))=_
 rw[e1,h,Int.one_mul]
 exact wU_id hq (by omega)
theorem sShr_u64 (a:Int) (k:Nat) (hk:k<=64) (h0:0<=a):sShr .u64 a k=a / 2 ^ k:=by
 have e1:IntKind.bits .u64=64:=rfl
 show a.fdiv (2 ^ min (k:Int).toNat (IntKind.bits .u64))=_
 rw[e1,Int.toNat_natCast,Nat.min_eq_left hk]
 exact Int.fdiv_eq_ediv_of_nonneg _ (Int.pow_nonneg (by decide))
theorem bAnd_mask (a:Int) (k:Nat) (hk:k<=63) (h0:0<=a) (h1:a<=18446744073709551615):bAnd .u64 a (2 ^ k-1)=a % 2 ^ k:=by
 obtain ⟨n,rfl⟩:=Int.eq_ofNat_of_zero_le h0
 have hb:IntKind.u64.bits=64:=rfl
 show IntKind.u64.wrap ((BitVec.ofInt IntKind.u64.bits n &&& BitVec.ofInt IntKind.u64.bits (2 ^ k-1)).toNat:Int)=_
 rw[hb]
 have hk2:(2:Int) ^ k-1=((2 ^ k-1:Nat):Int):=by
  have h1:=Nat.one_le_two_pow (n:=k)
  have h2:(2:Int) ^ k=((2 ^ k:Nat):Int):=by simp
  rw[h2];omega
 have e1:BitVec.ofInt 64 (n:Int)=BitVec.ofNat 64 n:=by simp
 have e2:BitVec.ofInt 64 ((2 ^ k-1:Nat):Int)=BitVec.ofNat 64 (2 ^ k-1):=by simp
 rw[hk2,e1,e2,BitVec.toNat_and,BitVec.toNat_ofNat,BitVec.toNat_ofNat]
 have hn:n % 2 ^ 64=n:=Nat.mod_eq_of_lt (by omega)
 have hp:2 ^ k<=2 ^ 63:=Nat.pow_le_pow_right (by omega) hk
 have hm:(2 ^ k-1) % 2 ^ 64=2 ^ k-1:=Nat.mod_eq_of_lt (by omega)
 rw[hn,hm,Nat.and_two_pow_sub_one_eq_mod]
 have hlt:n % 2 ^ k<2 ^ k:=Nat.mod_lt _ (Nat.two_pow_pos k)
 show wU _=_
 rw[wU_id (by omega) (by omega)]
 simp
end Go.Sx
namespace Go.Sx
theorem dlt_true {k:Nat} {n:Nat} (h:k<n):decide ((k:Int)<((n:Nat):Int))=true:=decide_eq_true (by omega)
theorem dlt_false (n:Nat):decide (((n:Nat):Int)<((n:Nat):Int))=false:=decide_eq_false (by omega)
theorem wI_succ {k:Nat} (h:k<=140737488355328):wI ((k:Int)+1)=((k+1:Nat):Int):=by rw[wI_id (by omega) (by omega)];omega
theorem bAndNot_low {a:Int} {k:Nat} (hk:k<=63) (h0:0<=a) (h1:a<2 ^ k):bAndNot .u64 a (2 ^ k-1)=0:=by
 obtain ⟨n,rfl⟩:=Int.eq_ofNat_of_zero_le h0
 have hb:IntKind.u64.bits=64:=rfl
 have hp:2 ^ k<=2 ^ 63:=Nat.pow_le_pow_right (by omega) hk
 have hk2:(2:Int) ^ k-1=((2 ^ k-1:Nat):Int):=by
  have h1:=Nat.one_le_two_pow (n:=k)
  have h2:(2:Int) ^ k=((2 ^ k:Nat):Int):=by simp
  rw[h2];omega
 have hn:n<2 ^ k:=by
  have h2:(2:Int) ^ k=((2 ^ k:Nat):Int):=by simp
  rw[h2] at h1;omega
 show IntKind.u64.wrap ((BitVec.ofInt IntKind.u64.bits n &&& ~~~ BitVec.ofInt IntKind.u64.bits (2 ^ k-1)).toNat:Int)=_
 rw[hb,hk2]
 have e1:BitVec.ofInt 64 (n:Int)=BitVec.ofNat 64 n:=by simp
 have e2:BitVec.ofInt 64 ((2 ^ k-1:Nat):Int)=BitVec.ofNat 64 (2 ^ k-1):=by rw[BitVec.ofInt_natCast]
 rw[e1,e2]
 have e3:BitVec.ofNat 64 n &&& ~~~ BitVec.ofNat 64 (2 ^ k-1)=0#64:=by
  apply BitVec.eq_of_getLsbD_eq
  intro i hi
  rw[BitVec.getLsbD_and,BitVec.getLsbD_not,BitVec.getLsbD_ofNat,BitVec.getLsbD_ofNat,BitVec.getLsbD_zero]
  by_cases h:i<k
  ·rw[Nat.testBit_two_pow_sub_one];simp[h,hi]
  ·rw[Nat.testBit_lt_two_pow (Nat.lt_of_lt_of_le hn (Nat.pow_le_pow_right (by omega) (by omega)))];simp
 rw[e3];rfl
section
variable {m:Nat}
theorem fits8 {v:Int} (h0:0<=v) (h1:v<=255):bits_fits (m+2000) v 8=some true:=by
 have o:bits_Ones (m+2000) 8=some 255:=by kernel_rfl
 rw[bits_fits,o,bnd_eq,show (255:Int)=2 ^ 8-1 from rfl,bAndNot_low (by omega) h0 (by omega)];rfl
theorem fits4 {v:Int} (h0:0<=v) (h1:v<=15):bits_fits (m+2000) v 4=some true:=by
 have o:bits_Ones (m+2000) 4=some 15:=by kernel_rfl
 rw[bits_fits,o,bnd_eq,show (15:Int)=2 ^ 4-1 from rfl,bAndNot_low (by omega) h0 (by omega)];rfl
theorem packN {a b c d:Int} (a0:0<=a) (a1:a<=255) (b0:0<=b) (b1:b<=15) (c0:0<=c) (c1:c<=255) (d0:0<=d) (d1:d<=15):∃ w,bits_Pack (m+2000) [TField.mk 8 a,TField.mk 4 b,TField.mk 8 c,TField.mk 4 d]=some (w,0):=by
 have h1:bits_Pack_l1 (m+2000) [TField.mk 8 a,TField.mk 4 b,TField.mk 8 c,TField.mk 4 d] (m+2000) 64 0=some (.nxt ()):=by kernel_rfl
 have l0:getI [TField.mk 8 a,TField.mk 4 b,TField.mk 8 c,TField.mk 4 d] 0=some (TField.mk 8 a):=getI_nat _ 0
 have l1:getI [TField.mk 8 a,TField.mk 4 b,TField.mk 8 c,TField.mk 4 d] 1=some (TField.mk 4 b):=getI_nat _ 1
 have l2:getI [TField.mk 8 a,TField.mk 4 b,TField.mk 8 c,TField.mk 4 d] 2=some (TField.mk 8 c):=getI_nat _ 2
 have l3:getI [TField.mk 8 a,TField.mk 4 b,TField.mk 8 c,TField.mk 4 d] 3=some (TField.mk 4 d):=getI_nat _ 3
 rw[bits_Pack,h1,bnd_eq,exK_nxt]
 rw[bits_Pack_l2,decide_eq_true (by simp),cond_true,l0,bnd_eq,fits8 a0 a1,bnd_eq,Bool.not_true,cond_false,grd_eq (by omega),show wI (0+8)=8 from rfl,show wI (0+1)=1 from rfl]
 rw[bits_Pack_l2,decide_eq_true (by simp),cond_true,l1,bnd_eq,fits4 b0 b1,bnd_eq,Bool.not_true,cond_false,grd_eq (by omega),show wI (8+4)=12 from rfl,show wI (1+1)=2 from rfl]
 rw[bits_Pack_l2,decide_eq_true (by simp),cond_true,l2,bnd_eq,fits8 c0 c1,bnd_eq,Bool.not_true,cond_false,grd_eq (by omega),show wI (12+8)=20 from rfl,show wI (2+1)=3 from rfl]
 rw[bits_Pack_l2,decide_eq_true (by simp),cond_true,l3,bnd_eq,fits4 d0 d1,bnd_eq,Bool.not_true,cond_false,grd_eq (by omega),show wI (20+4)=24 from rfl,show wI (3+1)=4 from rfl]
 rw[bits_Pack_l2,decide_eq_false (by simp),cond_false,bnd_eq,exK_nxt]
 exact ⟨_,rfl⟩
def insOK (x:TIns):Bool:=decide (1<=x.Op)&&(decide (x.Op<=17)&&(decide (0<=x.A)&&(decide (x.A<=7)&&(decide (0<=x.B)&&(decide (x.B<=255)&&(decide (0<=x.C)&&decide (x.C<=7)))))))
def codeOK (c:TCode):Bool:=decide (0<=c.Args∧c.Args<=3∧c.Ins.length<=256)&&c.Ins.all insOK
theorem cb (p q:Bool):(bif p then some q else some false)=some (p&&q):=by cases p<;>rfl
theorem insF (N:Nat) (x:TIns):ncode_Ins_formed N x=some (insOK x):=by
 rw[ncode_Ins_formed,insOK,show decide (x.A<8)=decide (x.A<=7) from decide_eq_decide.2 (by omega),show decide (x.C<8)=decide (x.C<=7) from decide_eq_decide.2 (by omega)]
 simp only[ge_iff_le,cb]
theorem formG {c:TCode} (hl:c.Ins.length<=1000) (N:Nat):∀ (n j:Nat),j<=c.Ins.length->c.Ins.length-j<n->ncode_Code_formed_l1 N c n (j:Int)=some (if (c.Ins.drop j).all insOK then .nxt () else .ret false)
 | 0,j,_,hn=>by omega
 | n+1,j,hj,hn=>by
  rw[ncode_Code_formed_l1]
  by_cases h:j<c.Ins.length
  ·rw[dlt_true h,cond_true,getI_nat,List.getElem?_eq_getElem h,bnd_eq,insF,bnd_eq,List.drop_eq_getElem_cons h,List.all_cons,wI_succ (by omega),formG hl N n (j+1) (by omega) (by omega)]
   cases insOK c.Ins[j]
   ·rw[Bool.not_false,cond_true,Bool.false_and,if_neg (by simp)]
   ·rw[Bool.not_true,cond_false,Bool.true_and]
  ·obtain rfl:j=c.Ins.length:=by omega
   rw[dlt_false,cond_false,List.drop_eq_nil_of_le (Nat.le_refl _)];rfl
theorem formedG {c:TCode} (hl:c.Ins.length<=300):ncode_Code_formed (m+2000) c=some (codeOK c):=by
 rw[ncode_Code_formed,codeOK]
 by_cases h1:c.Args<0
 ·rw[decide_eq_true h1,cond_true,decide_eq_false (by omega),Bool.false_and]
 rw[decide_eq_false h1,cond_false]
 by_cases h2:c.Args>3
 ·rw[decide_eq_true h2,cond_true,decide_eq_false (by omega),Bool.false_and]
 rw[decide_eq_false h2,cond_false]
 by_cases h3:((c.Ins.length:Nat):Int)>256
 ·rw[decide_eq_true h3,cond_true,decide_eq_false (by omega),Bool.false_and]
 rw[decide_eq_false h3,cond_false,decide_eq_true (by omega),Bool.true_and,show (0:Int)=((0:Nat):Int) from rfl,formG (by omega) _ _ 0 (by omega) (by omega),bnd_eq,List.drop_zero]
 cases c.Ins.all insOK
 ·rw[if_neg (by simp),exK_ret]
 ·rw[if_pos rfl,exK_nxt]
theorem insR {α:Type} (x:TIns) (p q:Option α):(bif (decide (x.Op<1)) then p else bif (decide (x.Op>17)) then p else bif (decide (x.A<0)) then p else bif (decide (x.A>7)) then p else bif (decide (x.C<0)) then p
 else bif (decide (x.C>7)) then p else bif (decide (x.B<0)) then p else bif (decide (x.B>255)) then p else q)=bif insOK x then q else p:=by
 cases h:insOK x
 ·simp only[cond_false]
  have h2:¬ (1<=x.Op∧x.Op<=17∧0<=x.A∧x.A<=7∧0<=x.B∧x.B<=255∧0<=x.C∧x.C<=7):=by
   intro hh
   obtain ⟨a,b,c,d,e,f,g,i⟩:=hh
   simp[insOK,a,b,c,d,e,f,g,i] at h
  by_cases a1:x.Op<1
  ·rw[decide_eq_true a1,cond_true]
  rw[decide_eq_false a1,cond_false]
  by_cases a2:x.Op>17
  ·rw[decide_eq_true a2,cond_true]
  rw[decide_eq_false a2,cond_false]
  by_cases a3:x.A<0
  ·rw[decide_eq_true a3,cond_true]
  rw[decide_eq_false a3,cond_false]
  by_cases a4:x.A>7
  ·rw[decide_eq_true a4,cond_true]
  rw[decide_eq_false a4,cond_false]
  by_cases a5:x.C<0
  ·rw[decide_eq_true a5,cond_true]
  rw[decide_eq_false a5,cond_false]
  by_cases a6:x.C>7
  ·rw[decide_eq_true a6,cond_true]
  rw[decide_eq_false a6,cond_false]
  by_cases a7:x.B<0
  ·rw[decide_eq_true a7,cond_true]
  rw[decide_eq_false a7,cond_false,decide_eq_true (by omega),cond_true]
 ·simp only[insOK,Bool.and_eq_true,decide_eq_true_eq] at h
  rw[decide_eq_false (by omega),decide_eq_false (by omega),decide_eq_false (by omega),decide_eq_false (by omega),decide_eq_false (by omega),decide_eq_false (by omega),decide_eq_false (by omega),decide_eq_false (by omega)]
  rfl
theorem formR {c:TCode} (hl:c.Ins.length<=1000) (N:Nat):∀ (n j:Nat),j<=c.Ins.length->c.Ins.length-j<n->ref22_Formed_l1 N c n (j:Int)=some (if (c.Ins.drop j).all insOK then .nxt () else .ret false)
 | 0,j,_,hn=>by omega
 | n+1,j,hj,hn=>by
  rw[ref22_Formed_l1]
  by_cases h:j<c.Ins.length
  ·rw[dlt_true h,cond_true,getI_nat,List.getElem?_eq_getElem h,bnd_eq,insR,List.drop_eq_getElem_cons h,List.all_cons,wI_succ (by omega),formR hl N n (j+1) (by omega) (by omega)]
   cases insOK c.Ins[j]
   ·rw[cond_false,Bool.false_and,if_neg (by simp)]
   ·rw[cond_true,Bool.true_and]
  ·obtain rfl:j=c.Ins.length:=by omega
   rw[dlt_false,cond_false,List.drop_eq_nil_of_le (Nat.le_refl _)];rfl
theorem formedR {c:TCode} (hl:c.Ins.length<=300):ref22_Formed (m+2000) c=some (codeOK c):=by
 rw[ref22_Formed,codeOK,show (0:Int)=((0:Nat):Int) from rfl,formR (by omega) _ _ 0 (by omega) (by omega),bnd_eq,List.drop_zero]
 cases c.Ins.all insOK
 ·rw[if_neg (by simp),exK_ret,Bool.and_false]
 ·rw[if_pos rfl,exK_nxt,Bool.and_true]
  by_cases h1:c.Args>=0
  ·by_cases h2:c.Args<=3
   ·rw[decide_eq_true (show c.Args>=((0:Nat):Int) from h1),cond_true,decide_eq_true h2,cond_true]
    exact congrArg some (decide_eq_decide.2 (by omega))
   ·rw[decide_eq_true (show c.Args>=((0:Nat):Int) from h1),cond_true,decide_eq_false h2,cond_false,decide_eq_false (by omega)]
  ·rw[decide_eq_false (show ¬ c.Args>=((0:Nat):Int) from h1),cond_false,decide_eq_false (by omega)]
theorem encG {c:TCode} (hl:c.Ins.length<=300) (hok:c.Ins.all insOK=true):∀ (n j:Nat) (v:List Int),j<=c.Ins.length->c.Ins.length-j<n->v.length=1+2*j->∃ r,ncode_Encode_l1 (m+2000) c n (j:Int) v=some (.nxt r)
 | 0,j,_,_,hn,_=>by omega
 | n+1,j,v,hj,hn,hv=>by
  rw[ncode_Encode_l1]
  by_cases h:j<c.Ins.length
  ·have hx:=List.all_eq_true.1 hok _ (List.getElem_mem h)
   simp only[insOK,Bool.and_eq_true,decide_eq_true_eq] at hx
   obtain ⟨w,hw⟩:=packN (m:=m) (a:=c.Ins[j].Op) (b:=c.Ins[j].A) (c:=c.Ins[j].B) (d:=c.Ins[j].C) (by omega) (by omega) (by omega) (by omega) (by omega) (by omega) (by omega) (by omega)
   obtain ⟨r,hr⟩:=encG hl hok n (j+1) (v++[w,c.Ins[j].K]) (by omega) (by omega) (by simp;omega)
   refine ⟨r,?_⟩
   rw[dlt_true h,cond_true,getI_nat,List.getElem?_eq_getElem h,bnd_eq,wU_id (by omega) (by omega),wU_id (by omega) (by omega),wU_id (by omega) (by omega),wU_id (by omega) (by omega),hw,bnd_eq]
   rw[show ((w,(0:Int)).2 != 0)=false from rfl,cond_false,grd_eq (by omega),wI_succ (by omega)]
   exact hr
  ·obtain rfl:j=c.Ins.length:=by omega
   rw[dlt_false,cond_false]
   exact ⟨_,rfl⟩
theorem encodeG {c:TCode} (hl:c.Ins.length<=300):∃ w,ncode_Encode (m+2000) c=some (w,if codeOK c then 0 else 1):=by
 rw[ncode_Encode,formedG hl,bnd_eq]
 cases h:codeOK c
 ·rw[Bool.not_false,cond_true];exact ⟨[],rfl⟩
 ·rw[Bool.not_true,cond_false]
  have hok:c.Ins.all insOK=true:=by
   simp only[codeOK,Bool.and_eq_true] at h;exact h.2
  obtain ⟨r,hr⟩:=encG (m:=m) hl hok (m+2000) 0 [wU c.Args] (by omega) (by omega) rfl
  rw[show (0:Int)=((0:Nat):Int) from rfl,hr,bnd_eq,exK_nxt]
  exact ⟨r,rfl⟩
theorem code_l1 {c:TCode} (hl:c.Ins.length<=300) (N:Nat):∀ (n j:Nat) (v:List TIns),j<=c.Ins.length->c.Ins.length-j<n->v.length=j->law23_code_l1 N c n (j:Int) v=some (v++c.Ins.drop j)
 | 0,j,v,_,hn,_=>by omega
 | n+1,j,v,hj,hn,hv=>by
  rw[law23_code_l1]
  by_cases h:j<c.Ins.length
  ·rw[dlt_true h,cond_true,getI_nat,List.getElem?_eq_getElem h,bnd_eq,grd_eq (by omega),wI_succ (by omega),code_l1 hl N n (j+1) _ (by omega) (by omega) (by rw[List.length_append];simp;omega),List.append_assoc,List.drop_eq_getElem_cons h]
   rfl
  ·obtain rfl:j=c.Ins.length:=by omega
   rw[dlt_false,cond_false,List.drop_eq_nil_of_le (Nat.le_refl _),List.append_nil]
theorem code_eq {c:TCode} (hl:c.Ins.length<=300):law23_code (m+2000) c=some c:=by
 rw[law23_code,show (0:Int)=((0:Nat):Int) from rfl,code_l1 hl _ _ 0 [] (by omega) (by omega) rfl,bnd_eq]
 rfl
theorem start_eq {c:TCode} (hl:c.Ins.length<=300) {a:List Int} (ha:a.length<=20):∃ f e,nmach_Start (m+2000) c a=some (f,e)∧ref23_Start (m+2000) c a=some (f,e)∧f.Regs.length<=8:=by
 obtain ⟨w,hw⟩:=encodeG (m:=m) hl
 rw[nmach_Start,hw,bnd_eq,ref23_Start,formedR hl,bnd_eq]
 cases h:codeOK c
 ·exact ⟨_,_,rfl,rfl,by simp⟩
 ·rw[show ((w,if true=true then (0:Int) else 1).2 != 0)=false from rfl,cond_false,Bool.not_true,cond_false]
  simp only[codeOK,Bool.and_eq_true,decide_eq_true_eq] at h
  by_cases he:((a.length:Nat):Int)=c.Args
  ·rw[show (((a.length:Nat):Int) != c.Args)=false by simp[he],cond_false,cond_false,grd_eq (by omega)]
   have e8:wI (8-((a.length:Nat):Int))=((8-a.length:Nat):Int):=by rw[wI_id (by omega) (by omega)];omega
   rw[e8,Int.toNat_natCast,grd_eq (by omega),grd_eq (by omega),grd_eq (by omega)]
   have e9:((List.replicate 8 (0:Int)).take 0++a)++(List.replicate 8 0).drop a.length=a++List.replicate (8-a.length) 0:=by
    rw[List.take_zero,List.nil_append,List.drop_replicate]
   rw[e9]
   exact ⟨_,_,rfl,rfl,by simp;omega⟩
  ·rw[show (((a.length:Nat):Int) != c.Args)=true by simp[he],cond_true,cond_true]
   exact ⟨_,_,rfl,rfl,by simp⟩
theorem fetch_eq (N:Nat) (c:TCode) (f:TFrame):∃ x b,nmach_Fetch N c f=some (x,b)∧ref23_Fetch N c f=some (x,b):=by
 rw[nmach_Fetch,ref23_Fetch,nmach_Frame_valid,ref23_Valid]
 cases h1:(((f.Regs.length:Nat):Int)==8)
 ·simp only[cond_false,bnd_eq,Bool.not_false,cond_true];exact ⟨_,_,rfl,rfl⟩
 by_cases h2:f.Pc>=0
 ·by_cases h3:f.Pc<=((c.Ins.length:Nat):Int)
  ·by_cases h4:f.Pc=((c.Ins.length:Nat):Int)
   ·simp only[decide_eq_true h2,decide_eq_true h3,cond_true,bnd_eq,Bool.not_true,cond_false,show (f.Pc==((c.Ins.length:Nat):Int))=true by simp[h4]];exact ⟨_,_,rfl,rfl⟩
   ·simp only[decide_eq_true h2,decide_eq_true h3,cond_true,bnd_eq,Bool.not_true,cond_false,show (f.Pc==((c.Ins.length:Nat):Int))=false by simp[h4],getI_of h2 (show f.Pc<c.Ins.length by omega)]
    exact ⟨_,_,rfl,rfl⟩
  ·simp only[decide_eq_true h2,decide_eq_false h3,cond_true,bnd_eq,Bool.not_false];exact ⟨_,_,rfl,rfl⟩
 ·simp only[decide_eq_false h2,cond_true,cond_false,bnd_eq,Bool.not_false];exact ⟨_,_,rfl,rfl⟩
theorem same_l1 (f:TFrame) (hl:f.Regs.length<=8) (N:Nat):∀ (n j:Nat),j<=f.Regs.length->f.Regs.length-j<n->ref23_Same_l1 N f f n (j:Int)=some (.nxt ())
 | 0,j,_,hn=>by omega
 | n+1,j,hj,hn=>by
  rw[ref23_Same_l1]
  by_cases h:j<f.Regs.length
  ·rw[dlt_true h,cond_true,getI_nat,List.getElem?_eq_getElem h,bnd_eq,bnd_eq,bne_self_eq_false,cond_false,wI_succ (by omega),same_l1 f hl N n (j+1) (by omega) (by omega)]
  ·obtain rfl:j=f.Regs.length:=by omega
   rw[dlt_false,cond_false]
theorem same_eq (f:TFrame) (hl:f.Regs.length<=8):law23_same (m+2000) f f=some true:=by
 rw[law23_same,ref23_Same,bne_self_eq_false,cond_false,bne_self_eq_false,cond_false,bne_self_eq_false,cond_false,show (0:Int)=((0:Nat):Int) from rfl,same_l1 f hl _ _ 0 (by omega) (by omega),bnd_eq,exK_nxt,bnd_eq]
theorem awake_true (m:Nat):law23_awake (m+2000)=some true:=by kernel_rfl
theorem nmachStarts_true (m:Nat) (c:TCode) (a:List Int) (f:TFrame):law23_NmachStarts (m+2000) c a f=some true:=by
 rw[law23_NmachStarts]
 by_cases h1:((c.Ins.length:Nat):Int)>300
 ·rw[decide_eq_true h1,cond_true]
 rw[decide_eq_false h1,cond_false]
 by_cases h2:((a.length:Nat):Int)>20
 ·rw[decide_eq_true h2,cond_true]
 rw[decide_eq_false h2,cond_false]
 by_cases h3:((f.Regs.length:Nat):Int)>20
 ·rw[decide_eq_true h3,cond_true]
 rw[decide_eq_false h3,cond_false]
 obtain ⟨g,e,s1,s2,s3⟩:=start_eq (m:=m) (c:=c) (by omega) (a:=a) (by omega)
 obtain ⟨x,b,f1,f2⟩:=fetch_eq (m+2000) c f
 simp only[code_eq (show c.Ins.length<=300 by omega),bnd_eq,s1,s2,law23_frame,f1,f2,awake_true,same_eq g s3,beq_self_eq_true,cond_true]
end
end Go.Sx
