import Derived.Test.YtgdhlnfcogcicaaGreatDoorRA
set_option linter.all false
namespace Go.Sx
structure TConf where
 PageWords:Int
 Pages:Int
structure TPage where
 Kind:Int
 Space:Int
 Used:Int
 Pins:Int
structure THeap where
 Conf:TConf
 Words:List Int
 Pages:List TPage
 Space:Int
 Bump:Int
structure TSlot where
 Stamp:Int
 Ref:Int
 Live:Bool
structure TScope where
 From:Int
 Cap:Int
 Base:Bool
structure TLocals where
 Slots:List TSlot
 Scopes:List TScope
 Issued:List Int
structure TEntry where
 Gen:Int
 Ref:Int
 Live:Bool
structure TTable where
 Entries:List TEntry
structure TPin where
 Ref:Int
 Count:Int
structure TEnv where
 Heap:THeap
 Locals:TLocals
 Globals:TTable
 Weaks:TTable
 Pins:List TPin
 Roots:List Int
structure THeader where
 Kind:Int
 Length:Int
 Map:Int
structure TThing where
 Header:THeader
 Fields:List Int
structure TMark where
 Id:Int
 Count:Int
 Base:Int
structure TWorld where
 Conf:TConf
 Things:List TThing
 Locals:TLocals
 Globals:TTable
 Weaks:TTable
 Marks:List TMark
 Roots:List Int
structure TPair where
 Env:TEnv
 World:TWorld
 Words:List Int
structure TTape where
 L:List Int
 at_:Int
structure TDeed where
 Op:Int
 A:Int
 B:Int
 C:Int
structure TFact where
 Failed:Bool
 Collected:Bool
 Base:Int
structure TReport where
 Copied:Int
 Kept:Int
 Filled:Int
 Freed:Int
 Cleared:Int
 Steps:Int
structure THandle where
 Tag:Int
 Index:Int
 Stamp:Int
structure Tframes where
 Locals:TLocals
structure TField where
 Width:Int
 Value:Int
structure TWork where
 Heap:THeap
 Old:List Int
 Taken:List Int
 Queue:List Int
 Scanned:Int
 Report:TReport
structure Tasked where
 World:TWorld
 a:Int
 b:Int
 c:Int
 failed:Bool
structure TFinding where
 Fault:Int
 Page:Int
 Addr:Int
structure TRun where
 From:Int
 Len:Int
def Qae (N:Nat) (a0:TTape) (a1:Int):Option (Int×TTape):=bif (decide (a1<1)) then some (0,a0) else jn (fun (x2:Int)=>grd (a1≠0) <| grd (a1≠0) <| some (((wI ((x2.tmod a1)+a1)).tmod a1),(TTape.mk a0.L (wI (a0.at_+1))))) fun j1=>bif (decide (a0.at_<((a0.L.length:Nat):Int))) then (bnd (getI a0.L a0.at_) fun p1=>j1 p1) else j1 (wI ((wI (a0.at_*7))+3))
def Qa5 (N:Nat) (a0:TPair) (a1:TTape):Option (Int×TTape):=bnd (Qae N a1 14) fun y1=>bif (y1.1==0) then (bnd (Qae N y1.2 8) fun y2=>bnd (getI [0,1,262145,262146,524289,1125899906842624,4097,262149] y2.1) fun p3=>some (p3,y2.2)) else bif (y1.1==1) then (bnd (Qae N y1.2 ((a0.Words.length:Nat):Int)) fun y4=>bnd (getI a0.Words y4.1) fun p5=>bnd (Qae N y4.2 3) fun y6=>some ((wU (p5+(wU y6.1))),y6.2)) else jn (fun (x8:Bool)=>bif x8 then (bnd (Qae N y1.2 ((a0.Words.length:Nat):Int)) fun y9=>bnd (getI a0.Words y9.1) fun p10=>some (p10,y9.2)) else bnd (Qae N y1.2 (if 6<((a0.Words.length:Nat):Int) then 6 else ((a0.Words.length:Nat):Int))) fun y11=>bnd (getI a0.Words (wI ((wI (((a0.Words.length:Nat):Int)-1))-y11.1))) fun p12=>some (p12,y11.2)) fun j2=>bif (y1.1==2) then j2 true else jn (fun (x7:Bool)=>j2 x7) fun j1=>bif (y1.1==3) then j1 true else j1 (y1.1==4)
def QbI (N:Nat) (a0:TPair) (a1:TTape):Option (TDeed×TTape):=bnd (Qae N a1 32) fun y1=>bnd (getI [1,1,2,2,3,4,5,6,7,7,8,8,9,9,9,10,11,12,12,13,14,15,16,17,18,19,19,20,20,0,0,21] y1.1) fun p2=>bif (p2==1) then (bnd (Qae N y1.2 4) fun y3=>grd (0<=(wU y3.1)) <| bnd (Qae N y3.2 (sShl .i64 1 (wU y3.1))) fun y4=>some ((TDeed.mk p2 (wU y3.1) (wU y4.1) 0),y4.2)) else jn (fun (x5:Bool)=>bif x5 then (bnd (Qae N y1.2 4) fun y6=>bnd (Qae N y6.2 9) fun y7=>bif (y7.1==0) then (bnd (Qae N y7.2 70) fun y8=>some ((TDeed.mk p2 (wU y8.1) 0 0),y8.2)) else some ((TDeed.mk p2 (wU y6.1) 0 0),y7.2)) else bif (p2==17) then (bnd (Qae N y1.2 9) fun y9=>some ((TDeed.mk p2 (wU y9.1) 0 0),y9.2)) else bnd (Qa5 N a0 y1.2) fun y10=>bnd (Qae N y10.2 4) fun y11=>bnd (Qae N y11.2 1000) fun y12=>jn (fun (x16:List Int) (x17:Int) (x18:Int)=>bif (p2==10) then (bnd (Qa5 N a0 (TTape.mk x16 x17)) fun y19=>some ((TDeed.mk p2 y10.1 y19.1 x18),y19.2)) else some ((TDeed.mk p2 y10.1 (wU y11.1) x18),(TTape.mk x16 x17))) fun j2=>bif (p2==9) then (bnd (Qa5 N a0 y12.2) fun y14=>j2 y14.2.L y14.2.at_ y14.1) else bnd (Qae N y12.2 9) fun y13=>bif (y13.1==0) then (bnd (Qa5 N a0 y13.2) fun y15=>j2 y15.2.L y15.2.at_ y15.1) else j2 y13.2.L y13.2.at_ (wU y12.1)) fun j1=>bif (p2==2) then j1 true else j1 (p2==3)
def Qat (N:Nat) (a0:TConf):Option Bool:=bif (decide (a0.PageWords>=16)) then (bif (decide (a0.PageWords<=64)) then (bif ((a0.PageWords.tmod 4)==0) then (bif (decide (a0.Pages>=8)) then some (decide (a0.Pages<=64)) else some false) else some false) else some false) else some false
def Qfz (N:Nat) (a0:TConf):Option (TWorld×Int):=bnd (Qat N a0) fun y1=>bif (!y1) then some ((TWorld.mk (TConf.mk 0 0) [] (TLocals.mk [] [] []) (TTable.mk []) (TTable.mk []) [] []),1) else some ((TWorld.mk a0 [] (TLocals.mk [] [] []) (TTable.mk []) (TTable.mk []) [] []),0)
def Qez (N:Nat) (a0:TTape):Option (TConf×TTape):=bnd (Qae N a0 4) fun y1=>bnd (getI [16,16,20,32] y1.1) fun p2=>bnd (Qae N y1.2 5) fun y3=>bnd (getI [8,12,16,20,24] y3.1) fun p4=>some ((TConf.mk p2 p4),y3.2)
def Qf6 (N:Nat) (a0:TConf):Option (THeap×Int):=bnd (Qat N a0) fun y1=>bif (!y1) then some ((THeap.mk (TConf.mk 0 0) [] [] 0 0),1) else grd (0<=(wI (a0.Pages*a0.PageWords))∧(wI (a0.Pages*a0.PageWords)).toNat*8<=140737488355328) <| grd (0<=a0.Pages∧a0.Pages.toNat*32<=140737488355328) <| some ((THeap.mk a0 (List.replicate (wI (a0.Pages*a0.PageWords)).toNat 0) (List.replicate a0.Pages.toNat (TPage.mk 0 0 0 0)) 0 (-1)),0)
def QfA (N:Nat) (a0:TConf):Option (TEnv×Int):=bnd (Qf6 N a0) fun y1=>some ((TEnv.mk y1.1 (TLocals.mk [] [] []) (TTable.mk []) (TTable.mk []) [] []),y1.2)
def QbR (N:Nat) (a0:TTape):Option (TPair×TTape):=bnd (Qez N a0) fun y1=>bnd (QfA N y1.1) fun y2=>bnd (Qfz N y1.1) fun y3=>bnd (Qae N y1.2 40) fun y4=>some ((TPair.mk (TEnv.mk y2.1.Heap (TLocals.mk y2.1.Locals.Slots [(TScope.mk 0 (wI (4+y4.1)) true)] y2.1.Locals.Issued) y2.1.Globals y2.1.Weaks y2.1.Pins y2.1.Roots) (TWorld.mk y3.1.Conf y3.1.Things (TLocals.mk y3.1.Locals.Slots [(TScope.mk 0 (wI (4+y4.1)) true)] y3.1.Locals.Issued) y3.1.Globals y3.1.Weaks y3.1.Marks y3.1.Roots) [0]),y4.2)
def QfK (N:Nat) (a0:TTape):Option Bool:=some (decide (a0.at_>=((a0.L.length:Nat):Int)))
def Qb5 (N:Nat) (a0:TTable):Nat->Int->Option (Ex Bool Unit)
 | 0,_=>none
 | n+1,v1 =>
  bif (decide (v1<((a0.Entries.length:Nat):Int))) then (bnd (getI a0.Entries v1) fun p2 =>
   bif (decide (p2.Gen<1)) then some (.ret false)
   else bif (decide (p2.Gen>4294967295)) then some (.ret false)
   else bif (!p2.Live) then (bif (p2.Ref != 0) then some (.ret false)
    else Qb5 N a0 n (wI (v1+1)))
   else Qb5 N a0 n (wI (v1+1)))
  else some (.nxt ())
def Qbl (N:Nat) (a0:TTable):Option Bool:=bnd (Qb5 N a0 N 0) fun e=>exK e (fun r=>some r) fun y3=>some (decide (((a0.Entries.length:Nat):Int)<=64))
def Qcb (N:Nat) (a0:THeader):Option Bool:=bif (decide (a0.Kind<0)) then some false else bif (decide (a0.Kind>3)) then some false else bif (decide (a0.Length<0)) then some false else bif (decide (a0.Length>255)) then some false else bif (a0.Kind != 1) then some (a0.Map==0) else bif (decide (a0.Length<=32)) then (grd (0<=(wU a0.Length)) <| some (decide ((wU a0.Map)<(sShl .u64 1 (wU a0.Length))))) else some false
def QbB (N:Nat) (a0:THeader) (a1:Int):Option Bool:=bnd (Qcb N a0) fun y1=>bif (!y1) then some false else bif (decide (a1<0)) then some false else bif (decide (a1>=a0.Length)) then some false else bif (a0.Kind==2) then some true else bif (a0.Kind==1) then (grd (0<=(wU a1)) <| some ((bAnd .u32 (sShr .u32 a0.Map (wU a1)) 1)==1)) else some false
def Qde (N:Nat) (a0:TThing):Nat->Int->(List Int)->Option (List Int)
 | 0,_,_=>none
 | n+1,v1,v2 =>
  bif (decide (v1<((a0.Fields.length:Nat):Int))) then (bnd (QbB N a0.Header v1) fun y3 =>
   bif y3 then (bnd (getI a0.Fields v1) fun p4 =>
    grd ((v2.length+1)*8<=140737488355328) <|
    Qde N a0 n (wI (v1+1)) (v2++[p4]))
   else Qde N a0 n (wI (v1+1)) v2)
  else some v2
def QfL (N:Nat) (a0:TThing):Option (List Int):=bnd (Qde N a0 N 0 []) fun y5=>some y5
def Qa2 (N:Nat) (a0:TTable):Nat->Int->(List Int)->Option (List Int)
 | 0,_,_=>none
 | n+1,v1,v2 =>
  bif (decide (v1<((a0.Entries.length:Nat):Int))) then (bnd (Qbl N a0) fun y3 =>
   bif y3 then (bnd (getI a0.Entries v1) fun p4 =>
    bif p4.Live then (bnd (getI a0.Entries v1) fun p5 =>
     grd ((v2.length+1)*8<=140737488355328) <|
     Qa2 N a0 n (wI (v1+1)) (v2++[p5.Ref]))
    else Qa2 N a0 n (wI (v1+1)) v2)
   else some v2)
  else some v2
def Qa0 (N:Nat) (a0:TTable):Option (List Int):=bnd (Qa2 N a0 N 0 []) fun y6=>some y6
def Qcr (N:Nat) (a0:TLocals) (a2:Int):Nat->Int->Int->Option Int
 | 0,_,_=>none
 | n+1,v1,v2 =>
  bif (decide (v2<a2)) then (bnd (getI a0.Slots v2) fun p3 =>
   bif p3.Live then Qcr N a0 a2 n (wI (v1+1)) (wI (v2+1))
   else Qcr N a0 a2 n v1 (wI (v2+1)))
  else some v1
def QfM (N:Nat) (a0:TLocals) (a1:Int) (a2:Int):Option Int:=bnd (Qcr N a0 a2 N 0 a1) fun y4=>some y4
def QgL (N:Nat) (a0:TLocals) (a1:Int):Option Int:=bif (decide ((wI (a1+1))<((a0.Scopes.length:Nat):Int))) then (bnd (getI a0.Scopes (wI (a1+1))) fun p1=>some p1.From) else some ((a0.Slots.length:Nat):Int)
def QcA (N:Nat) (a0:TLocals):Nat->Int->Option (Ex Bool Unit)
 | 0,_=>none
 | n+1,v1 =>
  bif (decide (v1<((a0.Issued.length:Nat):Int))) then (bnd (getI a0.Issued v1) fun p2 =>
   bif (decide (p2<0)) then some (.ret false)
   else bnd (getI a0.Issued v1) fun p3 =>
   bif (decide (p3>4095)) then some (.ret false)
   else QcA N a0 n (wI (v1+1)))
  else some (.nxt ())
def Qam (N:Nat) (a0:TLocals):Nat->Int->Int->Option (Ex Bool Unit)
 | 0,_,_=>none
 | n+1,v5,v6 =>
  bif (decide (v6<((a0.Slots.length:Nat):Int))) then (bnd (getI a0.Slots v6) fun p7 =>
   bif (decide (p7.Stamp<=v5)) then some (.ret false)
   else bif (decide (p7.Stamp>((a0.Issued.length:Nat):Int))) then some (.ret false)
   else bnd (getI a0.Issued (wI (p7.Stamp-1))) fun p8 =>
   bif (p8 != v6) then some (.ret false)
   else bif (!(p7.Live==(p7.Ref != 0))) then some (.ret false)
   else Qam N a0 n p7.Stamp (wI (v6+1)))
  else some (.nxt ())
def Qak (N:Nat) (a0:TLocals):Nat->Int->Int->Option (Ex Bool Unit)
 | 0,_,_=>none
 | n+1,v10,v11 =>
  bif (decide (v11<((a0.Scopes.length:Nat):Int))) then (bnd (getI a0.Scopes v11) fun p12 =>
   bif (v11==0) then (bif (p12.From != 0) then some (.ret false)
    else bif (!p12.Base) then some (.ret false)
    else bif (decide (p12.From<v10)) then some (.ret false)
    else bif (decide (p12.From>((a0.Slots.length:Nat):Int))) then some (.ret false)
    else bif (decide (p12.Cap<0)) then some (.ret false)
    else bif (decide (p12.Cap>64)) then some (.ret false)
    else Qak N a0 n p12.From (wI (v11+1)))
   else bif (decide (p12.From<v10)) then some (.ret false)
   else bif (decide (p12.From>((a0.Slots.length:Nat):Int))) then some (.ret false)
   else bif (decide (p12.Cap<0)) then some (.ret false)
   else bif (decide (p12.Cap>64)) then some (.ret false)
   else Qak N a0 n p12.From (wI (v11+1)))
  else some (.nxt ())
def Qb6 (N:Nat) (a0:TLocals):Nat->Int->Option (Ex Bool Unit)
 | 0,_=>none
 | n+1,v14 =>
  bif (decide (v14<((a0.Scopes.length:Nat):Int))) then (bnd (getI a0.Scopes v14) fun p15 =>
   bnd (QgL N a0 v14) fun y16 =>
   bnd (QfM N a0 p15.From y16) fun y17 =>
   bnd (getI a0.Scopes v14) fun p18 =>
   bif (decide (y17>p18.Cap)) then some (.ret false)
   else Qb6 N a0 n (wI (v14+1)))
  else some (.nxt ())
def QbC (N:Nat) (a0:TLocals):Option Bool:=jn (fun (_:Unit)=>bnd (QcA N a0 N 0) fun e=>exK e (fun r=>some r) fun y4=>bnd (Qam N a0 N 0 0) fun e=>exK e (fun r=>some r) fun y9=>bnd (Qak N a0 N 0 0) fun e=>exK e (fun r=>some r) fun y13=>bnd (Qb6 N a0 N 0) fun e=>exK e (fun r=>some r) fun y19=>some true) fun j1=>bif (decide (((a0.Issued.length:Nat):Int)>4096)) then some false else bif (decide (((a0.Scopes.length:Nat):Int)>64)) then some false else bif (((a0.Scopes.length:Nat):Int)==0) then (bif (decide (((a0.Slots.length:Nat):Int)>0)) then some false else j1 ()) else j1 ()
def Qci (N:Nat) (a0:TWorld) (a1:List Int):Nat->Int->Option (Ex Bool Unit)
 | 0,_=>none
 | n+1,v1 =>
  bif (decide (v1<((a1.length:Nat):Int))) then (bnd (getI a1 v1) fun p2 =>
   bif (decide (p2>(wU ((a0.Things.length:Nat):Int)))) then some (.ret false)
   else Qci N a0 a1 n (wI (v1+1)))
  else some (.nxt ())
def Qcj (N:Nat) (a0:TWorld) (a1:List Int):Option Bool:=bnd (Qci N a0 a1 N 0) fun e=>exK e (fun r=>some r) fun y3=>some true
def Qea (N:Nat) (a0:TWorld) (a1:Int):Nat->Int->Option (Ex Int Unit)
 | 0,_=>none
 | n+1,v1 =>
  bif (decide (v1<((a0.Marks.length:Nat):Int))) then (bnd (getI a0.Marks v1) fun p2 =>
   bif (p2.Id==a1) then some (.ret v1)
   else Qea N a0 a1 n (wI (v1+1)))
  else some (.nxt ())
def QeR (N:Nat) (a0:TWorld) (a1:Int):Option Int:=bnd (Qea N a0 a1 N 0) fun e=>exK e (fun r=>some r) fun y3=>some (-1)
def Qa3 (N:Nat) (a0:TLocals):Nat->Int->(List Int)->Option (List Int)
 | 0,_,_=>none
 | n+1,v1,v2 =>
  bif (decide (v1<((a0.Slots.length:Nat):Int))) then (bnd (QbC N a0) fun y3 =>
   bif y3 then (bnd (getI a0.Slots v1) fun p4 =>
    bif p4.Live then (bnd (getI a0.Slots v1) fun p5 =>
     grd ((v2.length+1)*8<=140737488355328) <|
     Qa3 N a0 n (wI (v1+1)) (v2++[p5.Ref]))
    else Qa3 N a0 n (wI (v1+1)) v2)
   else some v2)
  else some v2
def QbX (N:Nat) (a0:TLocals):Option (List Int):=bnd (Qa3 N a0 N 0 []) fun y6=>some y6
def QcB (N:Nat) (a0:TWorld):Nat->Int->Option (Ex Bool Unit)
 | 0,_=>none
 | n+1,v5 =>
  bif (decide (v5<((a0.Things.length:Nat):Int))) then (bnd (getI a0.Things v5) fun p6 =>
   bnd (Qcb N p6.Header) fun y7 =>
   bif (!y7) then some (.ret false)
   else bif (p6.Header.Kind==0) then some (.ret false)
   else bif (((p6.Fields.length:Nat):Int) != p6.Header.Length) then some (.ret false)
   else bnd (QfL N p6) fun y8 =>
   bnd (Qcj N a0 y8) fun y9 =>
   bif (!y9) then some (.ret false)
   else QcB N a0 n (wI (v5+1)))
  else some (.nxt ())
def QcC (N:Nat) (a0:TWorld) (y11:List Int):Nat->Int->Option (Ex Bool Unit)
 | 0,_=>none
 | n+1,v12 =>
  grd (y11.length<=140737488355328) <|
  bif (decide (v12<((y11.length:Nat):Int))) then (bnd (getI y11 v12) fun p13 =>
   bif (p13==0) then some (.ret false)
   else QcC N a0 y11 n (wI (v12+1)))
  else some (.nxt ())
def QcD (N:Nat) (a0:TWorld) (y11:List Int):Nat->Int->Option (Ex Bool Unit)
 | 0,_=>none
 | n+1,v15 =>
  bif (decide (v15<((a0.Marks.length:Nat):Int))) then (bnd (getI a0.Marks v15) fun p16 =>
   bif (decide (p16.Id<1)) then some (.ret false)
   else bif (decide (p16.Id>(wU ((a0.Things.length:Nat):Int)))) then some (.ret false)
   else bnd (QeR N a0 p16.Id) fun y17 =>
   bif (y17 != v15) then some (.ret false)
   else bif (decide (p16.Count<1)) then some (.ret false)
   else bif (decide (p16.Count>1000)) then some (.ret false)
   else QcD N a0 y11 n (wI (v15+1)))
  else some (.nxt ())
def Qdu (N:Nat) (a0:TWorld):Option Bool:=bnd (Qat N a0.Conf) fun y1=>bif (!y1) then some false else bnd (QbC N a0.Locals) fun y2=>bif (!y2) then some false else bnd (Qbl N a0.Globals) fun y3=>bif (!y3) then some false else bnd (Qbl N a0.Weaks) fun y4=>bif (!y4) then some false else bif (decide (((a0.Marks.length:Nat):Int)>64)) then some false else bnd (QcB N a0 N 0) fun e=>exK e (fun r=>some r) fun y10=>bnd (Qa0 N a0.Globals) fun y11=>bnd (QcC N a0 y11 N 0) fun e=>exK e (fun r=>some r) fun y14=>bnd (QcD N a0 y11 N 0) fun e=>exK e (fun r=>some r) fun y18=>bnd (Qcj N a0 a0.Roots) fun y19=>bif y19 then (bnd (QbX N a0.Locals) fun y20=>bnd (Qcj N a0 y20) fun y21=>bif y21 then (bnd (Qcj N a0 y11) fun y22=>bif y22 then (bnd (Qa0 N a0.Weaks) fun y23=>bnd (Qcj N a0 y23) fun y24=>some y24) else some false) else some false) else some false
def Qc0 (N:Nat) (a0:TWorld):Nat->Int->(List Int)->Option (List Int)
 | 0,_,_=>none
 | n+1,v3,v4 =>
  bif (decide (v3<((a0.Marks.length:Nat):Int))) then (bnd (getI a0.Marks v3) fun p5 =>
   grd ((v4.length+1)*8<=140737488355328) <|
   Qc0 N a0 n (wI (v3+1)) (v4++[p5.Id]))
  else some v4
def QfB (N:Nat) (a0:TWorld):Option (List Int):=grd (a0.Roots.length*8<=140737488355328) <| bnd (QbX N a0.Locals) fun y1=>grd ((a0.Roots.length+y1.length)*8<=140737488355328) <| bnd (Qa0 N a0.Globals) fun y2=>grd (((a0.Roots.length+y1.length)+y2.length)*8<=140737488355328) <| bnd (Qc0 N a0 N 0 ((a0.Roots++y1)++y2)) fun y6=>some y6
def Qbt (N:Nat) (a0:TWorld):Nat->Int->(List Bool)->(List Int)->Option (List Bool)
 | 0,_,_,_=>none
 | n+1,v3,v4,v5 =>
  grd (v5.length<=140737488355328) <|
  bif (decide (v3<((v5.length:Nat):Int))) then (bnd (getI v5 v3) fun p6 =>
   bif (p6==0) then Qbt N a0 n (wI (v3+1)) v4 v5
   else bnd (getI v5 v3) fun p7 =>
   bnd (getI v4 (wU (p7-1))) fun p8 =>
   bif p8 then Qbt N a0 n (wI (v3+1)) v4 v5
   else bnd (getI v5 v3) fun p9 =>
   bnd (getI v4 (wU (p9-1))) fun p10 =>
   bnd (getI v5 v3) fun p11 =>
   bnd (getI a0.Things (wU (p11-1))) fun p12 =>
   bnd (QfL N p12) fun y13 =>
   grd ((v5.length+y13.length)*8<=140737488355328) <|
   Qbt N a0 n (wI (v3+1)) (v4.set (wU (p9-1)).toNat true) (v5++y13))
  else some v4
def Qe7 (N:Nat) (a0:TWorld):Option (List Bool):=bnd (Qdu N a0) fun y1=>bif (!y1) then some [] else grd (0<=((a0.Things.length:Nat):Int)∧((a0.Things.length:Nat):Int).toNat<=140737488355328) <| bnd (QfB N a0) fun y2=>bnd (Qbt N a0 N 0 (List.replicate ((a0.Things.length:Nat):Int).toNat false) y2) fun y14=>some y14
def Qbf (N:Nat) (a1:List Int):Nat->Int->Int->(List TEntry)->Option (List TEntry)
 | 0,_,_,_=>none
 | n+1,v3,v4,v5 =>
  grd (v5.length<=140737488355328) <|
  bif (decide (v4<((v5.length:Nat):Int))) then (bnd (getI v5 v4) fun p6 =>
   bif p6.Live then (bnd (getI a1 v3) fun p7 =>
    bnd (getI v5 v4) fun p8 =>
    Qbf N a1 n (wI (v3+1)) (wI (v4+1)) (v5.set v4.toNat (TEntry.mk p8.Gen p7 p8.Live)))
   else Qbf N a1 n v3 (wI (v4+1)) v5)
  else some v5
def QcM (N:Nat) (a0:TTable) (a1:List Int):Option (TTable×Int):=bnd (Qbl N a0) fun y1=>bif (!y1) then some ((TTable.mk []),1) else bnd (Qa0 N a0) fun y2=>grd (y2.length<=140737488355328) <| bif (((a1.length:Nat):Int) != ((y2.length:Nat):Int)) then some ((TTable.mk []),1) else grd (a0.Entries.length*24<=140737488355328) <| bnd (Qbf N a1 N 0 0 a0.Entries) fun y9=>some ((TTable.mk y9),0)
def QaG (N:Nat) (a0:TWorld) (y2:List Bool):Nat->Int->(List Int)->Option (List Int)
 | 0,_,_=>none
 | n+1,v4,v5 =>
  grd (v5.length<=140737488355328) <|
  bif (decide (v4<((v5.length:Nat):Int))) then (bnd (getI v5 v4) fun p6 =>
   bif (p6 != 0) then (bnd (getI v5 v4) fun p7 =>
    bnd (getI y2 (wU (p7-1))) fun p8 =>
    bif (!p8) then (bnd (getI v5 v4) fun p9 =>
     QaG N a0 y2 n (wI (v4+1)) (v5.set v4.toNat 0))
    else QaG N a0 y2 n (wI (v4+1)) v5)
   else QaG N a0 y2 n (wI (v4+1)) v5)
  else some v5
def Qcs (N:Nat) (a0:TWorld):Option (TWorld×Int):=bnd (Qdu N a0) fun y1=>bif (!y1) then some ((TWorld.mk (TConf.mk 0 0) [] (TLocals.mk [] [] []) (TTable.mk []) (TTable.mk []) [] []),19) else bnd (Qe7 N a0) fun y2=>bnd (Qa0 N a0.Weaks) fun y3=>bnd (QaG N a0 y2 N 0 y3) fun y10=>bnd (QcM N a0.Weaks y10) fun y11=>some ((TWorld.mk a0.Conf a0.Things a0.Locals a0.Globals y11.1 a0.Marks a0.Roots),0)
def QbD (N:Nat) (a0:Int) (a1:Int) (a2:Int):Option (THeader×Bool):=bif (a0==1) then (bif (decide (a1<=2147483647)) then some ((THeader.mk a0 (wI (bAnd .u64 a1 2147483647)) (wW a2)),(decide (a2<=4294967295))) else some ((THeader.mk a0 (wI (bAnd .u64 a1 2147483647)) (wW a2)),false)) else some ((THeader.mk a0 (wI (bAnd .u64 a1 2147483647)) 0),(decide (a1<=2147483647)))
def QcE (N:Nat) (a0:TConf):Option Int:=bnd (Qat N a0) fun y1=>bif (!y1) then some 0 else some (wI (a0.PageWords.tdiv 4))
def QbY (N:Nat) (a0:TConf) (a1:Int):Nat->Int->Option (Ex Int Unit)
 | 0,_=>none
 | n+1,v3 =>
  bif (decide (v3<=4)) then (bif (decide ((wI (v3*a0.PageWords))>=a1)) then some (.ret v3)
   else QbY N a0 a1 n (wI (v3+1)))
  else some (.nxt ())
def Qef (N:Nat) (a0:TConf) (a1:Int):Option Int:=bnd (Qat N a0) fun y1=>bif (!y1) then some (-1) else bif (decide (a1<1)) then some (-1) else bnd (QcE N a0) fun y2=>bif (decide (a1<=y2)) then some 0 else bnd (QbY N a0 a1 N 1) fun e=>exK e (fun r=>some r) fun y4=>some (-1)
def QbZ (N:Nat) (a0:THeader):Option Int:=bnd (Qcb N a0) fun y1=>bif (!y1) then some 0 else some (wI (a0.Length+1))
def Qdr (N:Nat) (a0:TConf) (a1:THeader):Option Bool:=bnd (Qcb N a1) fun y1=>bif y1 then (bif (a1.Kind != 0) then (bnd (QbZ N a1) fun y2=>bnd (Qef N a0 y2) fun y3=>some (y3 != (-1))) else some false) else some false
def Qdv (N:Nat) (a0:TLocals) (a1:Int):Option (TLocals×Int×Int×Int):=bnd (QbC N a0) fun y1=>bif (!y1) then some ((TLocals.mk [] [] []),0,0,1) else bif (a1==0) then some ((TLocals.mk [] [] []),0,0,1) else bif (((a0.Scopes.length:Nat):Int)==0) then some ((TLocals.mk [] [] []),0,0,9) else bnd (getI a0.Scopes (wI (((a0.Scopes.length:Nat):Int)-1))) fun p2=>bnd (QfM N a0 p2.From ((a0.Slots.length:Nat):Int)) fun y3=>bnd (getI a0.Scopes (wI (((a0.Scopes.length:Nat):Int)-1))) fun p4=>bif (decide (y3>=p4.Cap)) then some ((TLocals.mk [] [] []),0,0,10) else bif (((a0.Issued.length:Nat):Int)==4096) then some ((TLocals.mk [] [] []),0,0,18) else grd (a0.Issued.length*8<=140737488355328) <| grd ((a0.Issued.length+1)*8<=140737488355328) <| grd (a0.Slots.length*24<=140737488355328) <| grd ((a0.Slots.length+1)*24<=140737488355328) <| some ((TLocals.mk (a0.Slots++[(TSlot.mk (wI (((a0.Issued.length:Nat):Int)+1)) a1 true)]) a0.Scopes (a0.Issued++[((a0.Slots.length:Nat):Int)])),((a0.Slots.length:Nat):Int),(wI (((a0.Issued.length:Nat):Int)+1)),0)
def Qcc (N:Nat) (a0:TLocals) (a1:Int):Option Int:=bif (a1==0) then some 0 else bnd (Qdv N a0 a1) fun y1=>some y1.2.2.2
def Qe8 (N:Nat) (a0:TWorld) (a1:Int) (a2:Int) (a3:Int) (a4:Bool):Option Int:=bif (decide (((a0.Marks.length:Nat):Int)>0)) then some 15 else bnd (QbD N a1 a2 a3) fun y1=>bif (!y1.2) then some 1 else bnd (Qdr N a0.Conf y1.1) fun y2=>bif (!y2) then some 1 else bnd (Qcc N a0.Locals 1) fun y3=>bif (y3 != 0) then some y3 else bif a4 then some 3 else some 0
def QfV (N:Nat) (a0:THandle):Option Bool:=bif (decide (a0.Tag>=1)) then (bif (decide (a0.Tag<=3)) then (bif (decide (a0.Index>=0)) then (bif (decide (a0.Index<=65535)) then (bif (decide (a0.Stamp>=1)) then some (decide (a0.Stamp<=4294967295)) else some false) else some false) else some false) else some false) else some false
def Qbg (N:Nat) (a0:THandle):Option (Int×Int):=bnd (QfV N a0) fun y1=>bif (!y1) then some (0,1) else some ((wU ((wU ((wU a0.Tag)+(sShl .u64 (wU a0.Index) 2)))+(sShl .u64 (wU a0.Stamp) 18))),0)
def Qbu (N:Nat) (a0:Int):Option (THandle×Int):=bif (a0==0) then some ((THandle.mk 0 0 0),5) else bnd (Qbg N (THandle.mk (wI (bAnd .u64 a0 3)) (wI (bAnd .u64 (sShr .u64 a0 2) 65535)) (wI (sShr .u64 a0 18)))) fun y1=>bif (y1.2 != 0) then some ((THandle.mk 0 0 0),6) else bif (y1.1 != a0) then some ((THandle.mk 0 0 0),6) else some ((THandle.mk (wI (bAnd .u64 a0 3)) (wI (bAnd .u64 (sShr .u64 a0 2) 65535)) (wI (sShr .u64 a0 18))),0)
def Qdw (N:Nat) (a0:TLocals) (a1:Int) (a2:Int):Option (Int×Int):=bnd (QbC N a0) fun y1=>bif (!y1) then some (0,1) else bif (decide (a2<1)) then some (0,6) else bif (decide (a2>((a0.Issued.length:Nat):Int))) then some (0,6) else bnd (getI a0.Issued (wI (a2-1))) fun p2=>bif (p2 != a1) then some (0,6) else bif (decide (a1>=((a0.Slots.length:Nat):Int))) then some (0,7) else bnd (getI a0.Slots a1) fun p3=>bif (p3.Stamp != a2) then some (0,7) else bnd (getI a0.Slots a1) fun p4=>bif (!p4.Live) then some (0,8) else bnd (getI a0.Slots a1) fun p5=>some (p5.Ref,0)
def QcQ (N:Nat) (a0:TTable) (a1:Int) (a2:Int):Option (Int×Int):=bnd (Qbl N a0) fun y1=>bif (!y1) then some (0,1) else bif (decide (a1<0)) then some (0,6) else bif (decide (a1>=((a0.Entries.length:Nat):Int))) then some (0,6) else bif (decide (a2<1)) then some (0,6) else bnd (getI a0.Entries a1) fun p2=>bif (decide (a2>p2.Gen)) then some (0,6) else bnd (getI a0.Entries a1) fun p3=>bif (decide (a2<p3.Gen)) then some (0,8) else bnd (getI a0.Entries a1) fun p4=>bif (!p4.Live) then some (0,8) else bnd (getI a0.Entries a1) fun p5=>some (p5.Ref,0)
def Qaz (N:Nat) (a0:TWorld) (a1:Int):Option (Int×Int):=bnd (Qdu N a0) fun y1=>bif (!y1) then some (0,19) else bif (a1==0) then some (0,0) else bnd (Qbu N a1) fun y2=>bif (y2.2 != 0) then some (0,y2.2) else bif (y2.1.Tag==1) then (bnd (Qdw N a0.Locals y2.1.Index y2.1.Stamp) fun y3=>some (y3.1,y3.2)) else bif (y2.1.Tag==2) then (bnd (QcQ N a0.Globals y2.1.Index y2.1.Stamp) fun y4=>some (y4.1,y4.2)) else bnd (QcQ N a0.Weaks y2.1.Index y2.1.Stamp) fun y5=>some (y5.1,y5.2)
def Qdx (N:Nat) (a0:TWorld) (a1:Int):Option (Int×Int):=bnd (Qaz N a0 a1) fun y1=>bif (y1.2==0) then (bif (y1.1==0) then some (0,5) else some (y1.1,y1.2)) else some (y1.1,y1.2)
def QfC (N:Nat) (a0:TWorld) (a1:Int) (a2:Int) (a3:Int) (a4:Int):Option Int:=bnd (Qdx N a0 a2) fun y1=>bif (y1.2 != 0) then some y1.2 else bnd (getI a0.Things (wU (y1.1-1))) fun p2=>bif (decide (a3>=(wU p2.Header.Length))) then some 2 else jn (fun (x3:Bool)=>bnd (QbB N p2.Header (wI a3)) fun y4=>bif (!(y4==x3)) then some 4 else bif (a1==8) then (bnd (getI p2.Fields a3) fun p5=>bnd (Qcc N a0.Locals p5) fun y6=>some y6) else bif (a1==9) then (bnd (Qaz N a0 a4) fun y7=>some y7.2) else some y1.2) fun j1=>bif (a1==8) then j1 true else j1 (a1==9)
def Qe9 (N:Nat) (a0:TWorld) (a1:Int) (a2:Int):Option Int:=bif (a2==0) then some 5 else bnd (Qaz N a0 a2) fun y1=>bif (y1.2 != 0) then some y1.2 else bnd (Qbu N a2) fun y2=>jn (fun (x3:Int)=>bif (a1==16) then (bif (y2.1.Tag != 3) then some 4 else some 0) else bif (y2.1.Tag != x3) then some 4 else some 0) fun j1=>bif (a1==14) then j1 2 else j1 1
def Qbh (N:Nat) (a0:TTable) (a1:Int):Nat->Int->Option (Ex (TTable×Int×Int×Int) Unit)
 | 0,_=>none
 | n+1,v2 =>
  grd (a0.Entries.length<=140737488355328) <|
  bif (decide (v2<((a0.Entries.length:Nat):Int))) then (bnd (getI a0.Entries v2) fun p3 =>
   bif (!p3.Live) then (bnd (getI a0.Entries v2) fun p4 =>
    bif (decide (p4.Gen<4294967295)) then (bnd (getI a0.Entries v2) fun p5 =>
     bnd (getI a0.Entries v2) fun p6 =>
     bnd (getI (a0.Entries.set v2.toNat (TEntry.mk (wI (p5.Gen+1)) a1 true)) v2) fun p7 =>
     some (.ret ((TTable.mk (a0.Entries.set v2.toNat (TEntry.mk (wI (p5.Gen+1)) a1 true))),v2,p7.Gen,0)))
    else Qbh N a0 a1 n (wI (v2+1)))
   else Qbh N a0 a1 n (wI (v2+1)))
  else some (.nxt ())
def QbS (N:Nat) (a0:TTable) (a1:Int):Option (TTable×Int×Int×Int):=bnd (Qbl N a0) fun y1=>bif (!y1) then some ((TTable.mk []),0,0,1) else grd (a0.Entries.length*24<=140737488355328) <| bnd (Qbh N a0 a1 N 0) fun e=>exK e (fun r=>some r) fun y8=>grd (a0.Entries.length<=140737488355328) <| bif (((a0.Entries.length:Nat):Int)==64) then some ((TTable.mk []),0,0,18) else grd ((a0.Entries.length+1)*24<=140737488355328) <| grd (a0.Entries.length<=140737488355328) <| some ((TTable.mk (a0.Entries++[(TEntry.mk 1 a1 true)])),((a0.Entries.length:Nat):Int),1,0)
def QfW (N:Nat) (a0:TWorld) (a1:Int) (a2:Int):Option Int:=bnd (Qdx N a0 a2) fun y1=>bif (y1.2 != 0) then some y1.2 else jn (fun (x2:List TEntry)=>bnd (QbS N (TTable.mk x2) y1.1) fun y3=>some y3.2.2.2) fun j1=>bif (a1==15) then j1 a0.Weaks.Entries else j1 a0.Globals.Entries
def QfN (N:Nat) (a0:TLocals) (a1:Int) (a2:Bool):Option (TLocals×Int):=bnd (QbC N a0) fun y1=>bif (!y1) then some ((TLocals.mk [] [] []),1) else bif (decide (a1<0)) then some ((TLocals.mk [] [] []),1) else bif (decide (a1>64)) then some ((TLocals.mk [] [] []),1) else jn (fun (_:Unit)=>bif (((a0.Scopes.length:Nat):Int)==64) then some ((TLocals.mk [] [] []),17) else grd (a0.Scopes.length*24<=140737488355328) <| grd ((a0.Scopes.length+1)*24<=140737488355328) <| some ((TLocals.mk a0.Slots (a0.Scopes++[(TScope.mk ((a0.Slots.length:Nat):Int) a1 a2)]) a0.Issued),0)) fun j1=>bif (!a2) then (bif (((a0.Scopes.length:Nat):Int)==0) then some ((TLocals.mk [] [] []),9) else j1 ()) else j1 ()
def Qds (N:Nat) (a0:TLocals) (a1:Int):Option (TLocals×Int):=bnd (QfN N a0 a1 false) fun y1=>some (y1.1,y1.2)
def Qf7 (N:Nat) (a0:TLocals) (a1:Int):Option TLocals:=bnd (getI a0.Scopes a1) fun p1=>grd (0<=0∧0<=p1.From∧p1.From<=((a0.Slots.length:Nat):Int)) <| grd ((min p1.From.toNat a0.Slots.length)*24<=140737488355328) <| grd (0<=0∧0<=a1∧a1<=((a0.Scopes.length:Nat):Int)) <| grd ((min a1.toNat a0.Scopes.length)*24<=140737488355328) <| some (TLocals.mk (a0.Slots.take p1.From.toNat) (a0.Scopes.take a1.toNat) a0.Issued)
def Qeg (N:Nat) (a0:TLocals):Option (TLocals×Int):=bnd (QbC N a0) fun y1=>bif (!y1) then some ((TLocals.mk [] [] []),1) else bif (((a0.Scopes.length:Nat):Int)==0) then some ((TLocals.mk [] [] []),9) else bnd (getI a0.Scopes (wI (((a0.Scopes.length:Nat):Int)-1))) fun p2=>bif p2.Base then some ((TLocals.mk [] [] []),9) else bnd (Qf7 N a0 (wI (((a0.Scopes.length:Nat):Int)-1))) fun y3=>some (y3,0)
def QfD (N:Nat) (a0:TWorld) (a1:Int) (a2:Int):Option Int:=bif (a1==17) then (bif (decide (a2>64)) then some 1 else bnd (Qds N a0.Locals (wI a2)) fun y1=>some y1.2) else bnd (Qaz N a0 a2) fun y2=>bif (y2.2 != 0) then some y2.2 else bnd (Qeg N a0.Locals) fun y3=>bif (y3.2 != 0) then some y3.2 else bnd (Qcc N y3.1 y2.1) fun y4=>some y4
def Qgd (N:Nat) (a0:TWorld) (a1:Int) (a2:Int) (a3:Bool):Option Int:=bnd (Qdx N a0 a2) fun y1=>bif (y1.2 != 0) then some y1.2 else bnd (QeR N a0 y1.1) fun y2=>bif (a1==20) then (bif (decide (y2<0)) then some 12 else some 0) else bif (decide (y2>=0)) then (bnd (getI a0.Marks y2) fun p3=>bif (p3.Count==1000) then some 18 else bif (decide (y2<0)) then (bif (((a0.Marks.length:Nat):Int)==64) then some 18 else bif a3 then some 18 else some 0) else bif a3 then some 18 else some 0) else bif (decide (y2<0)) then (bif (((a0.Marks.length:Nat):Int)==64) then some 18 else bif a3 then some 18 else some 0) else bif a3 then some 18 else some 0
def QfX (N:Nat) (a0:TWorld) (a1:Int) (a2:Int) (a3:Int):Option Int:=jn (fun (_:Unit)=>bnd (Qdx N a0 a2) fun y1=>some y1.2) fun j1=>bif (a1==4) then j1 () else bif (a1==5) then j1 () else bnd (Qaz N a0 a2) fun y2=>bif (y2.2 != 0) then some y2.2 else bif (a1==10) then (bnd (Qaz N a0 a3) fun y3=>some y3.2) else bnd (Qcc N a0.Locals y2.1) fun y4=>some y4
def Qfa (N:Nat) (a0:TWorld) (a1:Int) (a2:Int) (a3:Int) (a4:Int) (a5:Bool):Option Int:=bnd (Qdu N a0) fun y1=>bif (!y1) then some 19 else jn (fun (x3:Bool)=>bif x3 then (bnd (Qe8 N a0 a1 a2 a3 a5) fun y4=>some y4) else jn (fun (x7:Bool)=>bif x7 then (bnd (QfC N a0 a1 a2 a3 a4) fun y8=>some y8) else jn (fun (x10:Bool)=>bif x10 then (bnd (Qe9 N a0 a1 a2) fun y11=>some y11) else jn (fun (x12:Bool)=>bif x12 then (bnd (QfW N a0 a1 a2) fun y13=>some y13) else jn (fun (x14:Bool)=>bif x14 then (bnd (QfD N a0 a1 a2) fun y15=>some y15) else jn (fun (x16:Bool)=>bif x16 then (bnd (Qgd N a0 a1 a2 a5) fun y17=>some y17) else jn (fun (x20:Bool)=>bif x20 then (bnd (QfX N a0 a1 a2 a3) fun y21=>some y21) else some 1) fun j13=>bif (a1==4) then j13 true else jn (fun (x19:Bool)=>j13 x19) fun j12=>bif (a1==5) then j12 true else jn (fun (x18:Bool)=>j12 x18) fun j11=>bif (a1==10) then j11 true else j11 (a1==11)) fun j10=>bif (a1==19) then j10 true else j10 (a1==20)) fun j9=>bif (a1==17) then j9 true else j9 (a1==18)) fun j8=>bif (a1==13) then j8 true else j8 (a1==15)) fun j7=>bif (a1==12) then j7 true else jn (fun (x9:Bool)=>j7 x9) fun j6=>bif (a1==14) then j6 true else j6 (a1==16)) fun j5=>bif (a1==6) then j5 true else jn (fun (x6:Bool)=>j5 x6) fun j4=>bif (a1==7) then j4 true else jn (fun (x5:Bool)=>j4 x5) fun j3=>bif (a1==8) then j3 true else j3 (a1==9)) fun j2=>bif (a1==1) then j2 true else jn (fun (x2:Bool)=>j2 x2) fun j1=>bif (a1==2) then j1 true else j1 (a1==3)
def QbU (N:Nat) (a0:TWorld) (a1:Int):Option (TWorld×Int):=bif (a1==0) then some (a0,0) else bnd (Qdv N a0.Locals a1) fun y1=>bnd (Qbg N (THandle.mk 1 y1.2.1 y1.2.2.1)) fun y2=>some ((TWorld.mk a0.Conf a0.Things y1.1 a0.Globals a0.Weaks a0.Marks a0.Roots),y2.1)
def QeN (N:Nat) (a0:TWorld) (a1:Int) (a2:Int) (a3:Int):Option TWorld:=grd (a0.Things.length*48<=140737488355328) <| bnd (getI a0.Things (wU (a1-1))) fun p1=>grd (p1.Fields.length*8<=140737488355328) <| bnd (getI p1.Fields a2) fun p2=>bnd (getI a0.Things (wU (a1-1))) fun p3=>some (TWorld.mk a0.Conf (a0.Things.set (wU (a1-1)).toNat (TThing.mk p1.Header (p1.Fields.set a2.toNat a3))) a0.Locals a0.Globals a0.Weaks a0.Marks a0.Roots)
def Qdf (N:Nat) (a0:TWorld) (a1:Int) (a2:Int):Option (TWorld×Int):=jn (fun (x3:List TEntry) (x4:List TEntry) (x5:Int) (x6:Int) (x7:Int)=>bnd (Qbg N (THandle.mk x5 x6 x7)) fun y8=>some ((TWorld.mk a0.Conf a0.Things a0.Locals (TTable.mk x3) (TTable.mk x4) a0.Marks a0.Roots),y8.1)) fun j1=>bif (a1==15) then (bnd (QbS N a0.Weaks a2) fun y1=>j1 a0.Globals.Entries y1.1.Entries 3 y1.2.1 y1.2.2.1) else bnd (QbS N a0.Globals a2) fun y2=>j1 y2.1.Entries a0.Weaks.Entries 2 y2.2.1 y2.2.2.1
def QcR (N:Nat) (a0:TLocals) (a1:Int) (a2:Int):Option (TLocals×Int):=bnd (Qdw N a0 a1 a2) fun y1=>bif (y1.2 != 0) then some ((TLocals.mk [] [] []),y1.2) else grd (a0.Slots.length*24<=140737488355328) <| bnd (getI a0.Slots a1) fun p2=>some ((TLocals.mk (a0.Slots.set a1.toNat (TSlot.mk a2 0 false)) a0.Scopes a0.Issued),0)
def Qf8 (N:Nat) (a0:TTable) (a1:Int) (a2:TEntry):Option TTable:=grd (a0.Entries.length*24<=140737488355328) <| bnd (getI a0.Entries a1) fun p1=>some (TTable.mk (a0.Entries.set a1.toNat a2))
def QbV (N:Nat) (a0:TTable) (a1:Int) (a2:Int):Option (TTable×Int):=bnd (QcQ N a0 a1 a2) fun y1=>bif (y1.2 != 0) then some ((TTable.mk []),y1.2) else bnd (Qf8 N a0 a1 (TEntry.mk a2 0 false)) fun y2=>some (y2,0)
def Qd1 (N:Nat) (a0:TWorld) (a1:Int):Option TWorld:=bnd (Qbu N a1) fun y1=>bif (y1.1.Tag==1) then (bnd (QcR N a0.Locals y1.1.Index y1.1.Stamp) fun y2=>some (TWorld.mk a0.Conf a0.Things y2.1 a0.Globals a0.Weaks a0.Marks a0.Roots)) else bif (y1.1.Tag==2) then (bnd (QbV N a0.Globals y1.1.Index y1.1.Stamp) fun y3=>some (TWorld.mk a0.Conf a0.Things a0.Locals y3.1 a0.Weaks a0.Marks a0.Roots)) else bnd (QbV N a0.Weaks y1.1.Index y1.1.Stamp) fun y4=>some (TWorld.mk a0.Conf a0.Things a0.Locals a0.Globals y4.1 a0.Marks a0.Roots)
def Qge (N:Nat) (a0:TWorld) (a1:Int):Option Int:=bnd (QeR N a0 a1) fun y1=>some y1
def QeS (N:Nat) (a0:TWorld) (a1:Int) (a2:Int) (a3:Int):Option (TWorld×Int):=bnd (Qge N a0 a2) fun y1=>grd (a0.Marks.length*24<=140737488355328) <| bif (a1==20) then (bnd (getI a0.Marks y1) fun p2=>bnd (getI a0.Marks y1) fun p3=>bnd (getI (a0.Marks.set y1.toNat (TMark.mk p3.Id (wI (p2.Count-1)) p3.Base)) y1) fun p4=>bif (p4.Count==0) then (grd (0<=0∧0<=y1∧y1<=((a0.Marks.length:Nat):Int)) <| grd (0<=(wI (y1+1))∧(wI (y1+1))<=((a0.Marks.length:Nat):Int)∧((a0.Marks.length:Nat):Int)<=((a0.Marks.length:Nat):Int)) <| grd (y1.toNat≠a0.Marks.length∧(y1.toNat+(a0.Marks.length-(wI (y1+1)).toNat))<=a0.Marks.length) <| some ((TWorld.mk a0.Conf a0.Things a0.Locals a0.Globals a0.Weaks (((((a0.Marks.set y1.toNat (TMark.mk p3.Id (wI (p2.Count-1)) p3.Base)).take y1.toNat)++(((a0.Marks.set y1.toNat (TMark.mk p3.Id (wI (p2.Count-1)) p3.Base)).drop (wI (y1+1)).toNat).take (a0.Marks.length-(wI (y1+1)).toNat)))++((a0.Marks.set y1.toNat (TMark.mk p3.Id (wI (p2.Count-1)) p3.Base)).drop (y1.toNat+(a0.Marks.length-(wI (y1+1)).toNat)))).take (y1.toNat+(a0.Marks.length-(wI (y1+1)).toNat))) a0.Roots),0)) else some ((TWorld.mk a0.Conf a0.Things a0.Locals a0.Globals a0.Weaks (a0.Marks.set y1.toNat (TMark.mk p3.Id (wI (p2.Count-1)) p3.Base)) a0.Roots),0)) else bif (decide (y1>=0)) then (bnd (getI a0.Marks y1) fun p7=>bnd (getI a0.Marks y1) fun p8=>bnd (getI (a0.Marks.set y1.toNat (TMark.mk p8.Id (wI (p7.Count+1)) p8.Base)) y1) fun p9=>some ((TWorld.mk a0.Conf a0.Things a0.Locals a0.Globals a0.Weaks (a0.Marks.set y1.toNat (TMark.mk p8.Id (wI (p7.Count+1)) p8.Base)) a0.Roots),p9.Base)) else grd ((a0.Marks.length+1)*24<=140737488355328) <| some ((TWorld.mk a0.Conf a0.Things a0.Locals a0.Globals a0.Weaks (a0.Marks++[(TMark.mk a2 1 a3)]) a0.Roots),a3)
def QeT (N:Nat) (a0:TWorld) (a1:Int) (a2:Int) (a3:Int) (a4:Int) (a5:TFact):Option (TWorld×Int×Int):=bnd (Qfa N a0 a1 a2 a3 a4 a5.Failed) fun y1=>bif (y1 != 0) then some ((TWorld.mk (TConf.mk 0 0) [] (TLocals.mk [] [] []) (TTable.mk []) (TTable.mk []) [] []),0,y1) else jn (fun (x3:Int)=>jn (fun (x5:Bool)=>bif x5 then (jn (fun (x7:Int) (x8:Int) (x9:List TThing) (x10:List TSlot) (x11:List TScope) (x12:List Int) (x13:List TEntry) (x14:List TEntry) (x15:List TMark) (x16:List Int)=>bnd (QbD N a1 a2 a3) fun y17=>grd (x9.length*48<=140737488355328) <| grd (0<=y17.1.Length∧y17.1.Length.toNat*8<=140737488355328) <| grd ((x9.length+1)*48<=140737488355328) <| grd ((x9.length+1)<=140737488355328) <| bnd (QbU N (TWorld.mk (TConf.mk x7 x8) (x9++[(TThing.mk y17.1 (List.replicate y17.1.Length.toNat 0))]) (TLocals.mk x10 x11 x12) (TTable.mk x13) (TTable.mk x14) x15 x16) (wU (((x9.length+1):Nat):Int))) fun y18=>some (y18.1,y18.2,0)) fun j4=>bif a5.Collected then (bnd (Qcs N a0) fun y6=>j4 y6.1.Conf.PageWords y6.1.Conf.Pages y6.1.Things y6.1.Locals.Slots y6.1.Locals.Scopes y6.1.Locals.Issued y6.1.Globals.Entries y6.1.Weaks.Entries y6.1.Marks y6.1.Roots) else j4 a0.Conf.PageWords a0.Conf.Pages a0.Things a0.Locals.Slots a0.Locals.Scopes a0.Locals.Issued a0.Globals.Entries a0.Weaks.Entries a0.Marks a0.Roots) else bif (a1==4) then (bnd (getI a0.Things (wU (x3-1))) fun p19=>some (a0,(wU p19.Header.Length),0)) else bif (a1==5) then (bnd (getI a0.Things (wU (x3-1))) fun p20=>some (a0,(wU p20.Header.Kind),0)) else bif (a1==6) then (bnd (getI a0.Things (wU (x3-1))) fun p21=>bnd (getI p21.Fields a3) fun p22=>some (a0,p22,0)) else bif (a1==7) then (bnd (QeN N a0 x3 (wI a3) a4) fun y23=>some (y23,0,0)) else bif (a1==8) then (bnd (getI a0.Things (wU (x3-1))) fun p24=>bnd (getI p24.Fields a3) fun p25=>bnd (QbU N a0 p25) fun y26=>some (y26.1,y26.2,0)) else bif (a1==9) then (bnd (Qaz N a0 a4) fun y27=>bnd (QeN N a0 x3 (wI a3) y27.1) fun y28=>some (y28,0,0)) else bif (a1==10) then (bnd (Qaz N a0 a3) fun y29=>bif (x3==y29.1) then some (a0,1,0) else some (a0,0,0)) else bif (a1==11) then (bnd (QbU N a0 x3) fun y30=>some (y30.1,y30.2,0)) else jn (fun (x31:Bool)=>bif x31 then (bnd (Qdf N a0 a1 x3) fun y32=>some (y32.1,y32.2,0)) else jn (fun (x34:Bool)=>bif x34 then (bnd (Qd1 N a0 a2) fun y35=>some (y35,0,0)) else bif (a1==17) then (bnd (Qds N a0.Locals (wI a2)) fun y36=>some ((TWorld.mk a0.Conf a0.Things y36.1 a0.Globals a0.Weaks a0.Marks a0.Roots),0,0)) else bif (a1==18) then (bnd (Qeg N a0.Locals) fun y37=>bnd (QbU N (TWorld.mk a0.Conf a0.Things y37.1 a0.Globals a0.Weaks a0.Marks a0.Roots) x3) fun y38=>some (y38.1,y38.2,0)) else bnd (QeS N a0 a1 x3 a5.Base) fun y39=>some (y39.1,y39.2,0)) fun j7=>bif (a1==12) then j7 true else jn (fun (x33:Bool)=>j7 x33) fun j6=>bif (a1==14) then j6 true else j6 (a1==16)) fun j5=>bif (a1==13) then j5 true else j5 (a1==15)) fun j3=>bif (a1==1) then j3 true else jn (fun (x4:Bool)=>j3 x4) fun j2=>bif (a1==2) then j2 true else j2 (a1==3)) fun j1=>bif (decide (a1>3)) then (bif (a1 != 17) then (bnd (Qaz N a0 a2) fun y2=>j1 y2.1) else j1 0) else j1 0
def Qdg (N:Nat) (a0:TEnv) (a1:TEnv) (a2:Int) (a3:Int) (a4:Int):Option TFact:=jn (fun (x1:Bool)=>jn (fun (x2:Bool)=>bif (a2==19) then (bif (a4==0) then some (TFact.mk x1 x2 a3) else some (TFact.mk x1 x2 0)) else some (TFact.mk x1 x2 0)) fun j2=>bif (a4==0) then j2 (a0.Heap.Space != a1.Heap.Space) else j2 false) fun j1=>bif (a4==3) then j1 true else bif (a4==18) then j1 (a2==19) else j1 false
def QeA (N:Nat) (a0:List Int) (a1:Int):Nat->Int->Option (Ex Bool Unit)
 | 0,_=>none
 | n+1,v1 =>
  bif (decide (v1<((a0.length:Nat):Int))) then (bnd (getI a0 v1) fun p2 =>
   bif (p2==a1) then some (.ret true)
   else QeA N a0 a1 n (wI (v1+1)))
  else some (.nxt ())
def Qb7 (N:Nat) (a0:List Int) (a1:Int):Option Bool:=bnd (QeA N a0 a1 N 0) fun e=>exK e (fun r=>some r) fun y3=>some false
def Qgf (N:Nat) (a0:Int):Option Bool:=bif (decide (a0>=0)) then some (decide (a0<=2147483647)) else some false
def QdG (N:Nat) (a0:List TPage) (a2:Int):Nat->Int->Int->Option Int
 | 0,_,_=>none
 | n+1,v1,v2 =>
  bif (decide (v2<((a0.length:Nat):Int))) then (bnd (getI a0 v2) fun p3 =>
   bif (p3.Kind==3) then (bnd (getI a0 v2) fun p4 =>
    bif (p4.Space==a2) then QdG N a0 a2 n (wI (v1+1)) (wI (v2+1))
    else some v1)
   else some v1)
  else some v1
def QfY (N:Nat) (a0:List TPage) (a1:Int) (a2:Int):Option Int:=bnd (QdG N a0 a2 N 0 (wI (a1+1))) fun y5=>some y5
def QbT (N:Nat) (a0:THeap):Nat->Int->Int->Option (Ex Bool Unit)
 | 0,_,_=>none
 | n+1,v3,v4 =>
  bif (decide (v4<((a0.Pages.length:Nat):Int))) then (bnd (getI a0.Pages v4) fun p5 =>
   bif (!((p5.Kind==3)==(decide (v3>0)))) then some (.ret false)
   else bif (decide (p5.Space<0)) then some (.ret false)
   else bif (decide (p5.Space>1)) then some (.ret false)
   else bnd (Qgf N p5.Pins) fun y6 =>
   bif (!y6) then some (.ret false)
   else jn (fun (x11:Int) =>
    QbT N a0 n (if 0<(wI (x11-1)) then (wI (x11-1)) else 0) (wI (v4+1))) fun j4 =>
   bif (p5.Kind==0) then (bif (!((p5.Kind==0)&&((p5.Space==0)&&((p5.Used==0)&&(p5.Pins==0))))) then some (.ret false)
    else j4 v3)
   else jn (fun (x10:Int) =>
    j4 x10) fun j3 =>
   bif (p5.Kind==1) then (bif (decide (p5.Used<0)) then some (.ret false)
    else bif (decide (p5.Used>a0.Conf.PageWords)) then some (.ret false)
    else j3 v3)
   else jn (fun (x9:Int) =>
    j3 x9) fun j2 =>
   bif (p5.Kind==2) then (bnd (Qef N a0.Conf p5.Used) fun y7 =>
    bif (decide (y7<1)) then some (.ret false)
    else bnd (QfY N a0.Pages v4 p5.Space) fun y8 =>
    bif (decide (y8<(wI (y7-1)))) then some (.ret false)
    else j2 y7)
   else bif (p5.Kind==3) then (bif (p5.Used != 0) then some (.ret false)
    else bif (p5.Pins != 0) then some (.ret false)
    else j2 v3)
   else some (.ret false))
  else some (.nxt ())
def QaJ (N:Nat) (a0:THeap):Option Bool:=bnd (Qat N a0.Conf) fun y1=>bif (!y1) then some false else bif (((a0.Words.length:Nat):Int) != (wI (a0.Conf.Pages*a0.Conf.PageWords))) then some false else bif (((a0.Pages.length:Nat):Int) != a0.Conf.Pages) then some false else bif (decide (a0.Space<0)) then some false else bif (decide (a0.Space>1)) then some false else jn (fun (_:Unit)=>bnd (QbT N a0 N 0 0) fun e=>exK e (fun r=>some r) fun y12=>some true) fun j1=>bif (a0.Bump != (-1)) then (bif (decide (a0.Bump<0)) then some false else bif (decide (a0.Bump>=((a0.Pages.length:Nat):Int))) then some false else bnd (getI a0.Pages a0.Bump) fun p2=>bif (p2.Kind != 1) then some false else j1 ()) else j1 ()
def QeU (N:Nat) (a0:List Int) (a1:Int) (a2:Int):Option (Int×Bool):=bif (decide (a1<4096)) then some (0,false) else bif (decide (a1>(wU (4096+(wU ((a0.length:Nat):Int)))))) then some (0,false) else some ((wI (wU (a1-4096))),(decide (a2<=(wI (((a0.length:Nat):Int)-(wI (wU (a1-4096))))))))
def Qgt (N:Nat) (a0:List Int) (a1:Int):Option (Int×Int):=bnd (QeU N a0 a1 1) fun y1=>bif (!y1.2) then some (0,2) else some (y1.1,0)
def QbJ (N:Nat) (a0:List Int) (a1:Int):Option (Int×Int):=bnd (Qgt N a0 a1) fun y1=>bif (y1.2 != 0) then some (0,y1.2) else bnd (getI a0 y1.1) fun p2=>some (p2,0)
def Qen (N:Nat) (a0:TConf) (a1:Int):Option (Int×Int×Int):=bnd (Qat N a0) fun y1=>bif (!y1) then some (0,0,1) else bif (decide (a1<4096)) then some (0,0,2) else bif (decide (a1>=(wU (wI (4096+(wI (a0.Pages*a0.PageWords))))))) then some (0,0,2) else grd (a0.PageWords≠0) <| grd (a0.PageWords≠0) <| some ((wI ((wI (wU (a1-4096))).tdiv a0.PageWords)),((wI (wU (a1-4096))).tmod a0.PageWords),0)
def Qck (N:Nat) (a0:THeader):Option (Int×Int):=bnd (Qcb N a0) fun y1=>bif (!y1) then some (0,1) else some ((wU ((wU ((wU (1+(wU (4*(wU a0.Kind)))))+(wU (16*(wU a0.Length)))))+(sShl .u64 (wU a0.Map) 16))),0)
def Qbv (N:Nat) (a0:Int):Option (THeader×Bool):=bnd (Qck N (THeader.mk (wI (bAnd .u64 (sShr .u64 a0 2) 3)) (wI (bAnd .u64 (sShr .u64 a0 4) 4095)) (wW (sShr .u64 a0 16)))) fun y1=>bif (y1.2 != 0) then some ((THeader.mk 0 0 0),false) else bif (y1.1 != a0) then some ((THeader.mk 0 0 0),false) else some ((THeader.mk (wI (bAnd .u64 (sShr .u64 a0 2) 3)) (wI (bAnd .u64 (sShr .u64 a0 4) 4095)) (wW (sShr .u64 a0 16))),true)
def QbO (N:Nat) (a0:THeap) (a1:Int):Option (THeader×Int):=bnd (QaJ N a0) fun y1=>bif (!y1) then some ((THeader.mk 0 0 0),1) else bnd (Qen N a0.Conf a1) fun y2=>bif (y2.2.2 != 0) then some ((THeader.mk 0 0 0),2) else bnd (getI a0.Pages y2.1) fun p3=>bnd (QbJ N a0.Words a1) fun y4=>bnd (Qbv N y4.1) fun y5=>jn (fun (_:Unit)=>bnd (QbZ N y5.1) fun y6=>bif (p3.Kind==1) then (bif (decide ((wI (y2.2.1+y6))>p3.Used)) then some ((THeader.mk 0 0 0),19) else bif (p3.Kind==2) then (bif (y2.2.1 != 0) then some ((THeader.mk 0 0 0),19) else bif (y6 != p3.Used) then some ((THeader.mk 0 0 0),19) else some (y5.1,0)) else some (y5.1,0)) else bif (p3.Kind==2) then (bif (y2.2.1 != 0) then some ((THeader.mk 0 0 0),19) else bif (y6 != p3.Used) then some ((THeader.mk 0 0 0),19) else some (y5.1,0)) else some (y5.1,0)) fun j1=>bif (p3.Kind != 1) then (bif (p3.Kind != 2) then some ((THeader.mk 0 0 0),19) else bif (decide (y2.2.1>=p3.Used)) then some ((THeader.mk 0 0 0),19) else bif (!y5.2) then some ((THeader.mk 0 0 0),19) else j1 ()) else bif (decide (y2.2.1>=p3.Used)) then some ((THeader.mk 0 0 0),19) else bif (!y5.2) then some ((THeader.mk 0 0 0),19) else j1 ()
def Qct (N:Nat) (a0:TConf) (a1:Int) (a2:Int):Option (Int×Int):=bnd (Qat N a0) fun y1=>bif (!y1) then some (0,1) else bif (decide (a1<0)) then some (0,2) else bif (decide (a1>=a0.Pages)) then some (0,2) else bif (decide (a2<0)) then some (0,2) else bif (decide (a2>=a0.PageWords)) then some (0,2) else some ((wU (wI ((wI (4096+(wI (a1*a0.PageWords))))+a2))),0)
def QbE (N:Nat) (a0:THeap) (a1:Int) (p2:TPage):Nat->Int->(List Int)->Option (Ex (List Int×Int) (List Int))
 | 0,_,_=>none
 | n+1,v3,v4 =>
  bif (decide (v3<p2.Used)) then (bnd (Qct N a0.Conf a1 v3) fun y5 =>
   bnd (QbO N a0 y5.1) fun y6 =>
   bif (y6.2 != 0) then some (.ret ([],19))
   else grd ((v4.length+1)*8<=140737488355328) <|
   bif (p2.Kind==2) then some (.nxt (v4++[y5.1]))
   else bnd (QbZ N y6.1) fun y7 =>
   QbE N a0 a1 p2 n (wI (v3+y7)) (v4++[y5.1]))
  else some (.nxt v4)
def QaS (N:Nat) (a0:THeap) (a1:Int):Option (List Int×Int):=bnd (QaJ N a0) fun y1=>bif (!y1) then some ([],1) else bif (decide (a1<0)) then some ([],2) else bif (decide (a1>=((a0.Pages.length:Nat):Int))) then some ([],2) else bnd (getI a0.Pages a1) fun p2=>bif (p2.Kind==0) then some ([],0) else bif (p2.Kind==3) then some ([],0) else bnd (QbE N a0 a1 p2 N 0 []) fun e=>exK e (fun r=>some r) fun y8=>some (y8,0)
def Qbm (N:Nat) (a0:THeap) (a1:Int) (a2:List Int):Nat->Int->Option (Ex Int Unit)
 | 0,_=>none
 | n+1,v1 =>
  bif (decide (v1<((a2.length:Nat):Int))) then (bnd (getI a2 v1) fun p2 =>
   bnd (QbO N a0 p2) fun y3 =>
   bnd (QbZ N y3.1) fun y4 =>
   bnd (QcE N a0.Conf) fun y5 =>
   bnd (getI a0.Pages a1) fun p6 =>
   bif (p6.Kind==1) then (bif (!(decide (y4<=y5))) then (bnd (getI a2 v1) fun p9 =>
       some (.ret p9))
    else bnd (getI a0.Pages a1) fun p7 =>
    bif (p7.Kind==2) then (bif (y3.1.Kind==0) then (bnd (getI a2 v1) fun p10 =>
        some (.ret p10))
     else Qbm N a0 a1 a2 n (wI (v1+1)))
    else Qbm N a0 a1 a2 n (wI (v1+1)))
   else bnd (getI a0.Pages a1) fun p8 =>
   bif (p8.Kind==2) then (bif (y3.1.Kind==0) then (bnd (getI a2 v1) fun p11 =>
       some (.ret p11))
    else Qbm N a0 a1 a2 n (wI (v1+1)))
   else Qbm N a0 a1 a2 n (wI (v1+1)))
  else some (.nxt ())
def Qfl (N:Nat) (a0:THeap) (a1:Int) (a2:List Int):Option Int:=bnd (Qbm N a0 a1 a2 N 0) fun e=>exK e (fun r=>some r) fun y12=>some 0
def Qeb (N:Nat) (a0:THeap):Nat->Int->Option Int
 | 0,_=>none
 | n+1,v1 =>
  bnd (getI a0.Pages v1) fun p2 =>
  bif (p2.Kind==3) then Qeb N a0 n (wI (v1-1))
  else some v1
def QgE (N:Nat) (a0:THeap) (a1:Int):Option Int:=bnd (Qeb N a0 N a1) fun y3=>some y3
def Qb0 (N:Nat) (a0:THeap) (a1:Int) (a2:List Int) (v1:Int) (x6:Int):Nat->Int->(List Bool)->Option (List Bool)
 | 0,_,_=>none
 | n+1,v7,v8 =>
  bif (decide (v7<x6)) then (bnd (getI a2 v1) fun p9 =>
   bif (decide ((wI ((wI ((wI ((wI p9)-4096))+v7))-(wI (a1*a0.Conf.PageWords))))>=0)) then (grd (v8.length<=140737488355328) <|
    bif (decide ((wI ((wI ((wI ((wI p9)-4096))+v7))-(wI (a1*a0.Conf.PageWords))))<((v8.length:Nat):Int))) then (bnd (getI v8 (wI ((wI ((wI ((wI p9)-4096))+v7))-(wI (a1*a0.Conf.PageWords))))) fun p10 =>
     Qb0 N a0 a1 a2 v1 x6 n (wI (v7+1)) (v8.set (wI ((wI ((wI ((wI p9)-4096))+v7))-(wI (a1*a0.Conf.PageWords)))).toNat true))
    else Qb0 N a0 a1 a2 v1 x6 n (wI (v7+1)) v8)
   else Qb0 N a0 a1 a2 v1 x6 n (wI (v7+1)) v8)
  else some v8
def Qdh (N:Nat) (a0:THeap) (a1:Int) (a2:List Int):Nat->Int->(List Bool)->Option (List Bool)
 | 0,_,_=>none
 | n+1,v1,v2 =>
  bif (decide (v1<((a2.length:Nat):Int))) then (bnd (getI a2 v1) fun p3 =>
   bnd (QbO N a0 p3) fun y4 =>
   bnd (QbZ N y4.1) fun y5 =>
   jn (fun (x6:Int) =>
    bnd (Qb0 N a0 a1 a2 v1 x6 N 0 v2) fun y11 =>
    Qdh N a0 a1 a2 n (wI (v1+1)) y11) fun j1 =>
   bif (y4.1.Kind==0) then j1 1
   else j1 y5)
  else some v2
def QgF (N:Nat) (a0:THeap) (a1:Int) (a2:List Int):Option (List Bool):=grd (0<=a0.Conf.PageWords∧a0.Conf.PageWords.toNat<=140737488355328) <| bnd (Qdh N a0 a1 a2 N 0 (List.replicate a0.Conf.PageWords.toNat false)) fun y12=>some y12
def QgG (N:Nat) (a0:THeap) (a1:Int) (a2:Int):Option Int:=bnd (Qct N a0.Conf a1 a2) fun y1=>bnd (QbJ N a0.Words y1.1) fun y2=>some y2.1
def Qgg (N:Nat) (a0:THeap) (a1:Int) (a2:Int):Option Int:=bnd (QgG N a0 a1 a2) fun y1=>some y1
def Qf2 (N:Nat) (a0:THeap) (a1:Int) (a2:Int):Option Int:=some (wU (wI ((wI (4096+(wI (a1*a0.Conf.PageWords))))+a2)))
def Qdi (N:Nat) (a0:THeap) (a1:Int) (y3:List Bool):Nat->Int->Option (Ex Int Unit)
 | 0,_=>none
 | n+1,v4 =>
  bif (decide (v4<((y3.length:Nat):Int))) then (bnd (getI y3 v4) fun p5 =>
   bif (!p5) then (bnd (Qgg N a0 a1 v4) fun y6 =>
    bif (y6 != 0) then (bnd (Qf2 N a0 a1 v4) fun y7 =>
     some (.ret y7))
    else Qdi N a0 a1 y3 n (wI (v4+1)))
   else Qdi N a0 a1 y3 n (wI (v4+1)))
  else some (.nxt ())
def QfO (N:Nat) (a0:THeap) (a1:Int):Option Int:=bnd (QgE N a0 a1) fun y1=>bnd (QaS N a0 y1) fun y2=>bnd (QgF N a0 a1 y2.1) fun y3=>bnd (Qdi N a0 a1 y3 N 0) fun e=>exK e (fun r=>some r) fun y8=>some 0
def Qgh (N:Nat) (a0:THeap) (a1:Int):Option TFinding:=jn (fun (_:Unit)=>bnd (QaS N a0 a1) fun y3=>bif (y3.2 != 0) then some (TFinding.mk 3 a1 0) else bnd (Qfl N a0 a1 y3.1) fun y4=>bif (y4 != 0) then some (TFinding.mk 5 a1 y4) else bnd (QfO N a0 a1) fun y5=>bif (y5 != 0) then some (TFinding.mk 4 a1 y5) else some (TFinding.mk 0 0 0)) fun j1=>bnd (getI a0.Pages a1) fun p1=>bif (p1.Kind != 0) then (bnd (getI a0.Pages a1) fun p2=>bif (p2.Space != a0.Space) then some (TFinding.mk 2 a1 0) else j1 ()) else j1 ()
def QcS (N:Nat) (a0:THeap) (a1:Int):Option (THeader×Int):=bnd (QaJ N a0) fun y1=>bif (!y1) then some ((THeader.mk 0 0 0),1) else bif (a1==0) then some ((THeader.mk 0 0 0),5) else bnd (QbO N a0 a1) fun y2=>bif (y2.2==0) then (bif (y2.1.Kind==0) then some ((THeader.mk 0 0 0),4) else some (y2.1,y2.2)) else some (y2.1,y2.2)
def Qa7 (N:Nat) (a0:THeap):Nat->Int->(List Int)->Option (Ex (List Int×Int) (List Int))
 | 0,_,_=>none
 | n+1,v2,v3 =>
  bif (decide (v2<((a0.Pages.length:Nat):Int))) then (bnd (QaS N a0 v2) fun y4 =>
   bif (y4.2 != 0) then some (.ret ([],y4.2))
   else grd ((v3.length+y4.1.length)*8<=140737488355328) <|
   Qa7 N a0 n (wI (v2+1)) (v3++y4.1))
  else some (.nxt v3)
def Qd2 (N:Nat) (a0:THeap):Option (List Int×Int):=bnd (QaJ N a0) fun y1=>bif (!y1) then some ([],1) else bnd (Qa7 N a0 N 0 []) fun e=>exK e (fun r=>some r) fun y5=>some (y5,0)
def QaO (N:Nat) (a0:THeap) (y1:List Int×Int):Nat->Int->(List Int)->Option (List Int)
 | 0,_,_=>none
 | n+1,v2,v3 =>
  bif (decide (v2<((y1.1.length:Nat):Int))) then (bnd (getI y1.1 v2) fun p4 =>
   bnd (QbO N a0 p4) fun y5 =>
   bif (y5.1.Kind != 0) then (bnd (getI y1.1 v2) fun p6 =>
    grd ((v3.length+1)*8<=140737488355328) <|
    QaO N a0 y1 n (wI (v2+1)) (v3++[p6]))
   else QaO N a0 y1 n (wI (v2+1)) v3)
  else some v3
def Qbi (N:Nat) (a0:THeap):Option (List Int×Int):=bnd (Qd2 N a0) fun y1=>bnd (QaO N a0 y1 N 0 []) fun y7=>some (y7,y1.2)
def Qeh (N:Nat) (a0:List Int) (a1:Int) (a2:Int):Option (List Int×Int):=bif (decide (a2<0)) then some ([],1) else bnd (QeU N a0 a1 a2) fun y1=>bif (!y1.2) then some ([],2) else grd (0<=y1.1∧y1.1<=(wI (y1.1+a2))∧(wI (y1.1+a2))<=((a0.length:Nat):Int)) <| grd ((min ((wI (y1.1+a2)).toNat-y1.1.toNat) (a0.length-y1.1.toNat))*8<=140737488355328) <| some (((a0.drop y1.1.toNat).take ((wI (y1.1+a2)).toNat-y1.1.toNat)),0)
def QfE (N:Nat) (a0:THeap) (a1:Int):Option (List Int×Int):=bnd (QcS N a0 a1) fun y1=>bif (y1.2 != 0) then some ([],y1.2) else bnd (Qeh N a0.Words (wU (a1+1)) y1.1.Length) fun y2=>some (y2.1,y2.2)
def Qbp (N:Nat) (a0:THeap) (y1:List Int×Int) (y6:List Int×Int) (v2:Int) (y4:THeader×Int):Nat->Int->Option (Ex TFinding Unit)
 | 0,_=>none
 | n+1,v7 =>
  bif (decide (v7<((y6.1.length:Nat):Int))) then (bnd (QbB N y4.1 v7) fun y8 =>
   bif y8 then (bnd (getI y6.1 v7) fun p9 =>
    bif (p9 != 0) then (bnd (getI y6.1 v7) fun p10 =>
     bnd (Qb7 N y1.1 p10) fun y11 =>
     bif (!y11) then (bnd (getI y1.1 v2) fun p12 =>
      bnd (Qen N a0.Conf (wU ((wU (p12+1))+(wU v7)))) fun y13 =>
      some (.ret (TFinding.mk 6 y13.1 (wU ((wU (p12+1))+(wU v7))))))
     else Qbp N a0 y1 y6 v2 y4 n (wI (v7+1)))
    else Qbp N a0 y1 y6 v2 y4 n (wI (v7+1)))
   else Qbp N a0 y1 y6 v2 y4 n (wI (v7+1)))
  else some (.nxt ())
def Qco (N:Nat) (a0:THeap) (y1:List Int×Int):Nat->Int->Option (Ex TFinding Unit)
 | 0,_=>none
 | n+1,v2 =>
  bif (decide (v2<((y1.1.length:Nat):Int))) then (bnd (getI y1.1 v2) fun p3 =>
   bnd (QcS N a0 p3) fun y4 =>
   bnd (getI y1.1 v2) fun p5 =>
   bnd (QfE N a0 p5) fun y6 =>
   bnd (Qbp N a0 y1 y6 v2 y4 N 0) fun e=>exK e (fun r=>some (.ret r)) fun y14 =>
   Qco N a0 y1 n (wI (v2+1)))
  else some (.nxt ())
def QeB (N:Nat) (a0:THeap):Option TFinding:=bnd (Qbi N a0) fun y1=>bnd (Qco N a0 y1 N 0) fun e=>exK e (fun r=>some r) fun y15=>some (TFinding.mk 0 0 0)
def QdH (N:Nat) (a0:THeap):Nat->Int->Option (Ex TFinding Unit)
 | 0,_=>none
 | n+1,v2 =>
  bif (decide (v2<((a0.Pages.length:Nat):Int))) then (bnd (Qgh N a0 v2) fun y3 =>
   bif (y3.Fault != 0) then some (.ret y3)
   else QdH N a0 n (wI (v2+1)))
  else some (.nxt ())
def Qb8 (N:Nat) (a0:THeap):Nat->Int->Int->Option Int
 | 0,_,_=>none
 | n+1,v6,v7 =>
  bif (decide (v7<((a0.Pages.length:Nat):Int))) then (bnd (getI a0.Pages v7) fun p8 =>
   bif (p8.Kind==1) then (bnd (getI a0.Pages v7) fun p9 =>
    bif (decide (p9.Pins>0)) then Qb8 N a0 n (wI (v6+1)) (wI (v7+1))
    else Qb8 N a0 n v6 (wI (v7+1)))
   else Qb8 N a0 n v6 (wI (v7+1)))
  else some v6
def Qgu (N:Nat) (a0:THeap):Option TFinding:=bnd (QaJ N a0) fun y1=>bif (!y1) then some (TFinding.mk 1 0 0) else bnd (QdH N a0 N 0) fun e=>exK e (fun r=>some r) fun y4=>bnd (QeB N a0) fun y5=>bif (y5.Fault != 0) then some y5 else bnd (Qb8 N a0 N 0 0) fun y10=>bif (decide (y10>(wI (a0.Conf.Pages.tdiv 4)))) then some (TFinding.mk 7 0 0) else some (TFinding.mk 0 0 0)
def Qei (N:Nat) (a0:THeap):Option Bool:=bnd (Qgu N a0) fun y1=>some ((y1.Fault==0)&&((y1.Page==0)&&(y1.Addr==0)))
def Qfm (N:Nat) (a0:List TPin) (a1:Int):Nat->Int->Option (Ex Int Unit)
 | 0,_=>none
 | n+1,v1 =>
  bif (decide (v1<((a0.length:Nat):Int))) then (bnd (getI a0 v1) fun p2 =>
   bif (p2.Ref==a1) then some (.ret v1)
   else Qfm N a0 a1 n (wI (v1+1)))
  else some (.nxt ())
def Qf3 (N:Nat) (a0:List TPin) (a1:Int):Option Int:=bnd (Qfm N a0 a1 N 0) fun e=>exK e (fun r=>some r) fun y3=>some (-1)
def QeV (N:Nat) (a0:THeap) (a1:Int):Option Int:=bnd (Qen N a0.Conf a1) fun y1=>some y1.1
def QdI (N:Nat) (a0:THeap) (a1:List TPin) (y2:List Int×Int):Nat->Int->(List Int)->Option (Ex Bool (List Int))
 | 0,_,_=>none
 | n+1,v3,v4 =>
  bif (decide (v3<((a1.length:Nat):Int))) then (bnd (getI a1 v3) fun p5 =>
   bnd (Qb7 N y2.1 p5.Ref) fun y6 =>
   bif (!y6) then some (.ret false)
   else bnd (getI a1 v3) fun p7 =>
   bnd (Qf3 N a1 p7.Ref) fun y8 =>
   bif (y8 != v3) then some (.ret false)
   else bnd (getI a1 v3) fun p9 =>
   bif (decide (p9.Count<1)) then some (.ret false)
   else bnd (getI a1 v3) fun p10 =>
   bif (decide (p10.Count>1000)) then some (.ret false)
   else bnd (getI a1 v3) fun p11 =>
   bnd (QeV N a0 p11.Ref) fun y12 =>
   bnd (getI v4 y12) fun p13 =>
   bnd (getI a1 v3) fun p14 =>
   bnd (getI v4 y12) fun p15 =>
   QdI N a0 a1 y2 n (wI (v3+1)) (v4.set y12.toNat (wI (p13+p14.Count))))
  else some (.nxt v4)
def QdJ (N:Nat) (a0:THeap) (y16:List Int):Nat->Int->Option (Ex Bool Unit)
 | 0,_=>none
 | n+1,v17 =>
  bif (decide (v17<((a0.Pages.length:Nat):Int))) then (bnd (getI a0.Pages v17) fun p18 =>
   bnd (getI y16 v17) fun p19 =>
   bif (p18.Pins != p19) then some (.ret false)
   else QdJ N a0 y16 n (wI (v17+1)))
  else some (.nxt ())
def Qeo (N:Nat) (a0:THeap) (a1:List TPin):Option Bool:=bnd (Qei N a0) fun y1=>bif (!y1) then some false else bif (decide (((a1.length:Nat):Int)>64)) then some false else bnd (Qbi N a0) fun y2=>grd (0<=((a0.Pages.length:Nat):Int)∧((a0.Pages.length:Nat):Int).toNat*8<=140737488355328) <| bnd (QdI N a0 a1 y2 N 0 (List.replicate ((a0.Pages.length:Nat):Int).toNat 0)) fun e=>exK e (fun r=>some r) fun y16=>bnd (QdJ N a0 y16 N 0) fun e=>exK e (fun r=>some r) fun y20=>some true
def Qcl (N:Nat) (a1:List Int) (y2:List Int×Int):Nat->Int->Option (Ex Bool Unit)
 | 0,_=>none
 | n+1,v3 =>
  bif (decide (v3<((a1.length:Nat):Int))) then (bnd (getI a1 v3) fun p4 =>
   bif (p4 != 0) then (bnd (getI a1 v3) fun p5 =>
    bnd (Qb7 N y2.1 p5) fun y6 =>
    bif (!y6) then some (.ret false)
    else Qcl N a1 y2 n (wI (v3+1)))
   else Qcl N a1 y2 n (wI (v3+1)))
  else some (.nxt ())
def Qd3 (N:Nat) (a0:THeap) (a1:List Int):Option Bool:=bnd (Qei N a0) fun y1=>bif (!y1) then some false else bnd (Qbi N a0) fun y2=>bnd (Qcl N a1 y2 N 0) fun e=>exK e (fun r=>some r) fun y7=>some true
def Qdy (N:Nat) (a0:TEnv):Option Bool:=bnd (Qeo N a0.Heap a0.Pins) fun y1=>bif (!y1) then some false else bnd (QbC N a0.Locals) fun y2=>bif (!y2) then some false else bnd (Qbl N a0.Globals) fun y3=>bif (!y3) then some false else bnd (Qbl N a0.Weaks) fun y4=>bif (!y4) then some false else bnd (Qa0 N a0.Globals) fun y5=>bnd (Qb7 N y5 0) fun y6=>bif y6 then some false else grd (a0.Roots.length*8<=140737488355328) <| bnd (QbX N a0.Locals) fun y7=>grd ((a0.Roots.length+y7.length)*8<=140737488355328) <| grd (((a0.Roots.length+y7.length)+y5.length)*8<=140737488355328) <| bnd (Qa0 N a0.Weaks) fun y8=>grd ((((a0.Roots.length+y7.length)+y5.length)+y8.length)*8<=140737488355328) <| bnd (Qd3 N a0.Heap (((a0.Roots++y7)++y5)++y8)) fun y9=>some y9
def Qb9 (N:Nat) (a0:THeap) (y3:List Int×Int):Nat->Int->(List TPage)->Option (List TPage)
 | 0,_,_=>none
 | n+1,v4,v5 =>
  grd (v5.length<=140737488355328) <|
  bif (decide (v4<((v5.length:Nat):Int))) then (bnd (getI v5 v4) fun p6 =>
   bif (p6.Kind==1) then (bif (decide (p6.Pins>0)) then (bnd (getI v5 v4) fun p7 =>
       Qb9 N a0 y3 n (wI (v4+1)) (v5.set v4.toNat (TPage.mk p7.Kind (wI (1-a0.Space)) p7.Used p7.Pins)))
    else Qb9 N a0 y3 n (wI (v4+1)) v5)
   else Qb9 N a0 y3 n (wI (v4+1)) v5)
  else some v5
def Qep (N:Nat) (a0:THeap):Option (TWork×Int):=bnd (QaJ N a0) fun y1=>bif (!y1) then some ((TWork.mk (THeap.mk (TConf.mk 0 0) [] [] 0 0) [] [] [] 0 (TReport.mk 0 0 0 0 0 0)),1) else bnd (Qei N a0) fun y2=>bif (!y2) then some ((TWork.mk (THeap.mk (TConf.mk 0 0) [] [] 0 0) [] [] [] 0 (TReport.mk 0 0 0 0 0 0)),19) else bnd (Qbi N a0) fun y3=>grd (a0.Pages.length*32<=140737488355328) <| bnd (Qb9 N a0 y3 N 0 a0.Pages) fun y8=>some ((TWork.mk (THeap.mk a0.Conf a0.Words y8 a0.Space a0.Bump) y3.1 [] [] 0 (TReport.mk 0 0 0 0 0 0)),0)
def QcT (N:Nat) (a0:Int):Option (Int×Bool):=bif ((a0.tmod 4) != 2) then some (0,false) else bif (decide ((sShr .u64 a0 2)>=4294967296)) then some (0,false) else some ((sShr .u64 a0 2),true)
def QdK (N:Nat) (a0:TWork) (a1:Int):Nat->Int->Option (Ex Bool Unit)
 | 0,_=>none
 | n+1,v1 =>
  bif (decide (v1<((a0.Taken.length:Nat):Int))) then (bnd (getI a0.Taken v1) fun p2 =>
   bif (p2==a1) then some (.ret true)
   else QdK N a0 a1 n (wI (v1+1)))
  else some (.nxt ())
def Qgv (N:Nat) (a0:TWork) (a1:Int):Option Bool:=bnd (QdK N a0 a1 N 0) fun e=>exK e (fun r=>some r) fun y3=>some false
def QdL (N:Nat) (a0:TWork) (a1:Int):Option Bool:=bif (decide (a1<0)) then some false else bif (decide (a1>=((a0.Heap.Pages.length:Nat):Int))) then some false else bnd (getI a0.Heap.Pages a1) fun p1=>bif (p1.Kind==1) then (bif (p1.Space != a0.Heap.Space) then (bnd (Qgv N a0 a1) fun y2=>some (!y2)) else some false) else some false
def Qbn (N:Nat) (a2:List Int) (y1:Int×Bool):Nat->Int->(List Int)->Option (List Int)
 | 0,_,_=>none
 | n+1,v2,v3 =>
  bif (decide (v2<((a2.length:Nat):Int))) then (bnd (getI a2 v2) fun p4 =>
   bnd (getI v3 (wI (y1.1+v2))) fun p5 =>
   Qbn N a2 y1 n (wI (v2+1)) (v3.set (wI (y1.1+v2)).toNat p4))
  else some v3
def Qcd (N:Nat) (a0:List Int) (a1:Int) (a2:List Int):Option (List Int×Int):=bnd (QeU N a0 a1 ((a2.length:Nat):Int)) fun y1=>bif (!y1.2) then some ([],2) else grd (a0.length*8<=140737488355328) <| bnd (Qbn N a2 y1 N 0 a0) fun y6=>some (y6,0)
def QcN (N:Nat) (a0:List Int) (a1:Int) (a2:Int):Option (List Int×Int):=bnd (Qcd N a0 a1 [a2]) fun y1=>some (y1.1,y1.2)
def Qej (N:Nat) (a0:TWork) (a1:Int):Option TWork:=grd (a0.Queue.length*8<=140737488355328) <| grd ((a0.Queue.length+1)*8<=140737488355328) <| some (TWork.mk a0.Heap a0.Old a0.Taken (a0.Queue++[a1]) a0.Scanned (TReport.mk a0.Report.Copied (wI (a0.Report.Kept+1)) a0.Report.Filled a0.Report.Freed a0.Report.Cleared a0.Report.Steps))
def Qb1 (N:Nat) (a0:List TPage):Nat->Int->(List TRun)->Option (List TRun)
 | 0,_,_=>none
 | n+1,v1,v2 =>
  bif (decide (v1<((a0.length:Nat):Int))) then (bnd (getI a0 v1) fun p3 =>
   bif (p3.Kind != 0) then Qb1 N a0 n (wI (v1+1)) v2
   else grd (v2.length<=140737488355328) <|
   jn (fun (_:Unit) =>
    grd ((v2.length+1)*16<=140737488355328) <|
    Qb1 N a0 n (wI (v1+1)) (v2++[(TRun.mk v1 1)])) fun j1 =>
   bif (decide (((v2.length:Nat):Int)>0)) then (bnd (getI v2 (wI (((v2.length:Nat):Int)-1))) fun p4 =>
    bnd (getI v2 (wI (((v2.length:Nat):Int)-1))) fun p5 =>
    bif ((wI (p4.From+p5.Len))==v1) then (bnd (getI v2 (wI (((v2.length:Nat):Int)-1))) fun p6 =>
     bnd (getI v2 (wI (((v2.length:Nat):Int)-1))) fun p7 =>
     Qb1 N a0 n (wI (v1+1)) (v2.set (wI (((v2.length:Nat):Int)-1)).toNat (TRun.mk p7.From (wI (p6.Len+1)))))
    else j1 ())
   else j1 ())
  else some v2
def QgH (N:Nat) (a0:List TPage):Option (List TRun):=bnd (Qb1 N a0 N 0 []) fun y8=>some y8
def QcF (N:Nat) (a1:Int) (y1:List TRun):Nat->Int->Option (Ex Int Unit)
 | 0,_=>none
 | n+1,v2 =>
  bif (decide (v2<((y1.length:Nat):Int))) then (bif (decide (a1>=1)) then (bnd (getI y1 v2) fun p3 =>
      bif (decide (p3.Len>=a1)) then (bnd (getI y1 v2) fun p4 =>
       some (.ret p4.From))
      else QcF N a1 y1 n (wI (v2+1)))
   else QcF N a1 y1 n (wI (v2+1)))
  else some (.nxt ())
def Qdz (N:Nat) (a0:List TPage) (a1:Int):Option Int:=bnd (QgH N a0) fun y1=>bnd (QcF N a1 y1 N 0) fun e=>exK e (fun r=>some r) fun y5=>some (-1)
def Qec (N:Nat) (a1:Int) (a2:Int) (a3:TPage) (a4:TPage):Nat->Int->(List TPage)->Option (Ex (List TPage×Int) (List TPage))
 | 0,_,_=>none
 | n+1,v1,v2 =>
  bif (decide (v1<a2)) then (bnd (getI v2 (wI (a1+v1))) fun p3 =>
   bif (p3.Kind != 0) then some (.ret ([],20))
   else bnd (getI v2 (wI (a1+v1))) fun p4 =>
   Qec N a1 a2 a3 a4 n (wI (v1+1)) (v2.set (wI (a1+v1)).toNat a4))
  else some (.nxt v2)
def QfP (N:Nat) (a0:List TPage) (a1:Int) (a2:Int) (a3:TPage) (a4:TPage):Option (List TPage×Int):=bif (decide (a1<0)) then some ([],2) else bif (decide (a1>=((a0.length:Nat):Int))) then some ([],2) else bif (decide (a2>(wI (((a0.length:Nat):Int)-a1)))) then some ([],2) else grd (a0.length*32<=140737488355328) <| bnd (Qec N a1 a2 a3 a4 N 0 a0) fun e=>exK e (fun r=>some r) fun y5=>bnd (getI y5 a1) fun p6=>some ((y5.set a1.toNat a3),0)
def QdA (N:Nat) (a0:List TPage) (a1:Int) (a2:Int):Option (List TPage×Int):=bif (decide (a2<0)) then some ([],1) else bif (decide (a2>1)) then some ([],1) else bnd (QfP N a0 a1 1 (TPage.mk 1 a2 0 0) (TPage.mk 0 0 0 0)) fun y1=>some (y1.1,y1.2)
def QdB (N:Nat) (a0:TWork) (a1:Int):Option (TWork×Int×Bool):=grd (a0.Heap.Pages.length*32<=140737488355328) <| jn (fun (_:Unit)=>bnd (Qdz N a0.Heap.Pages 1) fun y4=>bif (decide (y4<0)) then some ((TWork.mk (THeap.mk (TConf.mk 0 0) [] [] 0 0) [] [] [] 0 (TReport.mk 0 0 0 0 0 0)),0,false) else bnd (QdA N a0.Heap.Pages y4 (wI (1-a0.Heap.Space))) fun y5=>grd (a0.Taken.length*8<=140737488355328) <| grd ((a0.Taken.length+1)*8<=140737488355328) <| bnd (getI y5.1 y4) fun p13=>bnd (getI y5.1 y4) fun p14=>bnd (getI y5.1 y4) fun p15=>some ((TWork.mk (THeap.mk a0.Heap.Conf a0.Heap.Words (y5.1.set y4.toNat (TPage.mk p15.Kind p15.Space (wI (p14.Used+a1)) p15.Pins)) a0.Heap.Space a0.Heap.Bump) a0.Old (a0.Taken++[y4]) a0.Queue a0.Scanned a0.Report),(wU (wI ((wI (4096+(wI (y4*a0.Heap.Conf.PageWords))))+p13.Used))),true)) fun j1=>bif (decide (((a0.Taken.length:Nat):Int)>0)) then (bnd (getI a0.Taken (wI (((a0.Taken.length:Nat):Int)-1))) fun p1=>bnd (getI a0.Heap.Pages p1) fun p2=>bif (decide ((wI (p2.Used+a1))<=a0.Heap.Conf.PageWords)) then (bnd (getI a0.Taken (wI (((a0.Taken.length:Nat):Int)-1))) fun p3=>bnd (getI a0.Heap.Pages p3) fun p10=>bnd (getI a0.Heap.Pages p3) fun p11=>bnd (getI a0.Heap.Pages p3) fun p12=>some ((TWork.mk (THeap.mk a0.Heap.Conf a0.Heap.Words (a0.Heap.Pages.set p3.toNat (TPage.mk p12.Kind p12.Space (wI (p11.Used+a1)) p12.Pins)) a0.Heap.Space a0.Heap.Bump) a0.Old a0.Taken a0.Queue a0.Scanned a0.Report),(wU (wI ((wI (4096+(wI (p3*a0.Heap.Conf.PageWords))))+p10.Used))),true)) else j1 ()) else j1 ()
def QeW (N:Nat) (a0:List Int) (a1:Int) (a2:Int) (a3:Int):Option (List Int×Int):=bnd (Qeh N a0 a2 a3) fun y1=>bif (y1.2 != 0) then some ([],y1.2) else bnd (Qcd N a0 a1 y1.1) fun y2=>some (y2.1,y2.2)
def Qdj (N:Nat) (a0:Int):Option (Int×Int):=bif (decide (a0>=4294967296)) then some (0,1) else some ((wU ((wU (4*a0))+2)),0)
def QcG (N:Nat) (a0:TWork) (a1:Int):Nat->Int->(List TPage)->Option (List TPage)
 | 0,_,_=>none
 | n+1,v10,v11 =>
  grd (v11.length<=140737488355328) <|
  bif (decide (v10<((v11.length:Nat):Int))) then (bnd (getI v11 v10) fun p12 =>
   bif (p12.Kind==3) then (bnd (getI v11 v10) fun p13 =>
    QcG N a0 a1 n (wI (v10+1)) (v11.set v10.toNat (TPage.mk p13.Kind (wI (1-a0.Heap.Space)) p13.Used p13.Pins)))
   else some v11)
  else some v11
def Qcu (N:Nat) (a0:TWork) (a1:Int):Option (TWork×Int×Int):=bif (a1==0) then some (a0,a1,0) else bnd (Qb7 N a0.Queue a1) fun y1=>bif y1 then some (a0,a1,0) else bnd (Qb7 N a0.Old a1) fun y2=>bif (!y2) then some ((TWork.mk (THeap.mk (TConf.mk 0 0) [] [] 0 0) [] [] [] 0 (TReport.mk 0 0 0 0 0 0)),0,19) else bnd (QbJ N a0.Heap.Words a1) fun y3=>bnd (QcT N y3.1) fun y4=>bif y4.2 then some (a0,y4.1,0) else bnd (Qen N a0.Heap.Conf a1) fun y5=>bif (y5.2.2 != 0) then some ((TWork.mk (THeap.mk (TConf.mk 0 0) [] [] 0 0) [] [] [] 0 (TReport.mk 0 0 0 0 0 0)),0,19) else bif (decide (y5.1>=((a0.Heap.Pages.length:Nat):Int))) then some ((TWork.mk (THeap.mk (TConf.mk 0 0) [] [] 0 0) [] [] [] 0 (TReport.mk 0 0 0 0 0 0)),0,19) else bnd (QdL N a0 y5.1) fun y6=>bif y6 then (bnd (Qej N a0 a1) fun y7=>some (y7,a1,0)) else bnd (getI a0.Heap.Pages y5.1) fun p8=>bif (p8.Kind==2) then (grd (a0.Heap.Pages.length*32<=140737488355328) <| bnd (getI a0.Heap.Pages y5.1) fun p9=>bnd (QcG N a0 a1 N (wI (y5.1+1)) (a0.Heap.Pages.set y5.1.toNat (TPage.mk p9.Kind (wI (1-a0.Heap.Space)) p9.Used p9.Pins))) fun y14=>bnd (Qej N (TWork.mk (THeap.mk a0.Heap.Conf a0.Heap.Words y14 a0.Heap.Space a0.Heap.Bump) a0.Old a0.Taken a0.Queue a0.Scanned a0.Report) a1) fun y15=>some (y15,a1,0)) else bnd (Qbv N y3.1) fun y16=>bnd (QbZ N y16.1) fun y17=>bnd (QdB N a0 y17) fun y18=>bif (!y18.2.2) then some ((TWork.mk (THeap.mk (TConf.mk 0 0) [] [] 0 0) [] [] [] 0 (TReport.mk 0 0 0 0 0 0)),0,3) else bnd (QeW N y18.1.Heap.Words y18.2.1 a1 y17) fun y19=>bnd (Qdj N y18.2.1) fun y20=>bnd (QcN N y19.1 a1 y20.1) fun y21=>grd (y18.1.Queue.length*8<=140737488355328) <| grd ((y18.1.Queue.length+1)*8<=140737488355328) <| some ((TWork.mk (THeap.mk y18.1.Heap.Conf y21.1 y18.1.Heap.Pages y18.1.Heap.Space y18.1.Heap.Bump) y18.1.Old y18.1.Taken (y18.1.Queue++[y18.2.1]) y18.1.Scanned (TReport.mk (wI (y18.1.Report.Copied+1)) y18.1.Report.Kept y18.1.Report.Filled y18.1.Report.Freed y18.1.Report.Cleared y18.1.Report.Steps)),y18.2.1,0)
def Qbo (N:Nat) (a1:List Int):Nat->Int->Int->Int->(List Int)->(List TPage)->Int->Int->(List Int)->(List Int)->(List Int)->Int->Int->Int->Int->Int->Int->Int->(List Int)->Option (Ex (TWork×List Int×Int) (Int×Int×List Int×List TPage×Int×Int×List Int×List Int×List Int×Int×Int×Int×Int×Int×Int×Int×List Int))
 | 0,_,_,_,_,_,_,_,_,_,_,_,_,_,_,_,_,_,_=>none
 | n+1,v1,v2,v3,v4,v5,v6,v7,v8,v9,v10,v11,v12,v13,v14,v15,v16,v17,v18 =>
  bif (decide (v1<((a1.length:Nat):Int))) then (bnd (getI a1 v1) fun p19 =>
   bnd (Qcu N (TWork.mk (THeap.mk (TConf.mk v2 v3) v4 v5 v6 v7) v8 v9 v10 v11 (TReport.mk v12 v13 v14 v15 v16 v17)) p19) fun y20 =>
   bif (y20.2.2 != 0) then some (.ret ((TWork.mk (THeap.mk (TConf.mk 0 0) [] [] 0 0) [] [] [] 0 (TReport.mk 0 0 0 0 0 0)),[],y20.2.2))
   else grd ((v18.length+1)*8<=140737488355328) <|
   Qbo N a1 n (wI (v1+1)) y20.1.Heap.Conf.PageWords y20.1.Heap.Conf.Pages y20.1.Heap.Words y20.1.Heap.Pages y20.1.Heap.Space y20.1.Heap.Bump y20.1.Old y20.1.Taken y20.1.Queue y20.1.Scanned y20.1.Report.Copied y20.1.Report.Kept y20.1.Report.Filled y20.1.Report.Freed y20.1.Report.Cleared y20.1.Report.Steps (v18++[y20.2.1]))
  else some (.nxt (v2,v3,v4,v5,v6,v7,v8,v9,v10,v11,v12,v13,v14,v15,v16,v17,v18))
def Qeq (N:Nat) (a0:TWork) (a1:List Int):Option (TWork×List Int×Int):=bnd (Qbo N a1 N 0 a0.Heap.Conf.PageWords a0.Heap.Conf.Pages a0.Heap.Words a0.Heap.Pages a0.Heap.Space a0.Heap.Bump a0.Old a0.Taken a0.Queue a0.Scanned a0.Report.Copied a0.Report.Kept a0.Report.Filled a0.Report.Freed a0.Report.Cleared a0.Report.Steps []) fun e=>exK e (fun r=>some r) fun y21=>some ((TWork.mk (THeap.mk (TConf.mk y21.1 y21.2.1) y21.2.2.1 y21.2.2.2.1 y21.2.2.2.2.1 y21.2.2.2.2.2.1) y21.2.2.2.2.2.2.1 y21.2.2.2.2.2.2.2.1 y21.2.2.2.2.2.2.2.2.1 y21.2.2.2.2.2.2.2.2.2.1 (TReport.mk y21.2.2.2.2.2.2.2.2.2.2.1 y21.2.2.2.2.2.2.2.2.2.2.2.1 y21.2.2.2.2.2.2.2.2.2.2.2.2.1 y21.2.2.2.2.2.2.2.2.2.2.2.2.2.1 y21.2.2.2.2.2.2.2.2.2.2.2.2.2.2.1 y21.2.2.2.2.2.2.2.2.2.2.2.2.2.2.2.1)),y21.2.2.2.2.2.2.2.2.2.2.2.2.2.2.2.2,0)
def QeO (N:Nat) (a0:TWork) (a1:Int):Option THeader:=bnd (QbJ N a0.Heap.Words a1) fun y1=>bnd (Qbv N y1.1) fun y2=>some y2.1
def Qbq (N:Nat) (a0:THeader):Nat->Int->(List Int)->Option (List Int)
 | 0,_,_=>none
 | n+1,v1,v2 =>
  bif (decide (v1<a0.Length)) then (bnd (Qcb N a0) fun y3 =>
   bif y3 then (bnd (QbB N a0 v1) fun y4 =>
    bif y4 then (grd ((v2.length+1)*8<=140737488355328) <|
     Qbq N a0 n (wI (v1+1)) (v2++[v1]))
    else Qbq N a0 n (wI (v1+1)) v2)
   else some v2)
  else some v2
def QeC (N:Nat) (a0:THeader):Option (List Int):=bnd (Qbq N a0 N 0 []) fun y5=>some y5
def QbF (N:Nat) (p1:Int) (y3:List Int):Nat->Int->Int->Int->(List Int)->(List TPage)->Int->Int->(List Int)->(List Int)->(List Int)->Int->Int->Int->Int->Int->Int->Int->Option (Ex (TWork×Bool×Int) (Int×Int×List Int×List TPage×Int×Int×List Int×List Int×List Int×Int×Int×Int×Int×Int×Int×Int))
 | 0,_,_,_,_,_,_,_,_,_,_,_,_,_,_,_,_,_=>none
 | n+1,v4,v5,v6,v7,v8,v9,v10,v11,v12,v13,v14,v15,v16,v17,v18,v19,v20 =>
  bif (decide (v4<((y3.length:Nat):Int))) then (bnd (getI y3 v4) fun p21 =>
   bnd (QbJ N v7 (wU ((wU (p1+1))+(wU p21)))) fun y22 =>
   bnd (Qcu N (TWork.mk (THeap.mk (TConf.mk v5 v6) v7 v8 v9 v10) v11 v12 v13 v14 (TReport.mk v15 v16 v17 v18 v19 v20)) y22.1) fun y23 =>
   bif (y23.2.2 != 0) then some (.ret ((TWork.mk (THeap.mk (TConf.mk 0 0) [] [] 0 0) [] [] [] 0 (TReport.mk 0 0 0 0 0 0)),false,y23.2.2))
   else bnd (QcN N y23.1.Heap.Words (wU ((wU (p1+1))+(wU p21))) y23.2.1) fun y24 =>
   QbF N p1 y3 n (wI (v4+1)) y23.1.Heap.Conf.PageWords y23.1.Heap.Conf.Pages y24.1 y23.1.Heap.Pages y23.1.Heap.Space y23.1.Heap.Bump y23.1.Old y23.1.Taken y23.1.Queue y23.1.Scanned y23.1.Report.Copied y23.1.Report.Kept y23.1.Report.Filled y23.1.Report.Freed y23.1.Report.Cleared y23.1.Report.Steps)
  else some (.nxt (v5,v6,v7,v8,v9,v10,v11,v12,v13,v14,v15,v16,v17,v18,v19,v20))
def QeX (N:Nat) (a0:TWork):Option (TWork×Bool×Int):=bif (decide (a0.Scanned>=((a0.Queue.length:Nat):Int))) then some (a0,false,0) else bnd (getI a0.Queue a0.Scanned) fun p1=>bnd (QeO N a0 p1) fun y2=>bnd (QeC N y2) fun y3=>bnd (QbF N p1 y3 N 0 a0.Heap.Conf.PageWords a0.Heap.Conf.Pages a0.Heap.Words a0.Heap.Pages a0.Heap.Space a0.Heap.Bump a0.Old a0.Taken a0.Queue a0.Scanned a0.Report.Copied a0.Report.Kept a0.Report.Filled a0.Report.Freed a0.Report.Cleared a0.Report.Steps) fun e=>exK e (fun r=>some r) fun y25=>some ((TWork.mk (THeap.mk (TConf.mk y25.1 y25.2.1) y25.2.2.1 y25.2.2.2.1 y25.2.2.2.2.1 y25.2.2.2.2.2.1) y25.2.2.2.2.2.2.1 y25.2.2.2.2.2.2.2.1 y25.2.2.2.2.2.2.2.2.1 (wI (y25.2.2.2.2.2.2.2.2.2.1+1)) (TReport.mk y25.2.2.2.2.2.2.2.2.2.2.1 y25.2.2.2.2.2.2.2.2.2.2.2.1 y25.2.2.2.2.2.2.2.2.2.2.2.2.1 y25.2.2.2.2.2.2.2.2.2.2.2.2.2.1 y25.2.2.2.2.2.2.2.2.2.2.2.2.2.2.1 (wI ((wI (y25.2.2.2.2.2.2.2.2.2.2.2.2.2.2.2+1))+((y3.length:Nat):Int))))),true,0)
def QbW (N:Nat):Nat->Int->Int->(List Int)->(List TPage)->Int->Int->(List Int)->(List Int)->(List Int)->Int->Int->Int->Int->Int->Int->Int->Option (TWork×Int)
 | 0,_,_,_,_,_,_,_,_,_,_,_,_,_,_,_,_=>none
 | n+1,v1,v2,v3,v4,v5,v6,v7,v8,v9,v10,v11,v12,v13,v14,v15,v16 =>
  bnd (QeX N (TWork.mk (THeap.mk (TConf.mk v1 v2) v3 v4 v5 v6) v7 v8 v9 v10 (TReport.mk v11 v12 v13 v14 v15 v16))) fun y17 =>
  bif (y17.2.2 != 0) then some ((TWork.mk (THeap.mk (TConf.mk 0 0) [] [] 0 0) [] [] [] 0 (TReport.mk 0 0 0 0 0 0)),y17.2.2)
  else bif (!y17.2.1) then some (y17.1,0)
  else QbW N n y17.1.Heap.Conf.PageWords y17.1.Heap.Conf.Pages y17.1.Heap.Words y17.1.Heap.Pages y17.1.Heap.Space y17.1.Heap.Bump y17.1.Old y17.1.Taken y17.1.Queue y17.1.Scanned y17.1.Report.Copied y17.1.Report.Kept y17.1.Report.Filled y17.1.Report.Freed y17.1.Report.Cleared y17.1.Report.Steps
def QfF (N:Nat) (a0:TWork):Option (TWork×Int):=bnd (QbW N N a0.Heap.Conf.PageWords a0.Heap.Conf.Pages a0.Heap.Words a0.Heap.Pages a0.Heap.Space a0.Heap.Bump a0.Old a0.Taken a0.Queue a0.Scanned a0.Report.Copied a0.Report.Kept a0.Report.Filled a0.Report.Freed a0.Report.Cleared a0.Report.Steps) fun r=>some r
def Qer (N:Nat) (a0:TWork) (a1:Int):Option Int:=bnd (Qb7 N a0.Queue a1) fun y1=>bif y1 then some a1 else bnd (QbJ N a0.Heap.Words a1) fun y2=>bnd (QcT N y2.1) fun y3=>some y3.1
def QbG (N:Nat) (a0:TWork) (v4:List TPage) (p5:TPage) (v1:Int) (v2:Int):Nat->Int->(List Int)->Option (List Int)
 | 0,_,_=>none
 | n+1,v7,v8 =>
  bif (decide (v7<a0.Heap.Conf.PageWords)) then (bnd (getI v8 (wI ((wI (v1*a0.Heap.Conf.PageWords))+v7))) fun p9 =>
   QbG N a0 v4 p5 v1 v2 n (wI (v7+1)) (v8.set (wI ((wI (v1*a0.Heap.Conf.PageWords))+v7)).toNat 0))
  else some v8
def Qa4 (N:Nat) (a0:TWork):Nat->Int->Int->(List Int)->(List TPage)->Option (Int×List Int×List TPage)
 | 0,_,_,_,_=>none
 | n+1,v1,v2,v3,v4 =>
  grd (v4.length<=140737488355328) <|
  bif (decide (v1<((v4.length:Nat):Int))) then (bnd (getI v4 v1) fun p5 =>
   bif (p5.Kind==0) then Qa4 N a0 n (wI (v1+1)) v2 v3 v4
   else bif (p5.Space != a0.Heap.Space) then Qa4 N a0 n (wI (v1+1)) v2 v3 v4
   else bnd (getI v4 v1) fun p6 =>
   bnd (QbG N a0 v4 p5 v1 v2 N 0 v3) fun y10 =>
   Qa4 N a0 n (wI (v1+1)) (wI (v2+1)) y10 (v4.set v1.toNat (TPage.mk 0 0 0 0)))
  else some (v2,v3,v4)
def QeY (N:Nat) (a0:TWork):Option TWork:=grd (a0.Heap.Pages.length*32<=140737488355328) <| grd (a0.Heap.Words.length*8<=140737488355328) <| bnd (Qa4 N a0 N 0 a0.Report.Freed a0.Heap.Words a0.Heap.Pages) fun y11=>some (TWork.mk (THeap.mk a0.Heap.Conf y11.2.1 y11.2.2 a0.Heap.Space a0.Heap.Bump) a0.Old a0.Taken a0.Queue a0.Scanned (TReport.mk a0.Report.Copied a0.Report.Kept a0.Report.Filled y11.1 a0.Report.Cleared a0.Report.Steps))
def QaQ (N:Nat) (a0:TWork):Nat->Int->(List Int)->Int->Option (List Int×Int)
 | 0,_,_,_=>none
 | n+1,v1,v2,v3 =>
  bif (decide (v1<((a0.Old.length:Nat):Int))) then (bnd (getI a0.Old v1) fun p4 =>
   bnd (Qen N a0.Heap.Conf p4) fun y5 =>
   bnd (QdL N (TWork.mk (THeap.mk a0.Heap.Conf v2 a0.Heap.Pages a0.Heap.Space a0.Heap.Bump) a0.Old a0.Taken a0.Queue a0.Scanned (TReport.mk a0.Report.Copied a0.Report.Kept v3 a0.Report.Freed a0.Report.Cleared a0.Report.Steps)) y5.1) fun y6 =>
   bif (!y6) then QaQ N a0 n (wI (v1+1)) v2 v3
   else bnd (getI a0.Old v1) fun p7 =>
   bnd (Qb7 N a0.Queue p7) fun y8 =>
   bif y8 then QaQ N a0 n (wI (v1+1)) v2 v3
   else bnd (getI a0.Old v1) fun p9 =>
   bnd (QeO N (TWork.mk (THeap.mk a0.Heap.Conf v2 a0.Heap.Pages a0.Heap.Space a0.Heap.Bump) a0.Old a0.Taken a0.Queue a0.Scanned (TReport.mk a0.Report.Copied a0.Report.Kept v3 a0.Report.Freed a0.Report.Cleared a0.Report.Steps)) p9) fun y10 =>
   bnd (Qck N (THeader.mk 0 y10.Length 0)) fun y11 =>
   bnd (getI a0.Old v1) fun p12 =>
   grd (0<=y10.Length∧y10.Length.toNat*8<=140737488355328) <|
   grd ((1+y10.Length.toNat)*8<=140737488355328) <|
   bnd (Qcd N v2 p12 ([y11.1]++(List.replicate y10.Length.toNat 0))) fun y13 =>
   QaQ N a0 n (wI (v1+1)) y13.1 (wI (v3+1)))
  else some (v2,v3)
def QeZ (N:Nat) (a0:TWork):Option TWork:=bnd (QaQ N a0 N 0 a0.Heap.Words a0.Report.Filled) fun y14=>some (TWork.mk (THeap.mk a0.Heap.Conf y14.1 a0.Heap.Pages a0.Heap.Space a0.Heap.Bump) a0.Old a0.Taken a0.Queue a0.Scanned (TReport.mk a0.Report.Copied a0.Report.Kept y14.2 a0.Report.Freed a0.Report.Cleared a0.Report.Steps))
def QaU (N:Nat) (a2:List Int) (y5:TWork×List Int×Int) (y6:TWork×Int):Nat->Int->Int->(List Int)->Option (Int×List Int)
 | 0,_,_,_=>none
 | n+1,v7,v8,v9 =>
  bif (decide (v7<((a2.length:Nat):Int))) then (bnd (getI a2 v7) fun p10 =>
   jn (fun (x14:Int) (x15:Int) =>
    grd ((v9.length+1)*8<=140737488355328) <|
    QaU N a2 y5 y6 n (wI (v7+1)) x15 (v9++[x14])) fun j3 =>
   bif (p10 != 0) then (bnd (getI a2 v7) fun p11 =>
    bnd (Qer N (TWork.mk y6.1.Heap y6.1.Old y6.1.Taken y6.1.Queue y6.1.Scanned (TReport.mk y6.1.Report.Copied y6.1.Report.Kept y6.1.Report.Filled y6.1.Report.Freed v8 y6.1.Report.Steps)) p11) fun y12 =>
    jn (fun (x13:Int) =>
     j3 y12 x13) fun j2 =>
    bif (y12==0) then j2 (wI (v8+1))
    else j2 v8)
   else j3 0 v8)
  else some (v8,v9)
def Qdk (N:Nat) (a0:THeap) (a1:List Int) (a2:List Int):Option (THeap×List Int×List Int×TReport×Int):=bnd (QaJ N a0) fun y1=>bif (!y1) then some ((THeap.mk (TConf.mk 0 0) [] [] 0 0),[],[],(TReport.mk 0 0 0 0 0 0),1) else jn (fun (_:Unit)=>some ((THeap.mk (TConf.mk 0 0) [] [] 0 0),[],[],(TReport.mk 0 0 0 0 0 0),19)) fun j1=>bnd (Qd3 N a0 a1) fun y2=>bif (!y2) then j1 () else bnd (Qd3 N a0 a2) fun y3=>bif (!y3) then j1 () else bnd (Qep N a0) fun y4=>bnd (Qeq N y4.1 a1) fun y5=>bif (y5.2.2 != 0) then some ((THeap.mk (TConf.mk 0 0) [] [] 0 0),[],[],(TReport.mk 0 0 0 0 0 0),y5.2.2) else bnd (QfF N y5.1) fun y6=>bif (y6.2 != 0) then some ((THeap.mk (TConf.mk 0 0) [] [] 0 0),[],[],(TReport.mk 0 0 0 0 0 0),y6.2) else bnd (QaU N a2 y5 y6 N 0 y6.1.Report.Cleared []) fun y16=>bnd (QeZ N (TWork.mk y6.1.Heap y6.1.Old y6.1.Taken y6.1.Queue y6.1.Scanned (TReport.mk y6.1.Report.Copied y6.1.Report.Kept y6.1.Report.Filled y6.1.Report.Freed y16.1 y6.1.Report.Steps))) fun y17=>bnd (QeY N y17) fun y18=>jn (fun (x20:Int)=>some ((THeap.mk y18.Heap.Conf y18.Heap.Words y18.Heap.Pages (wI (1-y18.Heap.Space)) x20),y5.2.1,y16.2,y18.Report,0)) fun j4=>bif (decide (((y18.Taken.length:Nat):Int)>0)) then (bnd (getI y18.Taken (wI (((y18.Taken.length:Nat):Int)-1))) fun p19=>j4 p19) else j4 (-1)
def Qa8 (N:Nat) (a0:TEnv):Nat->Int->(List Int)->Option (List Int)
 | 0,_,_=>none
 | n+1,v3,v4 =>
  bif (decide (v3<((a0.Pins.length:Nat):Int))) then (bnd (getI a0.Pins v3) fun p5 =>
   grd ((v4.length+1)*8<=140737488355328) <|
   Qa8 N a0 n (wI (v3+1)) (v4++[p5.Ref]))
  else some v4
def Qd4 (N:Nat) (a0:TEnv):Option (List Int):=grd (a0.Roots.length*8<=140737488355328) <| bnd (QbX N a0.Locals) fun y1=>grd ((a0.Roots.length+y1.length)*8<=140737488355328) <| bnd (Qa0 N a0.Globals) fun y2=>grd (((a0.Roots.length+y1.length)+y2.length)*8<=140737488355328) <| bnd (Qa8 N a0 N 0 ((a0.Roots++y1)++y2)) fun y6=>some y6
def Qbj (N:Nat) (a0:TLocals) (a1:List Int):Nat->Int->Int->(List TSlot)->Option (Ex (TLocals×Int) (List TSlot))
 | 0,_,_,_=>none
 | n+1,v3,v4,v5 =>
  grd (v5.length<=140737488355328) <|
  bif (decide (v4<((v5.length:Nat):Int))) then (bnd (getI v5 v4) fun p6 =>
   bif (!p6.Live) then Qbj N a0 a1 n v3 (wI (v4+1)) v5
   else bnd (getI a1 v3) fun p7 =>
   bif (p7==0) then some (.ret ((TLocals.mk [] [] []),1))
   else bnd (getI a1 v3) fun p8 =>
   bnd (getI v5 v4) fun p9 =>
   Qbj N a0 a1 n (wI (v3+1)) (wI (v4+1)) (v5.set v4.toNat (TSlot.mk p9.Stamp p8 p9.Live)))
  else some (.nxt v5)
def Qe0 (N:Nat) (a0:TLocals) (a1:List Int):Option (TLocals×Int):=bnd (QbC N a0) fun y1=>bif (!y1) then some ((TLocals.mk [] [] []),1) else bnd (QbX N a0) fun y2=>bif (((a1.length:Nat):Int) != ((y2.length:Nat):Int)) then some ((TLocals.mk [] [] []),1) else grd (a0.Slots.length*24<=140737488355328) <| bnd (Qbj N a0 a1 N 0 0 a0.Slots) fun e=>exK e (fun r=>some r) fun y10=>some ((TLocals.mk y10 a0.Scopes a0.Issued),0)
def QaV (N:Nat) (a0:TEnv) (y4:THeap×List Int×List Int×TReport×Int) (y5:List Int) (y6:List Int) (y7:TLocals×Int) (y8:TTable×Int) (y9:TTable×Int):Nat->Int->(List TPin)->Option (List TPin)
 | 0,_,_=>none
 | n+1,v10,v11 =>
  bif (decide (v10<((a0.Pins.length:Nat):Int))) then (bnd (getI y4.2.1 (wI ((wI ((wI (((a0.Roots.length:Nat):Int)+((y5.length:Nat):Int)))+((y6.length:Nat):Int)))+v10))) fun p12 =>
   bnd (getI a0.Pins v10) fun p13 =>
   grd ((v11.length+1)*16<=140737488355328) <|
   QaV N a0 y4 y5 y6 y7 y8 y9 n (wI (v10+1)) (v11++[(TPin.mk p12 p13.Count)]))
  else some v11
def Qcv (N:Nat) (a0:TEnv):Option (TEnv×TReport×Int):=bnd (Qdy N a0) fun y1=>bif (!y1) then some ((TEnv.mk (THeap.mk (TConf.mk 0 0) [] [] 0 0) (TLocals.mk [] [] []) (TTable.mk []) (TTable.mk []) [] []),(TReport.mk 0 0 0 0 0 0),19) else bnd (Qd4 N a0) fun y2=>bnd (Qa0 N a0.Weaks) fun y3=>bnd (Qdk N a0.Heap y2 y3) fun y4=>bif (y4.2.2.2.2 != 0) then some ((TEnv.mk (THeap.mk (TConf.mk 0 0) [] [] 0 0) (TLocals.mk [] [] []) (TTable.mk []) (TTable.mk []) [] []),(TReport.mk 0 0 0 0 0 0),y4.2.2.2.2) else bnd (QbX N a0.Locals) fun y5=>bnd (Qa0 N a0.Globals) fun y6=>grd (y6.length<=140737488355328) <| grd (0<=0∧0<=((a0.Roots.length:Nat):Int)∧((a0.Roots.length:Nat):Int)<=((y4.2.1.length:Nat):Int)) <| grd ((min (((a0.Roots.length:Nat):Int).toNat) y4.2.1.length)*8<=140737488355328) <| grd (0<=((a0.Roots.length:Nat):Int)∧((a0.Roots.length:Nat):Int)<=(wI (((a0.Roots.length:Nat):Int)+((y5.length:Nat):Int)))∧(wI (((a0.Roots.length:Nat):Int)+((y5.length:Nat):Int)))<=((y4.2.1.length:Nat):Int)) <| bnd (Qe0 N a0.Locals ((y4.2.1.drop ((a0.Roots.length:Nat):Int).toNat).take ((wI (((a0.Roots.length:Nat):Int)+((y5.length:Nat):Int))).toNat-((a0.Roots.length:Nat):Int).toNat))) fun y7=>grd (0<=(wI (((a0.Roots.length:Nat):Int)+((y5.length:Nat):Int)))∧(wI (((a0.Roots.length:Nat):Int)+((y5.length:Nat):Int)))<=(wI ((wI (((a0.Roots.length:Nat):Int)+((y5.length:Nat):Int)))+((y6.length:Nat):Int)))∧(wI ((wI (((a0.Roots.length:Nat):Int)+((y5.length:Nat):Int)))+((y6.length:Nat):Int)))<=((y4.2.1.length:Nat):Int)) <| bnd (QcM N a0.Globals ((y4.2.1.drop (wI (((a0.Roots.length:Nat):Int)+((y5.length:Nat):Int))).toNat).take ((wI ((wI (((a0.Roots.length:Nat):Int)+((y5.length:Nat):Int)))+((y6.length:Nat):Int))).toNat-(wI (((a0.Roots.length:Nat):Int)+((y5.length:Nat):Int))).toNat))) fun y8=>bnd (QcM N a0.Weaks y4.2.2.1) fun y9=>bnd (QaV N a0 y4 y5 y6 y7 y8 y9 N 0 []) fun y14=>some ((TEnv.mk y4.1 y7.1 y8.1 y9.1 y14 (y4.2.1.take ((a0.Roots.length:Nat):Int).toNat)),y4.2.2.2.1,0)
def Qac (N:Nat) (a0:Int):Option (TEnv×Int×Int):=some ((TEnv.mk (THeap.mk (TConf.mk 0 0) [] [] 0 0) (TLocals.mk [] [] []) (TTable.mk []) (TTable.mk []) [] []),0,a0)
def Qfn (N:Nat) (a0:TConf):Option Int:=bnd (Qat N a0) fun y1=>bif (!y1) then some 0 else some (wI (a0.Pages.tdiv 4))
def QcH (N:Nat) (a0:List TPage):Nat->Int->Int->Option Int
 | 0,_,_=>none
 | n+1,v1,v2 =>
  bif (decide (v2<((a0.length:Nat):Int))) then (bnd (getI a0 v2) fun p3 =>
   bif (p3.Kind != 0) then QcH N a0 n (wI (v1+1)) (wI (v2+1))
   else QcH N a0 n v1 (wI (v2+1)))
  else some v1
def QfZ (N:Nat) (a0:List TPage):Option Int:=bnd (QcH N a0 N 0 0) fun y4=>some y4
def Qes (N:Nat) (a0:THeap) (a1:Int):Option (THeap×Int×Bool):=grd (a0.Pages.length*32<=140737488355328) <| bnd (Qfn N a0.Conf) fun y1=>bnd (QfZ N a0.Pages) fun y2=>jn (fun (_:Unit)=>bnd (Qdz N a0.Pages 1) fun y5=>bif (decide (y5<0)) then some ((THeap.mk (TConf.mk 0 0) [] [] 0 0),0,false) else bif (decide (y2>=y1)) then some ((THeap.mk (TConf.mk 0 0) [] [] 0 0),0,false) else bnd (QdA N a0.Pages y5 a0.Space) fun y6=>bnd (getI y6.1 y5) fun p11=>bnd (getI y6.1 y5) fun p12=>bnd (getI y6.1 y5) fun p13=>some ((THeap.mk a0.Conf a0.Words (y6.1.set y5.toNat (TPage.mk p13.Kind p13.Space (wI (p12.Used+a1)) p13.Pins)) a0.Space y5),(wU (wI ((wI (4096+(wI (y5*a0.Conf.PageWords))))+p11.Used))),true)) fun j1=>bif (decide (a0.Bump<0)) then j1 () else bnd (getI a0.Pages a0.Bump) fun p3=>bif (p3.Space != a0.Space) then j1 () else bnd (getI a0.Pages a0.Bump) fun p4=>bif (decide ((wI (p4.Used+a1))>a0.Conf.PageWords)) then j1 () else bif (decide (y2>y1)) then j1 () else bnd (getI a0.Pages a0.Bump) fun p14=>bnd (getI a0.Pages a0.Bump) fun p15=>bnd (getI a0.Pages a0.Bump) fun p16=>some ((THeap.mk a0.Conf a0.Words (a0.Pages.set a0.Bump.toNat (TPage.mk p16.Kind p16.Space (wI (p15.Used+a1)) p16.Pins)) a0.Space a0.Bump),(wU (wI ((wI (4096+(wI (a0.Bump*a0.Conf.PageWords))))+p14.Used))),true)
def Qf0 (N:Nat) (a0:TConf) (a1:List TPage) (a2:Int) (a3:Int) (a4:Int):Option (List TPage×Int):=bnd (Qef N a0 a4) fun y1=>bif (decide (y1<1)) then some ([],1) else bif (decide (a3<0)) then some ([],1) else bif (decide (a3>1)) then some ([],1) else bnd (QfP N a1 a2 y1 (TPage.mk 2 a3 a4 0) (TPage.mk 3 a3 0 0)) fun y2=>some (y2.1,y2.2)
def Qet (N:Nat) (a0:THeap) (a1:Int) (a2:Int):Option (THeap×Int×Bool):=bnd (Qdz N a0.Pages a2) fun y1=>bif (decide (y1<0)) then some ((THeap.mk (TConf.mk 0 0) [] [] 0 0),0,false) else bnd (QfZ N a0.Pages) fun y2=>bnd (Qfn N a0.Conf) fun y3=>bif (decide ((wI (y2+a2))>y3)) then some ((THeap.mk (TConf.mk 0 0) [] [] 0 0),0,false) else bnd (Qf0 N a0.Conf a0.Pages y1 a0.Space a1) fun y4=>some ((THeap.mk a0.Conf a0.Words y4.1 a0.Space a0.Bump),(wU (wI (4096+(wI (y1*a0.Conf.PageWords))))),true)
def Qe1 (N:Nat) (a0:THeap) (a1:Int) (a2:THeader):Option (THeap×Int):=bnd (Qck N a2) fun y1=>bnd (QaJ N a0) fun y2=>bif (!y2) then some ((THeap.mk (TConf.mk 0 0) [] [] 0 0),1) else bif (y1.2 != 0) then some ((THeap.mk (TConf.mk 0 0) [] [] 0 0),1) else grd (0<=a2.Length∧a2.Length.toNat*8<=140737488355328) <| grd ((1+a2.Length.toNat)*8<=140737488355328) <| bnd (Qcd N a0.Words a1 ([y1.1]++(List.replicate a2.Length.toNat 0))) fun y3=>bif (y3.2 != 0) then some ((THeap.mk (TConf.mk 0 0) [] [] 0 0),y3.2) else some ((THeap.mk a0.Conf y3.1 a0.Pages a0.Space a0.Bump),0)
def QeP (N:Nat) (a0:THeap) (a1:THeader):Option (THeap×Int×Int):=bnd (QaJ N a0) fun y1=>bif (!y1) then some ((THeap.mk (TConf.mk 0 0) [] [] 0 0),0,1) else bnd (Qdr N a0.Conf a1) fun y2=>bif (!y2) then some ((THeap.mk (TConf.mk 0 0) [] [] 0 0),0,1) else bnd (QbZ N a1) fun y3=>bnd (Qef N a0.Conf y3) fun y4=>bnd (Qes N a0 y3) fun y5=>jn (fun (x7:Int) (x8:Bool) (x9:Int) (x10:Int) (x11:List Int) (x12:List TPage) (x13:Int) (x14:Int)=>bif (!x8) then some ((THeap.mk (TConf.mk 0 0) [] [] 0 0),0,3) else bnd (Qe1 N (THeap.mk (TConf.mk x9 x10) x11 x12 x13 x14) x7 a1) fun y15=>some (y15.1,x7,0)) fun j1=>bif (decide (y4>0)) then (bnd (Qet N a0 y3 y4) fun y6=>j1 y6.2.1 y6.2.2 y6.1.Conf.PageWords y6.1.Conf.Pages y6.1.Words y6.1.Pages y6.1.Space y6.1.Bump) else j1 y5.2.1 y5.2.2 y5.1.Conf.PageWords y5.1.Conf.Pages y5.1.Words y5.1.Pages y5.1.Space y5.1.Bump
def Qeu (N:Nat) (a0:TEnv) (a1:THeader):Option (TEnv×Int×Int):=bnd (Qdy N a0) fun y1=>bif (!y1) then some ((TEnv.mk (THeap.mk (TConf.mk 0 0) [] [] 0 0) (TLocals.mk [] [] []) (TTable.mk []) (TTable.mk []) [] []),0,19) else bnd (QeP N a0.Heap a1) fun y2=>jn (fun (x5:Int) (x6:Int) (x7:Int) (x8:Int) (x9:List Int) (x10:List TPage) (x11:Int) (x12:Int) (x13:List TSlot) (x14:List TScope) (x15:List Int) (x16:List TEntry) (x17:List TEntry) (x18:List TPin) (x19:List Int) (x20:Int) (x21:Int) (x22:List Int) (x23:List TPage) (x24:Int) (x25:Int)=>bif (x6 != 0) then some ((TEnv.mk (THeap.mk (TConf.mk 0 0) [] [] 0 0) (TLocals.mk [] [] []) (TTable.mk []) (TTable.mk []) [] []),0,x6) else some ((TEnv.mk (THeap.mk (TConf.mk x20 x21) x22 x23 x24 x25) (TLocals.mk x13 x14 x15) (TTable.mk x16) (TTable.mk x17) x18 x19),x5,0)) fun j1=>bif (y2.2.2==3) then (bnd (Qcv N a0) fun y3=>bif (y3.2.2 != 0) then some ((TEnv.mk (THeap.mk (TConf.mk 0 0) [] [] 0 0) (TLocals.mk [] [] []) (TTable.mk []) (TTable.mk []) [] []),0,y3.2.2) else bnd (QeP N y3.1.Heap a1) fun y4=>j1 y4.2.1 y4.2.2 y3.1.Heap.Conf.PageWords y3.1.Heap.Conf.Pages y3.1.Heap.Words y3.1.Heap.Pages y3.1.Heap.Space y3.1.Heap.Bump y3.1.Locals.Slots y3.1.Locals.Scopes y3.1.Locals.Issued y3.1.Globals.Entries y3.1.Weaks.Entries y3.1.Pins y3.1.Roots y4.1.Conf.PageWords y4.1.Conf.Pages y4.1.Words y4.1.Pages y4.1.Space y4.1.Bump) else j1 y2.2.1 y2.2.2 a0.Heap.Conf.PageWords a0.Heap.Conf.Pages a0.Heap.Words a0.Heap.Pages a0.Heap.Space a0.Heap.Bump a0.Locals.Slots a0.Locals.Scopes a0.Locals.Issued a0.Globals.Entries a0.Weaks.Entries a0.Pins a0.Roots y2.1.Conf.PageWords y2.1.Conf.Pages y2.1.Words y2.1.Pages y2.1.Space y2.1.Bump
def Qce (N:Nat) (a0:TEnv) (a1:Int):Option (TEnv×Int×Int):=bif (a1==0) then some (a0,0,0) else bnd (Qdv N a0.Locals a1) fun y1=>bif (y1.2.2.2 != 0) then (bnd (Qac N y1.2.2.2) fun y2=>some (y2.1,y2.2.1,y2.2.2)) else bnd (Qbg N (THandle.mk 1 y1.2.1 y1.2.2.1)) fun y3=>some ((TEnv.mk a0.Heap y1.1 a0.Globals a0.Weaks a0.Pins a0.Roots),y3.1,0)
def Qd5 (N:Nat) (a0:TEnv) (a1:Int) (a2:Int) (a3:Int):Option (TEnv×Int×Int):=bif (decide (((a0.Pins.length:Nat):Int)>0)) then (bnd (Qac N 15) fun y1=>some (y1.1,y1.2.1,y1.2.2)) else bnd (QbD N a1 a2 a3) fun y2=>jn (fun (_:Unit)=>bnd (Qac N 1) fun y4=>some (y4.1,y4.2.1,y4.2.2)) fun j1=>bif (!y2.2) then j1 () else bnd (Qdr N a0.Heap.Conf y2.1) fun y3=>bif (!y3) then j1 () else bnd (Qdv N a0.Locals 1) fun y5=>bif (y5.2.2.2 != 0) then (bnd (Qac N y5.2.2.2) fun y6=>some (y6.1,y6.2.1,y6.2.2)) else bnd (Qeu N a0 y2.1) fun y7=>bif (y7.2.2 != 0) then (bnd (Qac N y7.2.2) fun y8=>some (y8.1,y8.2.1,y8.2.2)) else bnd (Qce N y7.1 y7.2.1) fun y9=>some (y9.1,y9.2.1,y9.2.2)
def QaR (N:Nat) (a0:TEnv) (a1:Int):Option (Int×Int):=bnd (Qdy N a0) fun y1=>bif (!y1) then some (0,19) else bif (a1==0) then some (0,0) else bnd (Qbu N a1) fun y2=>bif (y2.2 != 0) then some (0,y2.2) else bif (y2.1.Tag==1) then (bnd (Qdw N a0.Locals y2.1.Index y2.1.Stamp) fun y3=>some (y3.1,y3.2)) else bif (y2.1.Tag==2) then (bnd (QcQ N a0.Globals y2.1.Index y2.1.Stamp) fun y4=>some (y4.1,y4.2)) else bnd (QcQ N a0.Weaks y2.1.Index y2.1.Stamp) fun y5=>some (y5.1,y5.2)
def Qcf (N:Nat) (a0:TEnv) (a1:Int):Option (Int×Int):=bnd (QaR N a0 a1) fun y1=>bif (y1.2==0) then (bif (y1.1==0) then some (0,5) else some (y1.1,y1.2)) else some (y1.1,y1.2)
def QdC (N:Nat) (a0:TEnv) (a1:Int) (a2:Int) (a3:Bool):Option (Int×Int×Int):=bnd (Qcf N a0 a1) fun y1=>bif (y1.2 != 0) then some (0,0,y1.2) else bnd (QcS N a0.Heap y1.1) fun y2=>bif (decide (a2>=(wU y2.1.Length))) then some (0,0,2) else bnd (QbB N y2.1 (wI a2)) fun y3=>bif (!(y3==a3)) then some (0,0,4) else some (y1.1,(wI a2),0)
def QdD (N:Nat) (a0:THeap) (a1:Int) (a2:Int):Option (Int×Int):=bnd (QcS N a0 a1) fun y1=>bif (y1.2 != 0) then some (0,y1.2) else bif (decide (a2<0)) then some (0,2) else bif (decide (a2>=y1.1.Length)) then some (0,2) else bnd (QbJ N a0.Words (wU ((wU (a1+1))+(wU a2)))) fun y2=>some (y2.1,y2.2)
def Qca (N:Nat) (a0:THeap) (a1:Int) (a2:Int) (a3:Int):Option (THeap×Int):=bnd (QdD N a0 a1 a2) fun y1=>bif (y1.2 != 0) then some ((THeap.mk (TConf.mk 0 0) [] [] 0 0),y1.2) else bnd (QcN N a0.Words (wU ((wU (a1+1))+(wU a2))) a3) fun y2=>some ((THeap.mk a0.Conf y2.1 a0.Pages a0.Space a0.Bump),0)
def Qev (N:Nat) (a0:TEnv) (a1:Int) (a2:Int) (a3:Int) (a4:Int):Option (TEnv×Int×Int):=jn (fun (x3:Int) (x4:Int) (x5:Int)=>bif (x5 != 0) then (bnd (Qac N x5) fun y6=>some (y6.1,y6.2.1,y6.2.2)) else bnd (QdD N a0.Heap x3 x4) fun y7=>bif (a1==6) then some (a0,y7.1,0) else bif (a1==8) then (bnd (Qce N a0 y7.1) fun y8=>some (y8.1,y8.2.1,y8.2.2)) else jn (fun (x11:Int)=>bnd (Qca N a0.Heap x3 x4 x11) fun y12=>some ((TEnv.mk y12.1 a0.Locals a0.Globals a0.Weaks a0.Pins a0.Roots),0,0)) fun j2=>bif (a1==9) then (bnd (QaR N a0 a4) fun y9=>bif (y9.2 != 0) then (bnd (Qac N y9.2) fun y10=>some (y10.1,y10.2.1,y10.2.2)) else j2 y9.1) else j2 a4) fun j1=>bif (a1==8) then (bnd (QdC N a0 a2 a3 true) fun y1=>j1 y1.1 y1.2.1 y1.2.2) else bnd (QdC N a0 a2 a3 (a1==9)) fun y2=>j1 y2.1 y2.2.1 y2.2.2
def Qew (N:Nat) (a0:TEnv) (a1:Int) (a2:Int) (a3:Int):Option (TEnv×Int×Int):=jn (fun (x1:Bool)=>bif x1 then (bnd (Qcf N a0 a2) fun y2=>bif (y2.2 != 0) then (bnd (Qac N y2.2) fun y3=>some (y3.1,y3.2.1,y3.2.2)) else bnd (QcS N a0.Heap y2.1) fun y4=>bif (a1==4) then some (a0,(wU y4.1.Length),0) else some (a0,(wU y4.1.Kind),0)) else bif (a1==10) then (bnd (QaR N a0 a2) fun y5=>bif (y5.2 != 0) then (bnd (Qac N y5.2) fun y6=>some (y6.1,y6.2.1,y6.2.2)) else bnd (QaR N a0 a3) fun y7=>bif (y7.2 != 0) then (bnd (Qac N y7.2) fun y8=>some (y8.1,y8.2.1,y8.2.2)) else bif (y5.1==y7.1) then some (a0,1,0) else some (a0,0,0)) else bnd (QaR N a0 a2) fun y9=>bif (y9.2 != 0) then (bnd (Qac N y9.2) fun y10=>some (y10.1,y10.2.1,y10.2.2)) else bnd (Qce N a0 y9.1) fun y11=>some (y11.1,y11.2.1,y11.2.2)) fun j1=>bif (a1==4) then j1 true else j1 (a1==5)
def Qdl (N:Nat) (a0:TEnv) (a1:Int) (a2:Int):Option (TEnv×Int×Int):=bnd (Qcf N a0 a2) fun y1=>bif (y1.2 != 0) then (bnd (Qac N y1.2) fun y2=>some (y2.1,y2.2.1,y2.2.2)) else jn (fun (x3:Int) (x4:List TEntry)=>bnd (QbS N (TTable.mk x4) y1.1) fun y5=>bif (y5.2.2.2 != 0) then (bnd (Qac N y5.2.2.2) fun y6=>some (y6.1,y6.2.1,y6.2.2)) else jn (fun (x7:List TEntry) (x8:List TEntry)=>bnd (Qbg N (THandle.mk x3 y5.2.1 y5.2.2.1)) fun y9=>some ((TEnv.mk a0.Heap a0.Locals (TTable.mk x7) (TTable.mk x8) a0.Pins a0.Roots),y9.1,0)) fun j2=>bif (a1==15) then j2 a0.Globals.Entries y5.1.Entries else j2 y5.1.Entries a0.Weaks.Entries) fun j1=>bif (a1==15) then j1 3 a0.Weaks.Entries else j1 2 a0.Globals.Entries
def Qd6 (N:Nat) (a0:TEnv) (a1:Int) (a2:Int):Option (TEnv×Int×Int):=bif (a2==0) then (bnd (Qac N 5) fun y1=>some (y1.1,y1.2.1,y1.2.2)) else bnd (QaR N a0 a2) fun y2=>bif (y2.2 != 0) then (bnd (Qac N y2.2) fun y3=>some (y3.1,y3.2.1,y3.2.2)) else bnd (Qbu N a2) fun y4=>jn (fun (_:Unit)=>bif (a1==12) then (bnd (QcR N a0.Locals y4.1.Index y4.1.Stamp) fun y6=>some ((TEnv.mk a0.Heap y6.1 a0.Globals a0.Weaks a0.Pins a0.Roots),0,0)) else bif (a1==14) then (bnd (QbV N a0.Globals y4.1.Index y4.1.Stamp) fun y7=>some ((TEnv.mk a0.Heap a0.Locals y7.1 a0.Weaks a0.Pins a0.Roots),0,0)) else bnd (QbV N a0.Weaks y4.1.Index y4.1.Stamp) fun y8=>some ((TEnv.mk a0.Heap a0.Locals a0.Globals y8.1 a0.Pins a0.Roots),0,0)) fun j2=>jn (fun (_:Unit)=>bnd (Qac N 4) fun y5=>some (y5.1,y5.2.1,y5.2.2)) fun j1=>bif (a1==12) then (bif (y4.1.Tag != 1) then j1 () else bif (a1==14) then (bif (y4.1.Tag != 2) then j1 () else bif (a1==16) then (bif (y4.1.Tag != 3) then j1 () else j2 ()) else j2 ()) else bif (a1==16) then (bif (y4.1.Tag != 3) then j1 () else j2 ()) else j2 ()) else bif (a1==14) then (bif (y4.1.Tag != 2) then j1 () else bif (a1==16) then (bif (y4.1.Tag != 3) then j1 () else j2 ()) else j2 ()) else bif (a1==16) then (bif (y4.1.Tag != 3) then j1 () else j2 ()) else j2 ()
def Qd7 (N:Nat) (a0:TEnv) (a1:Int) (a2:Int):Option (TEnv×Int×Int):=bif (a1==17) then (bif (decide (a2>64)) then (bnd (Qac N 1) fun y1=>some (y1.1,y1.2.1,y1.2.2)) else bnd (Qds N a0.Locals (wI a2)) fun y2=>bif (y2.2 != 0) then (bnd (Qac N y2.2) fun y3=>some (y3.1,y3.2.1,y3.2.2)) else some ((TEnv.mk a0.Heap y2.1 a0.Globals a0.Weaks a0.Pins a0.Roots),0,0)) else bnd (QaR N a0 a2) fun y4=>bif (y4.2 != 0) then (bnd (Qac N y4.2) fun y5=>some (y5.1,y5.2.1,y5.2.2)) else bnd (Qeg N a0.Locals) fun y6=>bif (y6.2 != 0) then (bnd (Qac N y6.2) fun y7=>some (y7.1,y7.2.1,y7.2.2)) else bnd (Qce N (TEnv.mk a0.Heap y6.1 a0.Globals a0.Weaks a0.Pins a0.Roots) y4.1) fun y8=>some (y8.1,y8.2.1,y8.2.2)
def Qcg (N:Nat) (a0:THeap) (a1:Int) (a2:Int):Option THeap:=grd (a0.Pages.length*32<=140737488355328) <| bnd (QeV N a0 a1) fun y1=>bnd (getI a0.Pages y1) fun p2=>bnd (getI a0.Pages y1) fun p3=>some (THeap.mk a0.Conf a0.Words (a0.Pages.set y1.toNat (TPage.mk p3.Kind p3.Space p3.Used (wI (p2.Pins+a2)))) a0.Space a0.Bump)
def Qdm (N:Nat) (a0:THeap) (a1:List TPin) (a2:Int):Option (THeap×List TPin×Int):=bnd (Qeo N a0 a1) fun y1=>bif (!y1) then some ((THeap.mk (TConf.mk 0 0) [] [] 0 0),[],19) else bif (a2==0) then some ((THeap.mk (TConf.mk 0 0) [] [] 0 0),[],5) else bnd (Qf3 N a1 a2) fun y2=>bif (decide (y2<0)) then some ((THeap.mk (TConf.mk 0 0) [] [] 0 0),[],12) else grd (a1.length*16<=140737488355328) <| bnd (getI a1 y2) fun p3=>bnd (getI a1 y2) fun p4=>bnd (getI (a1.set y2.toNat (TPin.mk p4.Ref (wI (p3.Count-1)))) y2) fun p5=>bif (p5.Count==0) then (grd (0<=0∧0<=y2∧y2<=((a1.length:Nat):Int)) <| grd (0<=(wI (y2+1))∧(wI (y2+1))<=((a1.length:Nat):Int)∧((a1.length:Nat):Int)<=((a1.length:Nat):Int)) <| grd (y2.toNat≠a1.length∧(y2.toNat+(a1.length-(wI (y2+1)).toNat))<=a1.length) <| bnd (Qcg N a0 a2 (-1)) fun y7=>some (y7,(((((a1.set y2.toNat (TPin.mk p4.Ref (wI (p3.Count-1)))).take y2.toNat)++(((a1.set y2.toNat (TPin.mk p4.Ref (wI (p3.Count-1)))).drop (wI (y2+1)).toNat).take (a1.length-(wI (y2+1)).toNat)))++((a1.set y2.toNat (TPin.mk p4.Ref (wI (p3.Count-1)))).drop (y2.toNat+(a1.length-(wI (y2+1)).toNat)))).take (y2.toNat+(a1.length-(wI (y2+1)).toNat))),0)) else bnd (Qcg N a0 a2 (-1)) fun y8=>some (y8,(a1.set y2.toNat (TPin.mk p4.Ref (wI (p3.Count-1)))),0)
def QdM (N:Nat) (a0:THeap) (a1:Int):Option Bool:=bnd (Qbi N a0) fun y1=>bnd (Qb7 N y1.1 a1) fun y2=>some y2
def Qbw (N:Nat) (a0:THeap) (a1:Int):Nat->Int->Int->Option Int
 | 0,_,_=>none
 | n+1,v3,v4 =>
  bif (decide (v4<((a0.Pages.length:Nat):Int))) then (bnd (getI a0.Pages v4) fun p5 =>
   bif (p5.Kind==1) then (bnd (getI a0.Pages v4) fun p6 =>
    bif (decide (p6.Pins>0)) then Qbw N a0 a1 n (wI (v3+1)) (wI (v4+1))
    else Qbw N a0 a1 n v3 (wI (v4+1)))
   else Qbw N a0 a1 n v3 (wI (v4+1)))
  else some v3
def Qcw (N:Nat) (a0:THeap) (a1:Int):Option Bool:=bnd (Qei N a0) fun y1=>bif (!y1) then some false else bnd (QdM N a0 a1) fun y2=>bif (!y2) then some false else bnd (Qbw N a0 a1 N 0 0) fun y7=>bnd (QeV N a0 a1) fun y8=>bnd (getI a0.Pages y8) fun p9=>bif (p9.Kind==1) then (bif (p9.Pins==0) then some (decide (y7>=(wI (a0.Conf.Pages.tdiv 4)))) else some false) else some false
def QfG (N:Nat) (a0:THeap) (a1:List TPin) (a2:Int):Option (THeap×List TPin×Int×Int):=bnd (Qeo N a0 a1) fun y1=>bif (!y1) then some ((THeap.mk (TConf.mk 0 0) [] [] 0 0),[],0,19) else bif (a2==0) then some ((THeap.mk (TConf.mk 0 0) [] [] 0 0),[],0,5) else bnd (QdM N a0 a2) fun y2=>bif (!y2) then some ((THeap.mk (TConf.mk 0 0) [] [] 0 0),[],0,1) else bnd (Qf3 N a1 a2) fun y3=>jn (fun (_:Unit)=>grd (a1.length*16<=140737488355328) <| jn (fun (x11:List TPin)=>bnd (Qcg N a0 a2 1) fun y12=>some (y12,x11,(wU (a2+1)),0)) fun j2=>bif (decide (y3>=0)) then (bnd (getI a1 y3) fun p9=>bnd (getI a1 y3) fun p10=>j2 (a1.set y3.toNat (TPin.mk p10.Ref (wI (p9.Count+1))))) else grd ((a1.length+1)*16<=140737488355328) <| j2 (a1++[(TPin.mk a2 1)])) fun j1=>bif (decide (y3>=0)) then (bnd (getI a1 y3) fun p4=>bif (p4.Count==1000) then some ((THeap.mk (TConf.mk 0 0) [] [] 0 0),[],0,18) else bif (decide (y3<0)) then (bif (((a1.length:Nat):Int)==64) then some ((THeap.mk (TConf.mk 0 0) [] [] 0 0),[],0,18) else bnd (Qcw N a0 a2) fun y5=>bif y5 then some ((THeap.mk (TConf.mk 0 0) [] [] 0 0),[],0,18) else j1 ()) else bnd (Qcw N a0 a2) fun y6=>bif y6 then some ((THeap.mk (TConf.mk 0 0) [] [] 0 0),[],0,18) else j1 ()) else bif (decide (y3<0)) then (bif (((a1.length:Nat):Int)==64) then some ((THeap.mk (TConf.mk 0 0) [] [] 0 0),[],0,18) else bnd (Qcw N a0 a2) fun y7=>bif y7 then some ((THeap.mk (TConf.mk 0 0) [] [] 0 0),[],0,18) else j1 ()) else bnd (Qcw N a0 a2) fun y8=>bif y8 then some ((THeap.mk (TConf.mk 0 0) [] [] 0 0),[],0,18) else j1 ()
def Qe2 (N:Nat) (a0:TEnv) (a1:Int) (a2:Int):Option (TEnv×Int×Int):=bnd (Qcf N a0 a2) fun y1=>bif (y1.2 != 0) then (bnd (Qac N y1.2) fun y2=>some (y2.1,y2.2.1,y2.2.2)) else bif (a1==20) then (bnd (Qdm N a0.Heap a0.Pins y1.1) fun y3=>bif (y3.2.2 != 0) then (bnd (Qac N y3.2.2) fun y4=>some (y4.1,y4.2.1,y4.2.2)) else some ((TEnv.mk y3.1 a0.Locals a0.Globals a0.Weaks y3.2.1 a0.Roots),0,0)) else bnd (QfG N a0.Heap a0.Pins y1.1) fun y5=>bif (y5.2.2.2 != 0) then (bnd (Qac N y5.2.2.2) fun y6=>some (y6.1,y6.2.1,y6.2.2)) else some ((TEnv.mk y5.1 a0.Locals a0.Globals a0.Weaks y5.2.1 a0.Roots),y5.2.2.1,0)
def Qe3 (N:Nat) (a0:TEnv) (a1:Int) (a2:Int) (a3:Int) (a4:Int):Option (TEnv×Int×Int):=bnd (Qdy N a0) fun y1=>bif (!y1) then (bnd (Qac N 19) fun y2=>some (y2.1,y2.2.1,y2.2.2)) else jn (fun (x4:Bool)=>bif x4 then (bnd (Qd5 N a0 a1 a2 a3) fun y5=>some (y5.1,y5.2.1,y5.2.2)) else jn (fun (x8:Bool)=>bif x8 then (bnd (Qev N a0 a1 a2 a3 a4) fun y9=>some (y9.1,y9.2.1,y9.2.2)) else jn (fun (x12:Bool)=>bif x12 then (bnd (Qew N a0 a1 a2 a3) fun y13=>some (y13.1,y13.2.1,y13.2.2)) else jn (fun (x14:Bool)=>bif x14 then (bnd (Qdl N a0 a1 a2) fun y15=>some (y15.1,y15.2.1,y15.2.2)) else jn (fun (x17:Bool)=>bif x17 then (bnd (Qd6 N a0 a1 a2) fun y18=>some (y18.1,y18.2.1,y18.2.2)) else jn (fun (x19:Bool)=>bif x19 then (bnd (Qd7 N a0 a1 a2) fun y20=>some (y20.1,y20.2.1,y20.2.2)) else jn (fun (x21:Bool)=>bif x21 then (bnd (Qe2 N a0 a1 a2) fun y22=>some (y22.1,y22.2.1,y22.2.2)) else bnd (Qac N 1) fun y23=>some (y23.1,y23.2.1,y23.2.2)) fun j13=>bif (a1==19) then j13 true else j13 (a1==20)) fun j12=>bif (a1==17) then j12 true else j12 (a1==18)) fun j11=>bif (a1==12) then j11 true else jn (fun (x16:Bool)=>j11 x16) fun j10=>bif (a1==14) then j10 true else j10 (a1==16)) fun j9=>bif (a1==13) then j9 true else j9 (a1==15)) fun j8=>bif (a1==4) then j8 true else jn (fun (x11:Bool)=>j8 x11) fun j7=>bif (a1==5) then j7 true else jn (fun (x10:Bool)=>j7 x10) fun j6=>bif (a1==10) then j6 true else j6 (a1==11)) fun j5=>bif (a1==6) then j5 true else jn (fun (x7:Bool)=>j5 x7) fun j4=>bif (a1==7) then j4 true else jn (fun (x6:Bool)=>j4 x6) fun j3=>bif (a1==8) then j3 true else j3 (a1==9)) fun j2=>bif (a1==1) then j2 true else jn (fun (x3:Bool)=>j2 x3) fun j1=>bif (a1==2) then j1 true else j1 (a1==3)
def Qcm (N:Nat) (a0:TPair) (a1:TDeed):Option (TPair×Int×Int):=bif (a1.Op==0) then (bnd (Qcv N a0.Env) fun y1=>jn (fun (x3:Int) (x4:Int) (x5:List Int) (x6:List TPage) (x7:Int) (x8:Int) (x9:List TSlot) (x10:List TScope) (x11:List Int) (x12:List TEntry) (x13:List TEntry) (x14:List TPin) (x15:List Int) (x16:Int) (x17:Int) (x18:List TThing) (x19:List TSlot) (x20:List TScope) (x21:List Int) (x22:List TEntry) (x23:List TEntry) (x24:List TMark) (x25:List Int)=>some ((TPair.mk (TEnv.mk (THeap.mk (TConf.mk x3 x4) x5 x6 x7 x8) (TLocals.mk x9 x10 x11) (TTable.mk x12) (TTable.mk x13) x14 x15) (TWorld.mk (TConf.mk x16 x17) x18 (TLocals.mk x19 x20 x21) (TTable.mk x22) (TTable.mk x23) x24 x25) a0.Words),0,0)) fun j1=>bif (y1.2.2==0) then (bnd (Qcs N a0.World) fun y2=>j1 y1.1.Heap.Conf.PageWords y1.1.Heap.Conf.Pages y1.1.Heap.Words y1.1.Heap.Pages y1.1.Heap.Space y1.1.Heap.Bump y1.1.Locals.Slots y1.1.Locals.Scopes y1.1.Locals.Issued y1.1.Globals.Entries y1.1.Weaks.Entries y1.1.Pins y1.1.Roots y2.1.Conf.PageWords y2.1.Conf.Pages y2.1.Things y2.1.Locals.Slots y2.1.Locals.Scopes y2.1.Locals.Issued y2.1.Globals.Entries y2.1.Weaks.Entries y2.1.Marks y2.1.Roots) else j1 a0.Env.Heap.Conf.PageWords a0.Env.Heap.Conf.Pages a0.Env.Heap.Words a0.Env.Heap.Pages a0.Env.Heap.Space a0.Env.Heap.Bump a0.Env.Locals.Slots a0.Env.Locals.Scopes a0.Env.Locals.Issued a0.Env.Globals.Entries a0.Env.Weaks.Entries a0.Env.Pins a0.Env.Roots a0.World.Conf.PageWords a0.World.Conf.Pages a0.World.Things a0.World.Locals.Slots a0.World.Locals.Scopes a0.World.Locals.Issued a0.World.Globals.Entries a0.World.Weaks.Entries a0.World.Marks a0.World.Roots) else bnd (Qe3 N a0.Env a1.Op a1.A a1.B a1.C) fun y26=>bnd (Qdg N a0.Env y26.1 a1.Op y26.2.1 y26.2.2) fun y27=>bnd (QeT N a0.World a1.Op a1.A a1.B a1.C y27) fun y28=>jn (fun (x29:Int) (x30:Int) (x31:List TThing) (x32:List TSlot) (x33:List TScope) (x34:List Int) (x35:List TEntry) (x36:List TEntry) (x37:List TMark) (x38:List Int)=>bif (y26.2.2==0) then (bif (y26.2.1 != 0) then (grd (a0.Words.length*8<=140737488355328) <| grd ((a0.Words.length+1)*8<=140737488355328) <| some ((TPair.mk y26.1 (TWorld.mk (TConf.mk x29 x30) x31 (TLocals.mk x32 x33 x34) (TTable.mk x35) (TTable.mk x36) x37 x38) (a0.Words++[y26.2.1])),y26.2.1,y26.2.2)) else some ((TPair.mk y26.1 (TWorld.mk (TConf.mk x29 x30) x31 (TLocals.mk x32 x33 x34) (TTable.mk x35) (TTable.mk x36) x37 x38) a0.Words),y26.2.1,y26.2.2)) else some ((TPair.mk a0.Env (TWorld.mk (TConf.mk x29 x30) x31 (TLocals.mk x32 x33 x34) (TTable.mk x35) (TTable.mk x36) x37 x38) a0.Words),y26.2.1,y26.2.2)) fun j2=>bif (y28.2.2==0) then j2 y28.1.Conf.PageWords y28.1.Conf.Pages y28.1.Things y28.1.Locals.Slots y28.1.Locals.Scopes y28.1.Locals.Issued y28.1.Globals.Entries y28.1.Weaks.Entries y28.1.Marks y28.1.Roots else j2 a0.World.Conf.PageWords a0.World.Conf.Pages a0.World.Things a0.World.Locals.Slots a0.World.Locals.Scopes a0.World.Locals.Issued a0.World.Globals.Entries a0.World.Weaks.Entries a0.World.Marks a0.World.Roots
def QeD (N:Nat) (a1:Int):Nat->Int->(List Int)->Int->Int->Int->(List Int)->(List TPage)->Int->Int->(List TSlot)->(List TScope)->(List Int)->(List TEntry)->(List TEntry)->(List TPin)->(List Int)->Int->Int->(List TThing)->(List TSlot)->(List TScope)->(List Int)->(List TEntry)->(List TEntry)->(List TMark)->(List Int)->(List Int)->Option (Int×Int×List Int×List TPage×Int×Int×List TSlot×List TScope×List Int×List TEntry×List TEntry×List TPin×List Int×Int×Int×List TThing×List TSlot×List TScope×List Int×List TEntry×List TEntry×List TMark×List Int×List Int)
 | 0,_,_,_,_,_,_,_,_,_,_,_,_,_,_,_,_,_,_,_,_,_,_,_,_,_,_,_=>none
 | n+1,v2,v3,v4,v5,v6,v7,v8,v9,v10,v11,v12,v13,v14,v15,v16,v17,v18,v19,v20,v21,v22,v23,v24,v25,v26,v27,v28 =>
  bif (decide (v2<a1)) then (bnd (QfK N (TTape.mk v3 v4)) fun y29 =>
   bif (!y29) then (bnd (QbI N (TPair.mk (TEnv.mk (THeap.mk (TConf.mk v5 v6) v7 v8 v9 v10) (TLocals.mk v11 v12 v13) (TTable.mk v14) (TTable.mk v15) v16 v17) (TWorld.mk (TConf.mk v18 v19) v20 (TLocals.mk v21 v22 v23) (TTable.mk v24) (TTable.mk v25) v26 v27) v28) (TTape.mk v3 v4)) fun y30 =>
    bnd (Qcm N (TPair.mk (TEnv.mk (THeap.mk (TConf.mk v5 v6) v7 v8 v9 v10) (TLocals.mk v11 v12 v13) (TTable.mk v14) (TTable.mk v15) v16 v17) (TWorld.mk (TConf.mk v18 v19) v20 (TLocals.mk v21 v22 v23) (TTable.mk v24) (TTable.mk v25) v26 v27) v28) y30.1) fun y31 =>
    QeD N a1 n (wI (v2+1)) y30.2.L y30.2.at_ y31.1.Env.Heap.Conf.PageWords y31.1.Env.Heap.Conf.Pages y31.1.Env.Heap.Words y31.1.Env.Heap.Pages y31.1.Env.Heap.Space y31.1.Env.Heap.Bump y31.1.Env.Locals.Slots y31.1.Env.Locals.Scopes y31.1.Env.Locals.Issued y31.1.Env.Globals.Entries y31.1.Env.Weaks.Entries y31.1.Env.Pins y31.1.Env.Roots y31.1.World.Conf.PageWords y31.1.World.Conf.Pages y31.1.World.Things y31.1.World.Locals.Slots y31.1.World.Locals.Scopes y31.1.World.Locals.Issued y31.1.World.Globals.Entries y31.1.World.Weaks.Entries y31.1.World.Marks y31.1.World.Roots y31.1.Words)
   else some (v5,v6,v7,v8,v9,v10,v11,v12,v13,v14,v15,v16,v17,v18,v19,v20,v21,v22,v23,v24,v25,v26,v27,v28))
  else some (v5,v6,v7,v8,v9,v10,v11,v12,v13,v14,v15,v16,v17,v18,v19,v20,v21,v22,v23,v24,v25,v26,v27,v28)
def Qf9 (N:Nat) (a0:List Int) (a1:Int):Option TPair:=bnd (QbR N (TTape.mk a0 0)) fun y1=>bnd (QeD N a1 N 0 y1.2.L y1.2.at_ y1.1.Env.Heap.Conf.PageWords y1.1.Env.Heap.Conf.Pages y1.1.Env.Heap.Words y1.1.Env.Heap.Pages y1.1.Env.Heap.Space y1.1.Env.Heap.Bump y1.1.Env.Locals.Slots y1.1.Env.Locals.Scopes y1.1.Env.Locals.Issued y1.1.Env.Globals.Entries y1.1.Env.Weaks.Entries y1.1.Env.Pins y1.1.Env.Roots y1.1.World.Conf.PageWords y1.1.World.Conf.Pages y1.1.World.Things y1.1.World.Locals.Slots y1.1.World.Locals.Scopes y1.1.World.Locals.Issued y1.1.World.Globals.Entries y1.1.World.Weaks.Entries y1.1.World.Marks y1.1.World.Roots y1.1.Words) fun y32=>some (TPair.mk (TEnv.mk (THeap.mk (TConf.mk y32.1 y32.2.1) y32.2.2.1 y32.2.2.2.1 y32.2.2.2.2.1 y32.2.2.2.2.2.1) (TLocals.mk y32.2.2.2.2.2.2.1 y32.2.2.2.2.2.2.2.1 y32.2.2.2.2.2.2.2.2.1) (TTable.mk y32.2.2.2.2.2.2.2.2.2.1) (TTable.mk y32.2.2.2.2.2.2.2.2.2.2.1) y32.2.2.2.2.2.2.2.2.2.2.2.1 y32.2.2.2.2.2.2.2.2.2.2.2.2.1) (TWorld.mk (TConf.mk y32.2.2.2.2.2.2.2.2.2.2.2.2.2.1 y32.2.2.2.2.2.2.2.2.2.2.2.2.2.2.1) y32.2.2.2.2.2.2.2.2.2.2.2.2.2.2.2.1 (TLocals.mk y32.2.2.2.2.2.2.2.2.2.2.2.2.2.2.2.2.1 y32.2.2.2.2.2.2.2.2.2.2.2.2.2.2.2.2.2.1 y32.2.2.2.2.2.2.2.2.2.2.2.2.2.2.2.2.2.2.1) (TTable.mk y32.2.2.2.2.2.2.2.2.2.2.2.2.2.2.2.2.2.2.2.1) (TTable.mk y32.2.2.2.2.2.2.2.2.2.2.2.2.2.2.2.2.2.2.2.2.1) y32.2.2.2.2.2.2.2.2.2.2.2.2.2.2.2.2.2.2.2.2.2.1 y32.2.2.2.2.2.2.2.2.2.2.2.2.2.2.2.2.2.2.2.2.2.2.1) y32.2.2.2.2.2.2.2.2.2.2.2.2.2.2.2.2.2.2.2.2.2.2.2)
def QbK (N:Nat) (a0:TConf):Option Bool:=bif (decide (a0.PageWords>=16)) then (bif (decide (a0.PageWords<=64)) then (bif ((a0.PageWords.tmod 4)==0) then (bif (decide (a0.Pages>=8)) then some (decide (a0.Pages<=64)) else some false) else some false) else some false) else some false
def QaX (N:Nat) (a1:Int):Option (List Int):=bif (decide (a1<0)) then none else bif (decide ((wI (a1-(wI 0)))>0)) then (grd (0=0∧0=0) <| grd (0<=(wI (a1-(wI 0)))∧(wI (a1-(wI 0))).toNat*8<=140737488355328) <| grd ((wI (a1-(wI 0))).toNat*8<=140737488355328) <| grd (0<=0∧0<=0∧0<=(((wI (a1-(wI 0))).toNat:Nat):Int)) <| some ((List.replicate (wI (a1-(wI 0))).toNat 0).take 0)) else some []
def QaD (N:Nat) (a0:List (List Int)):Nat->Int->Int->Option Int
 | 0,_,_=>none
 | n+1,v1,v2 =>
  bif (decide (v2<((a0.length:Nat):Int))) then (bnd (getI a0 v2) fun p3 =>
   bif (decide ((wI (v1+((p3.length:Nat):Int)))<0)) then none
   else QaD N a0 n (wI (v1+((p3.length:Nat):Int))) (wI (v2+1)))
  else some v1
def QaE (N:Nat) (a0:List (List Int)):Nat->Int->(List Int)->Option (List Int)
 | 0,_,_=>none
 | n+1,v6,v7 =>
  bif (decide (v6<((a0.length:Nat):Int))) then (bnd (getI a0 v6) fun p8 =>
   grd ((v7.length+p8.length)*8<=140737488355328) <|
   QaE N a0 n (wI (v6+1)) (v7++p8))
  else some v7
def Qa9 (N:Nat) (a0:List (List Int)):Option (List Int):=bnd (QaD N a0 N 0 0) fun y4=>bnd (QaX N y4) fun y5=>bnd (QaE N a0 N 0 y5) fun y9=>some y9
def QaA (N:Nat) (a0:Tframes):Nat->Int->Int->Option (Ex Bool Unit)
 | 0,_,_=>none
 | n+1,v1,v2 =>
  bif (decide (v2<((a0.Locals.Scopes.length:Nat):Int))) then (bnd (getI a0.Locals.Scopes v2) fun p3 =>
   bif (v2==0) then (bif (p3.From != 0) then some (.ret false)
    else bif (!p3.Base) then some (.ret false)
    else bif (decide (p3.From<v1)) then some (.ret false)
    else bif (decide (p3.From>((a0.Locals.Slots.length:Nat):Int))) then some (.ret false)
    else bif (decide (p3.Cap<0)) then some (.ret false)
    else bif (decide (p3.Cap>64)) then some (.ret false)
    else QaA N a0 n p3.From (wI (v2+1)))
   else bif (decide (p3.From<v1)) then some (.ret false)
   else bif (decide (p3.From>((a0.Locals.Slots.length:Nat):Int))) then some (.ret false)
   else bif (decide (p3.Cap<0)) then some (.ret false)
   else bif (decide (p3.Cap>64)) then some (.ret false)
   else QaA N a0 n p3.From (wI (v2+1)))
  else some (.nxt ())
def Qcz (N:Nat) (a0:Tframes):Option Bool:=jn (fun (_:Unit)=>bnd (QaA N a0 N 0 0) fun e=>exK e (fun r=>some r) fun y4=>some true) fun j1=>bif (decide (((a0.Locals.Scopes.length:Nat):Int)>64)) then some false else bif (((a0.Locals.Scopes.length:Nat):Int)==0) then (bif (decide (((a0.Locals.Slots.length:Nat):Int)>0)) then some false else j1 ()) else j1 ()
def QaI (N:Nat) (a0:Tframes):Nat->Int->Int->Option (Ex Bool Unit)
 | 0,_,_=>none
 | n+1,v1,v2 =>
  bif (decide (v2<((a0.Locals.Slots.length:Nat):Int))) then (bnd (getI a0.Locals.Slots v2) fun p3 =>
   bif (decide (p3.Stamp<=v1)) then some (.ret false)
   else bif (decide (p3.Stamp>((a0.Locals.Issued.length:Nat):Int))) then some (.ret false)
   else bnd (getI a0.Locals.Issued (wI (p3.Stamp-1))) fun p4 =>
   bif (p4 != v2) then some (.ret false)
   else bif (p3.Live==(p3.Ref==0)) then some (.ret false)
   else QaI N a0 n p3.Stamp (wI (v2+1)))
  else some (.nxt ())
def Qcn (N:Nat) (a0:Tframes):Option Bool:=bnd (QaI N a0 N 0 0) fun e=>exK e (fun r=>some r) fun y5=>some true
def QcU (N:Nat) (a0:Tframes) (a1:Int):Option (List TSlot):=bif (decide ((wI (a1+1))<((a0.Locals.Scopes.length:Nat):Int))) then (bnd (getI a0.Locals.Scopes a1) fun p1=>bnd (getI a0.Locals.Scopes (wI (a1+1))) fun p2=>grd (0<=p1.From∧p1.From<=p2.From∧p2.From<=((a0.Locals.Slots.length:Nat):Int)) <| some ((a0.Locals.Slots.drop p1.From.toNat).take (p2.From.toNat-p1.From.toNat))) else bnd (getI a0.Locals.Scopes a1) fun p3=>grd (0<=p3.From∧p3.From<=((a0.Locals.Slots.length:Nat):Int)∧((a0.Locals.Slots.length:Nat):Int)<=((a0.Locals.Slots.length:Nat):Int)) <| some (a0.Locals.Slots.drop p3.From.toNat)
def Qbb (N:Nat) (y1:List TSlot):Nat->Int->Int->Option Int
 | 0,_,_=>none
 | n+1,v2,v3 =>
  bif (decide (v3<((y1.length:Nat):Int))) then (bnd (getI y1 v3) fun p4 =>
   bif p4.Live then Qbb N y1 n (wI (v2+1)) (wI (v3+1))
   else Qbb N y1 n v2 (wI (v3+1)))
  else some v2
def Qcp (N:Nat) (a0:Tframes) (a1:Int):Option Int:=bnd (QcU N a0 a1) fun y1=>bnd (Qbb N y1 N 0 0) fun y5=>some y5
def Qfb (N:Nat) (a0:Int):Option Bool:=bif (decide (a0<0)) then some true else some (decide (a0>=4096))
def Qau (N:Nat) (a0:List Int):Nat->Int->Option (Ex Int Unit)
 | 0,_=>none
 | n+1,v1 =>
  bif (decide (v1<((a0.length:Nat):Int))) then (bnd (getI a0 v1) fun p2 =>
   bnd (Qfb N p2) fun y3 =>
   bif y3 then some (.ret v1)
   else Qau N a0 n (wI (v1+1)))
  else some (.nxt ())
def Qbk (N:Nat) (a0:List Int):Option Int:=bnd (Qau N a0 N 0) fun e=>exK e (fun r=>some r) fun y4=>some (-1)
def Qa1 (N:Nat) (a0:List Int):Option Bool:=bnd (Qbk N a0) fun y1=>some (decide (y1>=0))
def QcI (N:Nat) (a0:TLocals):Nat->Int->Option (Ex Bool Unit)
 | 0,_=>none
 | n+1,v4 =>
  bif (decide (v4<((a0.Scopes.length:Nat):Int))) then (bnd (getI a0.Scopes v4) fun p5 =>
   bnd (Qcp N (Tframes.mk a0) v4) fun y6 =>
   bif (decide (y6>p5.Cap)) then some (.ret false)
   else QcI N a0 n (wI (v4+1)))
  else some (.nxt ())
def Qch (N:Nat) (a0:TLocals):Option Bool:=bif (decide (((a0.Issued.length:Nat):Int)>4096)) then some false else bnd (Qa1 N a0.Issued) fun y1=>bif y1 then some false else bnd (Qcz N (Tframes.mk a0)) fun y2=>bif (!y2) then some false else bnd (Qcn N (Tframes.mk a0)) fun y3=>bif (!y3) then some false else bnd (QcI N a0 N 0) fun e=>exK e (fun r=>some r) fun y7=>some true
def Qdn (N:Nat) (a0:TLocals):Nat->Int->(List Int)->Option (List Int)
 | 0,_,_=>none
 | n+1,v2,v3 =>
  bif (decide (v2<((a0.Slots.length:Nat):Int))) then (bnd (getI a0.Slots v2) fun p4 =>
   bif p4.Live then (grd ((v3.length+1)*8<=140737488355328) <|
    Qdn N a0 n (wI (v2+1)) (v3++[p4.Ref]))
   else Qdn N a0 n (wI (v2+1)) v3)
  else some v3
def Qgi (N:Nat) (a0:TLocals):Option (List Int):=bnd (Qch N a0) fun y1=>bif (!y1) then some [] else bnd (Qdn N a0 N 0 []) fun y5=>some y5
def Qfc (N:Nat) (a0:TEntry):Option Bool:=bif (decide (a0.Gen<1)) then some true else bif (decide (a0.Gen>4294967295)) then some true else bif (!a0.Live) then some (a0.Ref != 0) else some false
def Qal (N:Nat) (a0:List TEntry):Nat->Int->Option (Ex Int Unit)
 | 0,_=>none
 | n+1,v1 =>
  bif (decide (v1<((a0.length:Nat):Int))) then (bnd (getI a0 v1) fun p2 =>
   bnd (Qfc N p2) fun y3 =>
   bif y3 then some (.ret v1)
   else Qal N a0 n (wI (v1+1)))
  else some (.nxt ())
def QaC (N:Nat) (a0:List TEntry):Option Int:=bnd (Qal N a0 N 0) fun e=>exK e (fun r=>some r) fun y4=>some (-1)
def Qav (N:Nat) (a0:List TEntry):Option Bool:=bnd (QaC N a0) fun y1=>some (decide (y1>=0))
def QcO (N:Nat) (a0:TTable):Option Bool:=bif (decide (((a0.Entries.length:Nat):Int)<=64)) then (bnd (Qav N a0.Entries) fun y1=>some (!y1)) else some false
def Qdo (N:Nat) (a0:TTable):Nat->Int->(List Int)->Option (List Int)
 | 0,_,_=>none
 | n+1,v2,v3 =>
  bif (decide (v2<((a0.Entries.length:Nat):Int))) then (bnd (getI a0.Entries v2) fun p4 =>
   bif p4.Live then (grd ((v3.length+1)*8<=140737488355328) <|
    Qdo N a0 n (wI (v2+1)) (v3++[p4.Ref]))
   else Qdo N a0 n (wI (v2+1)) v3)
  else some v3
def Qe4 (N:Nat) (a0:TTable):Option (List Int):=bnd (QcO N a0) fun y1=>bif (!y1) then some [] else bnd (Qdo N a0 N 0 []) fun y5=>some y5
def QaL (N:Nat) (a0:List Int) (a1:Int):Nat->Int->Option (Ex Int Unit)
 | 0,_=>none
 | n+1,v1 =>
  bif (decide (v1<((a0.length:Nat):Int))) then (bnd (getI a0 v1) fun p2 =>
   bif (a1==p2) then some (.ret v1)
   else QaL N a0 a1 n (wI (v1+1)))
  else some (.nxt ())
def Qb2 (N:Nat) (a0:List Int) (a1:Int):Option Int:=bnd (QaL N a0 a1 N 0) fun e=>exK e (fun r=>some r) fun y3=>some (-1)
def QaY (N:Nat) (a0:List Int) (a1:Int):Option Bool:=bnd (Qb2 N a0 a1) fun y1=>some (decide (y1>=0))
def QeE (N:Nat) (a0:Int):Nat->Int->Int->Option Int
 | 0,_,_=>none
 | n+1,v1,v2 =>
  bif (decide (v2<(if 64<(if a0<0 then 0 else a0) then 64 else (if a0<0 then 0 else a0)))) then QeE N a0 n (bOr .u64 (sShl .u64 v1 1) 1) (wI (v2+1))
  else some v1
def Qbx (N:Nat) (a0:Int):Option Int:=bnd (QeE N a0 N 0 0) fun y3=>some y3
def QcV (N:Nat) (a0:THeader):Option Bool:=bif (decide (a0.Kind<0)) then some false else bif (decide (a0.Kind>3)) then some false else bif (decide (a0.Length<0)) then some false else bif (decide (a0.Length>255)) then some false else bif (a0.Kind==1) then (jn (fun (x2:Bool)=>some x2) fun j1=>bif (decide (a0.Length<=32)) then (bnd (Qbx N a0.Length) fun y1=>j1 (decide ((wU a0.Map)<=y1))) else j1 false) else some ((a0.Kind==a0.Kind)&&((a0.Length==a0.Length)&&(a0.Map==0)))
def Qfo (N:Nat) (a0:THeader):Option Int:=bnd (QcV N a0) fun y1=>bif (!y1) then some 0 else some (wI (a0.Length+1))
def QcJ (N:Nat) (a0:THeader) (a1:Int):Option Bool:=bnd (QcV N a0) fun y1=>bif (!y1) then some false else bif (decide (a1<0)) then some false else bif (decide (a1>=a0.Length)) then some false else bif (a0.Kind==2) then some true else bif (a0.Kind==1) then (grd (0<=a1) <| some ((bAnd .u32 (sShr .u32 a0.Map a1) 1)==1)) else some false
def Qby (N:Nat) (a0:THeader) (y1:Int):Nat->Int->(List Int)->Option (List Int)
 | 0,_,_=>none
 | n+1,v2,v3 =>
  bif (decide (v2<y1)) then (bnd (QcJ N a0 v2) fun y4 =>
   bif y4 then (grd ((v3.length+1)*8<=140737488355328) <|
    Qby N a0 y1 n (wI (v2+1)) (v3++[v2]))
   else Qby N a0 y1 n (wI (v2+1)) v3)
  else some v3
def Qek (N:Nat) (a0:THeader):Option (List Int):=bnd (Qfo N a0) fun y1=>bnd (Qby N a0 y1 N 0 []) fun y5=>some y5
def Qc1 (N:Nat) (a0:Int) (a1:TWorld):Option Bool:=some (decide (a0>(wU ((a1.Things.length:Nat):Int))))
def Qap (N:Nat) (a0:List Int) (c0:TWorld):Nat->Int->Option (Ex Int Unit)
 | 0,_=>none
 | n+1,v1 =>
  bif (decide (v1<((a0.length:Nat):Int))) then (bnd (getI a0 v1) fun p2 =>
   bnd (Qc1 N p2 c0) fun y3 =>
   bif y3 then some (.ret v1)
   else Qap N a0 c0 n (wI (v1+1)))
  else some (.nxt ())
def QaP (N:Nat) (a0:List Int) (c0:TWorld):Option Int:=bnd (Qap N a0 c0 N 0) fun e=>exK e (fun r=>some r) fun y4=>some (-1)
def QaM (N:Nat) (a0:List Int) (c0:TWorld):Option Bool:=bnd (QaP N a0 c0) fun y1=>some (decide (y1>=0))
def QbP (N:Nat) (a0:TWorld) (a1:List Int):Option Bool:=bnd (QaM N a1 a0) fun y1=>some (!y1)
def QcP (N:Nat) (a0:Int) (a1:TWorld) (a2:TThing):Option Bool:=bnd (getI a2.Fields a0) fun p1=>bnd (QbP N a1 [p1]) fun y2=>some (!y2)
def Qas (N:Nat) (a0:List Int) (c0:TWorld) (c1:TThing):Nat->Int->Option (Ex Int Unit)
 | 0,_=>none
 | n+1,v1 =>
  bif (decide (v1<((a0.length:Nat):Int))) then (bnd (getI a0 v1) fun p2 =>
   bnd (QcP N p2 c0 c1) fun y3 =>
   bif y3 then some (.ret v1)
   else Qas N a0 c0 c1 n (wI (v1+1)))
  else some (.nxt ())
def Qbc (N:Nat) (a0:List Int) (c0:TWorld) (c1:TThing):Option Int:=bnd (Qas N a0 c0 c1 N 0) fun e=>exK e (fun r=>some r) fun y4=>some (-1)
def QaW (N:Nat) (a0:List Int) (c0:TWorld) (c1:TThing):Option Bool:=bnd (Qbc N a0 c0 c1) fun y1=>some (decide (y1>=0))
def QcW (N:Nat) (a0:TWorld) (a1:TThing):Option Bool:=bnd (QcV N a1.Header) fun y1=>bif (!y1) then some false else bif (a1.Header.Kind==0) then some false else bif (((a1.Fields.length:Nat):Int) != a1.Header.Length) then some false else bnd (Qek N a1.Header) fun y2=>bnd (QaW N y2 a0 a1) fun y3=>some (!y3)
def Qdt (N:Nat) (a0:TMark) (a1:Int):Option Bool:=some (a0.Id==a1)
def Qaj (N:Nat) (a0:List TMark) (c0:Int):Nat->Int->Option (Ex Int Unit)
 | 0,_=>none
 | n+1,v1 =>
  bif (decide (v1<((a0.length:Nat):Int))) then (bnd (getI a0 v1) fun p2 =>
   bnd (Qdt N p2 c0) fun y3 =>
   bif y3 then some (.ret v1)
   else Qaj N a0 c0 n (wI (v1+1)))
  else some (.nxt ())
def Qaw (N:Nat) (a0:List TMark) (c0:Int):Option Int:=bnd (Qaj N a0 c0 N 0) fun e=>exK e (fun r=>some r) fun y4=>some (-1)
def Qbd (N:Nat) (a0:TWorld) (a1:Int):Option Int:=bnd (Qaw N a0.Marks a1) fun y1=>some y1
def Qa6 (N:Nat) (a0:TWorld):Nat->Int->Option (Ex Bool Unit)
 | 0,_=>none
 | n+1,v1 =>
  bif (decide (v1<((a0.Marks.length:Nat):Int))) then (bnd (getI a0.Marks v1) fun p2 =>
   bif (p2.Id==0) then some (.ret false)
   else bnd (QbP N a0 [p2.Id]) fun y3 =>
   bif (!y3) then some (.ret false)
   else bif (decide (p2.Count<1)) then some (.ret false)
   else bif (decide (p2.Count>1000)) then some (.ret false)
   else bnd (Qbd N a0 p2.Id) fun y4 =>
   bif (y4 != v1) then some (.ret false)
   else Qa6 N a0 n (wI (v1+1)))
  else some (.nxt ())
def QcX (N:Nat) (a0:TWorld):Option Bool:=bnd (Qa6 N a0 N 0) fun e=>exK e (fun r=>some r) fun y5=>some (decide (((a0.Marks.length:Nat):Int)<=64))
def QcK (N:Nat) (a0:TWorld):Nat->Int->Option (Ex Bool Unit)
 | 0,_=>none
 | n+1,v7 =>
  bif (decide (v7<((a0.Things.length:Nat):Int))) then (bnd (getI a0.Things v7) fun p8 =>
   bnd (QcW N a0 p8) fun y9 =>
   bif (!y9) then some (.ret false)
   else QcK N a0 n (wI (v7+1)))
  else some (.nxt ())
def Qfp (N:Nat) (a0:TWorld):Option Bool:=bnd (QbK N a0.Conf) fun y1=>bif (!y1) then some false else bnd (Qch N a0.Locals) fun y2=>bif (!y2) then some false else bnd (QcO N a0.Globals) fun y3=>bif (!y3) then some false else bnd (QcO N a0.Weaks) fun y4=>bif (!y4) then some false else bnd (Qe4 N a0.Globals) fun y5=>bnd (QaY N y5 0) fun y6=>bif y6 then some false else bnd (QcK N a0 N 0) fun e=>exK e (fun r=>some r) fun y10=>bnd (Qgi N a0.Locals) fun y11=>bnd (Qe4 N a0.Globals) fun y12=>bnd (Qe4 N a0.Weaks) fun y13=>bnd (Qa9 N [a0.Roots,y11,y12,y13]) fun y14=>bnd (QbP N a0 y14) fun y15=>bif y15 then (bnd (QcX N a0) fun y16=>some y16) else some false
def QbL (N:Nat) (a0:Int) (a1:List Int):Nat->Int->Int->Option (Ex (List Int×Int) Unit)
 | 0,_,_=>none
 | n+1,v1,v2 =>
  bif (decide (v2<((a1.length:Nat):Int))) then (bnd (getI a1 v2) fun p3 =>
   bif (decide (p3<1)) then some (.ret ([],1))
   else bif (decide (p3>v1)) then some (.ret ([],1))
   else QbL N a0 a1 n (wI (v1-p3)) (wI (v2+1)))
  else some (.nxt ())
def QbM (N:Nat) (a1:List Int):Nat->Int->Int->(List Int)->Option (Int×List Int)
 | 0,_,_,_=>none
 | n+1,v5,v6,v7 =>
  bif (decide (v6<((a1.length:Nat):Int))) then (bnd (getI a1 v6) fun p8 =>
   bnd (Qbx N p8) fun y9 =>
   grd ((v7.length+1)*8<=140737488355328) <|
   grd (0<=p8) <|
   QbM N a1 n (sShr .u64 v5 p8) (wI (v6+1)) (v7++[(bAnd .u64 v5 y9)]))
  else some (v5,v7)
def Qf1 (N:Nat) (a0:Int) (a1:List Int):Option (List Int×Int):=bnd (QbL N a0 a1 N 64 0) fun e=>exK e (fun r=>some r) fun y4=>bnd (QbM N a1 N a0 0 []) fun y10=>bif (y10.1 != 0) then some ([],2) else some (y10.2,0)
def QeF (N:Nat) (a0:THandle):Option Bool:=bif (decide (a0.Tag<1)) then some false else bif (decide (a0.Tag>3)) then some false else bif (decide (a0.Index<0)) then some false else bif (decide (a0.Stamp<1)) then some false else bnd (Qbx N 16) fun y1=>bif (decide ((wU a0.Index)<=y1)) then (bnd (Qbx N 32) fun y2=>some (decide ((wU a0.Stamp)<=y2))) else some false
def QaN (N:Nat) (a0:Int):Option (THandle×Int):=bif (a0==0) then some ((THandle.mk 0 0 0),5) else bnd (Qf1 N a0 [2,16,32]) fun y1=>bif (y1.2 != 0) then some ((THandle.mk 0 0 0),6) else bnd (getI y1.1 0) fun p2=>bnd (getI y1.1 1) fun p3=>bnd (getI y1.1 2) fun p4=>bnd (QeF N (THandle.mk (wI p2) (wI p3) (wI p4))) fun y5=>bif (!y5) then some ((THandle.mk 0 0 0),6) else some ((THandle.mk (wI p2) (wI p3) (wI p4)),0)
def Qga (N:Nat) (a0:TLocals) (a1:Int) (a2:Int):Option (Int×Int):=bnd (Qch N a0) fun y1=>bif (!y1) then some (0,1) else bif (decide (a2<1)) then some (0,6) else bif (decide (a2>((a0.Issued.length:Nat):Int))) then some (0,6) else bnd (getI a0.Issued (wI (a2-1))) fun p2=>bif (p2 != a1) then some (0,6) else bif (decide (a1>=((a0.Slots.length:Nat):Int))) then some (0,7) else bnd (getI a0.Slots a1) fun p3=>bif (p3.Stamp != a2) then some (0,7) else bnd (getI a0.Slots a1) fun p4=>bif (!p4.Live) then some (0,8) else bnd (getI a0.Slots a1) fun p5=>some (p5.Ref,0)
def Qex (N:Nat) (a0:TTable) (a1:Int) (a2:Int):Option Int:=bnd (QcO N a0) fun y1=>bif (!y1) then some 1 else bif (decide (a1<0)) then some 6 else bif (decide (a1>=((a0.Entries.length:Nat):Int))) then some 6 else bif (decide (a2<1)) then some 6 else bnd (getI a0.Entries a1) fun p2=>bif (decide (a2>p2.Gen)) then some 6 else bnd (getI a0.Entries a1) fun p3=>bif (decide (a2<p3.Gen)) then some 8 else bnd (getI a0.Entries a1) fun p4=>bif (!p4.Live) then some 8 else some 0
def Qgb (N:Nat) (a0:TTable) (a1:Int) (a2:Int):Option (Int×Int):=bnd (Qex N a0 a1 a2) fun y1=>bif (y1 != 0) then some (0,y1) else bnd (getI a0.Entries a1) fun p2=>some (p2.Ref,0)
def Qaa (N:Nat) (a0:TWorld) (a1:Int):Option (Int×Int):=bnd (QaN N a1) fun y1=>bif (y1.2==5) then some (0,0) else bif (y1.2 != 0) then some (0,y1.2) else bif (y1.1.Tag==1) then (bnd (Qga N a0.Locals y1.1.Index y1.1.Stamp) fun y2=>some (y2.1,y2.2)) else bif (y1.1.Tag==2) then (bnd (Qgb N a0.Globals y1.1.Index y1.1.Stamp) fun y3=>some (y3.1,y3.2)) else bnd (Qgb N a0.Weaks y1.1.Index y1.1.Stamp) fun y4=>some (y4.1,y4.2)
def QaT (N:Nat) (a0:Tasked):Option (Int×THeader×Int):=bnd (Qaa N a0.World a0.a) fun y1=>bif (y1.2 != 0) then some (0,(THeader.mk 0 0 0),y1.2) else bif (y1.1==0) then some (0,(THeader.mk 0 0 0),5) else bnd (getI a0.World.Things (wU (y1.1-1))) fun p2=>some (y1.1,p2.Header,0)
def Qbr (N:Nat) (a0:Tasked) (a1:Bool):Option (TThing×Int):=bnd (QaT N a0) fun y1=>bif (y1.2.2 != 0) then some ((TThing.mk (THeader.mk 0 0 0) []),y1.2.2) else bif (decide (a0.b>=(wU y1.2.1.Length))) then some ((TThing.mk (THeader.mk 0 0 0) []),2) else bnd (QcJ N y1.2.1 (wI a0.b)) fun y2=>bif (!(y2==a1)) then some ((TThing.mk (THeader.mk 0 0 0) []),4) else bnd (getI a0.World.Things (wU (y1.1-1))) fun p3=>some (p3,0)
def Qcx (N:Nat) (a0:Tasked):Option Int:=bnd (Qbr N a0 false) fun y1=>some y1.2
def Qcy (N:Nat) (a0:Tasked):Option Int:=bnd (QaT N a0) fun y1=>some y1.2.2
def QaF (N:Nat) (a0:List TSlot):Option (List TSlot):=some a0
def Qay (N:Nat) (a0:List TScope):Option (List TScope):=some a0
def QbN (N:Nat) (a0:List Int):Option (List Int):=some a0
def QdE (N:Nat) (a0:TLocals):Option TLocals:=bnd (QaF N a0.Slots) fun y1=>bnd (Qay N a0.Scopes) fun y2=>bnd (QbN N a0.Issued) fun y3=>some (TLocals.mk y1 y2 y3)
def QaZ (N:Nat) (a0:TLocals) (a1:Int):Option (TLocals×Int×Int×Int):=bnd (Qch N a0) fun y1=>bif (!y1) then some ((TLocals.mk [] [] []),0,0,1) else bif (a1==0) then some ((TLocals.mk [] [] []),0,0,1) else bif (decide ((wI (((a0.Scopes.length:Nat):Int)-1))<0)) then some ((TLocals.mk [] [] []),0,0,9) else bnd (Qcp N (Tframes.mk a0) (wI (((a0.Scopes.length:Nat):Int)-1))) fun y2=>bnd (getI a0.Scopes (wI (((a0.Scopes.length:Nat):Int)-1))) fun p3=>bif (decide (y2>=p3.Cap)) then some ((TLocals.mk [] [] []),0,0,10) else bif (decide (((a0.Issued.length:Nat):Int)>=4096)) then some ((TLocals.mk [] [] []),0,0,18) else bnd (QdE N a0) fun y4=>grd (y4.Slots.length<=140737488355328) <| grd (y4.Issued.length<=140737488355328) <| grd ((y4.Slots.length+1)*24<=140737488355328) <| grd ((y4.Issued.length+1)*8<=140737488355328) <| some ((TLocals.mk (y4.Slots++[(TSlot.mk (wI (((y4.Issued.length:Nat):Int)+1)) a1 true)]) y4.Scopes (y4.Issued++[((y4.Slots.length:Nat):Int)])),((y4.Slots.length:Nat):Int),(wI (((y4.Issued.length:Nat):Int)+1)),0)
def QbH (N:Nat) (a0:TLocals) (a1:Int):Option Int:=bif (a1==0) then some 0 else bnd (QaZ N a0 a1) fun y1=>some y1.2.2.2
def Qfu (N:Nat) (a0:TConf):Option Int:=bnd (QbK N a0) fun y1=>bif (!y1) then some 0 else some (wI (a0.PageWords.tdiv 4))
def Qgw (N:Nat) (a0:TConf) (a1:Int):Option Int:=bnd (QbK N a0) fun y1=>bif (!y1) then some (-1) else bif (decide (a1<1)) then some (-1) else bif (decide (a1>(wI (4*a0.PageWords)))) then some (-1) else bnd (Qfu N a0) fun y2=>bif (decide (a1<=y2)) then some 0 else grd (a0.PageWords≠0) <| some (wI ((wI ((wI (a1+a0.PageWords))-1)).tdiv a0.PageWords))
def QfQ (N:Nat) (a0:TConf) (a1:THeader):Option Bool:=bnd (QcV N a1) fun y1=>bif y1 then (bif (a1.Kind != 0) then (bnd (Qfo N a1) fun y2=>bnd (Qgw N a0 y2) fun y3=>some (decide (y3>=0))) else some false) else some false
def QbQ (N:Nat) (a0:Tasked) (a1:Int):Option Int:=jn (fun (x2:Bool) (x3:Int)=>bnd (QbH N a0.World.Locals 1) fun y4=>bif (decide (((a0.World.Marks.length:Nat):Int)>0)) then some 15 else bif (!x2) then some 1 else bnd (QfQ N a0.World.Conf (THeader.mk a1 (wI (if 2147483647<a0.a then 2147483647 else a0.a)) x3)) fun y5=>bif (!y5) then some 1 else bif (y4 != 0) then some y4 else bif a0.failed then some 3 else some 0) fun j2=>bif (a1==1) then (jn (fun (x1:Bool)=>j2 x1 (wW (if 4294967295<a0.b then 4294967295 else a0.b))) fun j1=>bif (decide (a0.a<=2147483647)) then j1 (decide (a0.b<=4294967295)) else j1 false) else j2 (decide (a0.a<=2147483647)) 0
def Qfd (N:Nat) (a0:Tasked):Option Int:=bnd (QbQ N a0 1) fun y1=>some y1
def Qfe (N:Nat) (a0:Tasked):Option Int:=bnd (QbQ N a0 2) fun y1=>some y1
def Qff (N:Nat) (a0:Tasked):Option Int:=bnd (QbQ N a0 3) fun y1=>some y1
def QcY (N:Nat) (a0:Tasked):Option Int:=bnd (Qbr N a0 true) fun y1=>bif (y1.2 != 0) then some y1.2 else bnd (getI y1.1.Fields a0.b) fun p2=>bnd (QbH N a0.World.Locals p2) fun y3=>some y3
def Qfg (N:Nat) (a0:Tasked):Option Int:=bnd (Qbr N a0 true) fun y1=>bif (y1.2==0) then (bnd (Qaa N a0.World a0.c) fun y2=>some y2.2) else some y1.2
def Qfh (N:Nat) (a0:Tasked):Option Int:=bnd (Qaa N a0.World a0.a) fun y1=>bif (y1.2==0) then (bnd (Qaa N a0.World a0.b) fun y2=>some y2.2) else some y1.2
def Qfi (N:Nat) (a0:Tasked):Option Int:=bnd (Qaa N a0.World a0.a) fun y1=>bif (y1.2==0) then (bnd (QbH N a0.World.Locals y1.1) fun y2=>some y2) else some y1.2
def Qgj (N:Nat) (a0:TTable):Option (Int×Bool):=some ((((a0.Entries.findIdx? fun e=>!(e.Live||(e.Gen==4294967295))).getD a0.Entries.length:Nat):Int),((a0.Entries.findIdx? fun e=>!(e.Live||(e.Gen==4294967295))).isSome))
def Qaq (N:Nat) (a0:List TEntry):Option (List TEntry):=some a0
def Qfq (N:Nat) (a0:TTable):Option TTable:=bnd (Qaq N a0.Entries) fun y1=>some (TTable.mk y1)
def QdF (N:Nat) (a0:TTable) (a1:Int):Option (TTable×Int×Int×Int):=bnd (QcO N a0) fun y1=>bif (!y1) then some ((TTable.mk []),0,0,1) else bnd (Qgj N a0) fun y2=>jn (fun (_:Unit)=>bnd (Qfq N a0) fun y3=>jn (fun (x4:List TEntry)=>bnd (getI x4 y2.1) fun p5=>some ((TTable.mk (((x4.set y2.1.toNat (TEntry.mk (wI (p5.Gen+1)) p5.Ref p5.Live)).set y2.1.toNat (TEntry.mk (wI (p5.Gen+1)) a1 p5.Live)).set y2.1.toNat (TEntry.mk (wI (p5.Gen+1)) a1 true))),y2.1,(wI (p5.Gen+1)),0)) fun j2=>bif (!y2.2) then (grd ((y3.Entries.length+1)*24<=140737488355328) <| j2 (y3.Entries++[(TEntry.mk 0 0 false)])) else j2 y3.Entries) fun j1=>bif (!y2.2) then (bif (decide (((a0.Entries.length:Nat):Int)>=64)) then some ((TTable.mk []),0,0,18) else j1 ()) else j1 ()
def Qba (N:Nat) (a0:Tasked) (a1:TTable):Option Int:=bnd (QaT N a0) fun y1=>bif (y1.2.2==0) then (bnd (QdF N a1 y1.1) fun y2=>some y2.2.2.2) else some y1.2.2
def Qfj (N:Nat) (a0:Tasked):Option Int:=bnd (Qba N a0 a0.World.Globals) fun y1=>some y1
def QeG (N:Nat) (a0:Tasked):Option Int:=bnd (Qba N a0 a0.World.Weaks) fun y1=>some y1
def Qbs (N:Nat) (a0:Tasked) (a1:Int):Option Int:=bif (a0.a==0) then some 5 else bnd (Qaa N a0.World a0.a) fun y1=>bif (y1.2 != 0) then some y1.2 else bnd (QaN N a0.a) fun y2=>bif (y2.1.Tag != a1) then some 4 else some 0
def QeH (N:Nat) (a0:Tasked):Option Int:=bnd (Qbs N a0 1) fun y1=>some y1
def QeI (N:Nat) (a0:Tasked):Option Int:=bnd (Qbs N a0 2) fun y1=>some y1
def QeJ (N:Nat) (a0:Tasked):Option Int:=bnd (Qbs N a0 3) fun y1=>some y1
def QgI (N:Nat) (a0:TLocals) (a1:Int) (a2:Bool):Option (TLocals×Int):=bnd (Qch N a0) fun y1=>bif (!y1) then some ((TLocals.mk [] [] []),1) else bif (decide (a1<0)) then some ((TLocals.mk [] [] []),1) else bif (decide (a1>64)) then some ((TLocals.mk [] [] []),1) else jn (fun (_:Unit)=>bif (decide (((a0.Scopes.length:Nat):Int)>=64)) then some ((TLocals.mk [] [] []),17) else bnd (QdE N a0) fun y2=>grd (y2.Slots.length<=140737488355328) <| grd ((y2.Scopes.length+1)*24<=140737488355328) <| some ((TLocals.mk y2.Slots (y2.Scopes++[(TScope.mk ((y2.Slots.length:Nat):Int) a1 a2)]) y2.Issued),0)) fun j1=>bif (!a2) then (bif (((a0.Scopes.length:Nat):Int)==0) then some ((TLocals.mk [] [] []),9) else j1 ()) else j1 ()
def Qel (N:Nat) (a0:TLocals) (a1:Int):Option (TLocals×Int):=bnd (QgI N a0 a1 false) fun y1=>some (y1.1,y1.2)
def Qd8 (N:Nat) (a0:Tasked):Option Int:=bif (decide (a0.a>64)) then some 1 else bnd (Qel N a0.World.Locals (wI a0.a)) fun y1=>some y1.2
def Qgk (N:Nat) (a0:TLocals) (a1:Int):Option TLocals:=bnd (QdE N a0) fun y1=>bnd (getI y1.Scopes a1) fun p2=>grd (0<=0∧0<=p2.From∧p2.From<=((y1.Slots.length:Nat):Int)) <| grd (0<=0∧0<=a1∧a1<=((y1.Scopes.length:Nat):Int)) <| some (TLocals.mk (y1.Slots.take p2.From.toNat) (y1.Scopes.take a1.toNat) y1.Issued)
def QeQ (N:Nat) (a0:TLocals):Option (TLocals×Int):=bnd (Qch N a0) fun y1=>bif (!y1) then some ((TLocals.mk [] [] []),1) else bif (decide ((wI (((a0.Scopes.length:Nat):Int)-1))<0)) then some ((TLocals.mk [] [] []),9) else bnd (getI a0.Scopes (wI (((a0.Scopes.length:Nat):Int)-1))) fun p2=>bif p2.Base then some ((TLocals.mk [] [] []),9) else bnd (Qgk N a0 (wI (((a0.Scopes.length:Nat):Int)-1))) fun y3=>some (y3,0)
def Qem (N:Nat) (a0:Tasked):Option Int:=bnd (Qaa N a0.World a0.a) fun y1=>bif (y1.2 != 0) then some y1.2 else bnd (QeQ N a0.World.Locals) fun y2=>bif (y2.2 != 0) then some y2.2 else bnd (QbH N y2.1 y1.1) fun y3=>some y3
def Qc2 (N:Nat) (a0:Tasked):Option Int:=bnd (QaT N a0) fun y1=>bif (y1.2.2 != 0) then some y1.2.2 else bnd (Qbd N a0.World y1.1) fun y2=>bif (y2==(-1)) then (bif (decide (((a0.World.Marks.length:Nat):Int)>=64)) then some 18 else bif (y2 != (-1)) then (bnd (getI a0.World.Marks y2) fun p3=>bif (decide (p3.Count>=1000)) then some 18 else bif a0.failed then some 18 else some 0) else bif a0.failed then some 18 else some 0) else bif (y2 != (-1)) then (bnd (getI a0.World.Marks y2) fun p4=>bif (decide (p4.Count>=1000)) then some 18 else bif a0.failed then some 18 else some 0) else bif a0.failed then some 18 else some 0
def QdN (N:Nat) (a0:Tasked):Option Int:=bnd (QaT N a0) fun y1=>bif (y1.2.2==0) then (bnd (Qbd N a0.World y1.1) fun y2=>bif (y2==(-1)) then some 12 else some y1.2.2) else some y1.2.2
def Qai (N:Nat) (a0:TWorld) (a1:Int) (a2:Int) (a3:Int) (a4:Int) (a5:Bool):Option Int:=bnd (Qfp N a0) fun y1=>bif (!y1) then some 19 else bif (a1==1) then Qfd N ⟨a0,a2,a3,a4,a5⟩ else bif (a1==2) then Qfe N ⟨a0,a2,a3,a4,a5⟩ else bif (a1==3) then Qff N ⟨a0,a2,a3,a4,a5⟩ else bif (a1==4) then Qcy N ⟨a0,a2,a3,a4,a5⟩ else bif (a1==5) then Qcy N ⟨a0,a2,a3,a4,a5⟩ else bif (a1==6) then Qcx N ⟨a0,a2,a3,a4,a5⟩ else bif (a1==7) then Qcx N ⟨a0,a2,a3,a4,a5⟩ else bif (a1==8) then QcY N ⟨a0,a2,a3,a4,a5⟩ else bif (a1==9) then Qfg N ⟨a0,a2,a3,a4,a5⟩ else bif (a1==10) then Qfh N ⟨a0,a2,a3,a4,a5⟩ else bif (a1==11) then Qfi N ⟨a0,a2,a3,a4,a5⟩ else bif (a1==13) then Qfj N ⟨a0,a2,a3,a4,a5⟩ else bif (a1==15) then QeG N ⟨a0,a2,a3,a4,a5⟩ else bif (a1==12) then QeH N ⟨a0,a2,a3,a4,a5⟩ else bif (a1==14) then QeI N ⟨a0,a2,a3,a4,a5⟩ else bif (a1==16) then QeJ N ⟨a0,a2,a3,a4,a5⟩ else bif (a1==17) then Qd8 N ⟨a0,a2,a3,a4,a5⟩ else bif (a1==18) then Qem N ⟨a0,a2,a3,a4,a5⟩ else bif (a1==19) then Qc2 N ⟨a0,a2,a3,a4,a5⟩ else bif (a1==20) then QdN N ⟨a0,a2,a3,a4,a5⟩ else some 1
def QeK (N:Nat) (a0:TWorld) (a1:Int) (a2:Int) (a3:Int) (a4:Int) (a5:TFact):Option (TWorld×Int×Int):=bnd (Qai N a0 a1 a2 a3 a4 a5.Failed) fun y1=>bif (y1 != 0) then some ((TWorld.mk (TConf.mk 0 0) [] (TLocals.mk [] [] []) (TTable.mk []) (TTable.mk []) [] []),0,y1) else none
def Qaf (N:Nat) (a0:TWorld) (a1:Int):Option (Int×Int):=bnd (Qfp N a0) fun y1=>bif (!y1) then some (0,19) else bnd (Qaa N a0 a1) fun y2=>some (y2.1,y2.2)
def QaB (N:Nat) (a0:List TThing):Option (List TThing):=some a0
def QaH (N:Nat) (a0:List Int):Option (List Int):=some a0
def Qed (N:Nat) (a0:TLocals):Option TLocals:=bnd (QaF N a0.Slots) fun y1=>bnd (Qay N a0.Scopes) fun y2=>bnd (QbN N a0.Issued) fun y3=>some (TLocals.mk y1 y2 y3)
def QcZ (N:Nat) (a0:TTable):Option TTable:=bnd (Qaq N a0.Entries) fun y1=>some (TTable.mk y1)
def QaK (N:Nat) (a0:List TMark):Option (List TMark):=some a0
def QdO (N:Nat) (a0:TWorld) (y1:List TThing):Nat->Int->(List TThing)->Option (List TThing)
 | 0,_,_=>none
 | n+1,v2,v3 =>
  bif (decide (v2<((y1.length:Nat):Int))) then (bnd (getI v3 v2) fun p4 =>
   bnd (QaH N p4.Fields) fun y5 =>
   bnd (getI v3 v2) fun p6 =>
   QdO N a0 y1 n (wI (v2+1)) (v3.set v2.toNat (TThing.mk p6.Header y5)))
  else some v3
def Qar (N:Nat) (a0:TWorld):Option TWorld:=bnd (QaB N a0.Things) fun y1=>grd (y1.length<=140737488355328) <| bnd (QdO N a0 y1 N 0 y1) fun y7=>bnd (Qed N a0.Locals) fun y8=>bnd (QcZ N a0.Globals) fun y9=>bnd (QcZ N a0.Weaks) fun y10=>bnd (QaK N a0.Marks) fun y11=>bnd (QaH N a0.Roots) fun y12=>some (TWorld.mk a0.Conf y7 y8 y9 y10 y11 y12)
def Qg7 (N:Nat) (a0:Int) (a1:Int):Option Bool:=bnd (Qbx N a1) fun y1=>some ((bAndNot .u64 a0 y1)==0)
def QfH (N:Nat) (a0:List TField):Nat->Int->Int->Option (Ex (Int×Int) Unit)
 | 0,_,_=>none
 | n+1,v1,v2 =>
  bif (decide (v2<((a0.length:Nat):Int))) then (bnd (getI a0 v2) fun p3 =>
   bif (decide (p3.Width<1)) then some (.ret (0,1))
   else bif (decide (p3.Width>v1)) then some (.ret (0,1))
   else QfH N a0 n (wI (v1-p3.Width)) (wI (v2+1)))
  else some (.nxt ())
def QeL (N:Nat) (a0:List TField):Nat->Int->Int->Int->Option (Ex (Int×Int) Int)
 | 0,_,_,_=>none
 | n+1,v5,v6,v7 =>
  bif (decide (v7<((a0.length:Nat):Int))) then (bnd (getI a0 v7) fun p8 =>
   bnd (Qg7 N p8.Value p8.Width) fun y9 =>
   bif (!y9) then some (.ret (0,2))
   else grd (0<=v6) <|
   QeL N a0 n (bOr .u64 v5 (sShl .u64 p8.Value v6)) (wI (v6+p8.Width)) (wI (v7+1)))
  else some (.nxt v5)
def Qg8 (N:Nat) (a0:List TField):Option (Int×Int):=bnd (QfH N a0 N 64 0) fun e=>exK e (fun r=>some r) fun y4=>bnd (QeL N a0 N 0 0 0) fun e=>exK e (fun r=>some r) fun y10=>some (y10,0)
def Qan (N:Nat) (a0:THandle):Option (Int×Int):=bnd (QeF N a0) fun y1=>bif (!y1) then some (0,1) else bnd (Qg8 N [(TField.mk 2 (wU a0.Tag)),(TField.mk 16 (wU a0.Index)),(TField.mk 32 (wU a0.Stamp))]) fun y2=>some (y2.1,y2.2)
def QdP (N:Nat) (a0:TWorld) (a2:Int) (a3:Int) (a4:Int) (a5:TFact):Option (TWorld×Int×Int):=bnd (Qai N a0 1 a2 a3 a4 a5.Failed) fun y1=>bif (y1 != 0) then some ((TWorld.mk (TConf.mk 0 0) [] (TLocals.mk [] [] []) (TTable.mk []) (TTable.mk []) [] []),0,y1) else bnd (Qaf N a0 a2) fun y2=>bnd (Qar N a0) fun y3=>jn (fun (x23:Int) (x24:Int) (x25:List TSlot) (x26:List TScope) (x27:List Int)=>bif (x24 != 0) then some ((TWorld.mk (TConf.mk 0 0) [] (TLocals.mk [] [] []) (TTable.mk []) (TTable.mk []) [] []),0,x24) else some ((TWorld.mk y3.Conf (y3.Things++[(TThing.mk (THeader.mk 1 (wI a2) (wW a3)) (List.replicate (wI a2).toNat 0))]) (TLocals.mk x25 x26 x27) y3.Globals y3.Weaks y3.Marks y3.Roots),x23,0)) fun j3=>bif (y2.1 != 0) then (bnd (getI y3.Things (wU (y2.1-1))) fun p4=>bif a5.Collected then none else grd (0<=(wI a2)∧(wI a2).toNat*8<=140737488355328) <| grd ((y3.Things.length+1)*48<=140737488355328) <| grd ((y3.Things.length+1)<=140737488355328) <| jn (fun (x11:Int) (x12:Int) (x13:List TSlot) (x14:List TScope) (x15:List Int)=>j3 x11 x12 x13 x14 x15) fun j1=>bif ((wU (((y3.Things.length+1):Nat):Int))==0) then j1 0 0 y3.Locals.Slots y3.Locals.Scopes y3.Locals.Issued else bnd (QaZ N y3.Locals (wU (((y3.Things.length+1):Nat):Int))) fun y9=>bif (y9.2.2.2 != 0) then j1 0 y9.2.2.2 y3.Locals.Slots y3.Locals.Scopes y3.Locals.Issued else bnd (Qan N (THandle.mk 1 y9.2.1 y9.2.2.1)) fun y10=>j1 y10.1 y10.2 y9.1.Slots y9.1.Scopes y9.1.Issued) else bif a5.Collected then none else grd (0<=(wI a2)∧(wI a2).toNat*8<=140737488355328) <| grd ((y3.Things.length+1)*48<=140737488355328) <| grd ((y3.Things.length+1)<=140737488355328) <| jn (fun (x18:Int) (x19:Int) (x20:List TSlot) (x21:List TScope) (x22:List Int)=>j3 x18 x19 x20 x21 x22) fun j2=>bif ((wU (((y3.Things.length+1):Nat):Int))==0) then j2 0 0 y3.Locals.Slots y3.Locals.Scopes y3.Locals.Issued else bnd (QaZ N y3.Locals (wU (((y3.Things.length+1):Nat):Int))) fun y16=>bif (y16.2.2.2 != 0) then j2 0 y16.2.2.2 y3.Locals.Slots y3.Locals.Scopes y3.Locals.Issued else bnd (Qan N (THandle.mk 1 y16.2.1 y16.2.2.1)) fun y17=>j2 y17.1 y17.2 y16.1.Slots y16.1.Scopes y16.1.Issued
def QdQ (N:Nat) (a0:TWorld) (a2:Int) (a3:Int) (a4:Int) (a5:TFact):Option (TWorld×Int×Int):=bnd (Qai N a0 2 a2 a3 a4 a5.Failed) fun y1=>bif (y1 != 0) then some ((TWorld.mk (TConf.mk 0 0) [] (TLocals.mk [] [] []) (TTable.mk []) (TTable.mk []) [] []),0,y1) else bnd (Qaf N a0 a2) fun y2=>bnd (Qar N a0) fun y3=>jn (fun (x23:Int) (x24:Int) (x25:List TSlot) (x26:List TScope) (x27:List Int)=>bif (x24 != 0) then some ((TWorld.mk (TConf.mk 0 0) [] (TLocals.mk [] [] []) (TTable.mk []) (TTable.mk []) [] []),0,x24) else some ((TWorld.mk y3.Conf (y3.Things++[(TThing.mk (THeader.mk 2 (wI a2) 0) (List.replicate (wI a2).toNat 0))]) (TLocals.mk x25 x26 x27) y3.Globals y3.Weaks y3.Marks y3.Roots),x23,0)) fun j3=>bif (y2.1 != 0) then (bnd (getI y3.Things (wU (y2.1-1))) fun p4=>bif a5.Collected then none else grd (0<=(wI a2)∧(wI a2).toNat*8<=140737488355328) <| grd ((y3.Things.length+1)*48<=140737488355328) <| grd ((y3.Things.length+1)<=140737488355328) <| jn (fun (x11:Int) (x12:Int) (x13:List TSlot) (x14:List TScope) (x15:List Int)=>j3 x11 x12 x13 x14 x15) fun j1=>bif ((wU (((y3.Things.length+1):Nat):Int))==0) then j1 0 0 y3.Locals.Slots y3.Locals.Scopes y3.Locals.Issued else bnd (QaZ N y3.Locals (wU (((y3.Things.length+1):Nat):Int))) fun y9=>bif (y9.2.2.2 != 0) then j1 0 y9.2.2.2 y3.Locals.Slots y3.Locals.Scopes y3.Locals.Issued else bnd (Qan N (THandle.mk 1 y9.2.1 y9.2.2.1)) fun y10=>j1 y10.1 y10.2 y9.1.Slots y9.1.Scopes y9.1.Issued) else bif a5.Collected then none else grd (0<=(wI a2)∧(wI a2).toNat*8<=140737488355328) <| grd ((y3.Things.length+1)*48<=140737488355328) <| grd ((y3.Things.length+1)<=140737488355328) <| jn (fun (x18:Int) (x19:Int) (x20:List TSlot) (x21:List TScope) (x22:List Int)=>j3 x18 x19 x20 x21 x22) fun j2=>bif ((wU (((y3.Things.length+1):Nat):Int))==0) then j2 0 0 y3.Locals.Slots y3.Locals.Scopes y3.Locals.Issued else bnd (QaZ N y3.Locals (wU (((y3.Things.length+1):Nat):Int))) fun y16=>bif (y16.2.2.2 != 0) then j2 0 y16.2.2.2 y3.Locals.Slots y3.Locals.Scopes y3.Locals.Issued else bnd (Qan N (THandle.mk 1 y16.2.1 y16.2.2.1)) fun y17=>j2 y17.1 y17.2 y16.1.Slots y16.1.Scopes y16.1.Issued
def QdR (N:Nat) (a0:TWorld) (a2:Int) (a3:Int) (a4:Int) (a5:TFact):Option (TWorld×Int×Int):=bnd (Qai N a0 3 a2 a3 a4 a5.Failed) fun y1=>bif (y1 != 0) then some ((TWorld.mk (TConf.mk 0 0) [] (TLocals.mk [] [] []) (TTable.mk []) (TTable.mk []) [] []),0,y1) else bnd (Qaf N a0 a2) fun y2=>bnd (Qar N a0) fun y3=>jn (fun (x23:Int) (x24:Int) (x25:List TSlot) (x26:List TScope) (x27:List Int)=>bif (x24 != 0) then some ((TWorld.mk (TConf.mk 0 0) [] (TLocals.mk [] [] []) (TTable.mk []) (TTable.mk []) [] []),0,x24) else some ((TWorld.mk y3.Conf (y3.Things++[(TThing.mk (THeader.mk 3 (wI a2) 0) (List.replicate (wI a2).toNat 0))]) (TLocals.mk x25 x26 x27) y3.Globals y3.Weaks y3.Marks y3.Roots),x23,0)) fun j3=>bif (y2.1 != 0) then (bnd (getI y3.Things (wU (y2.1-1))) fun p4=>bif a5.Collected then none else grd (0<=(wI a2)∧(wI a2).toNat*8<=140737488355328) <| grd ((y3.Things.length+1)*48<=140737488355328) <| grd ((y3.Things.length+1)<=140737488355328) <| jn (fun (x11:Int) (x12:Int) (x13:List TSlot) (x14:List TScope) (x15:List Int)=>j3 x11 x12 x13 x14 x15) fun j1=>bif ((wU (((y3.Things.length+1):Nat):Int))==0) then j1 0 0 y3.Locals.Slots y3.Locals.Scopes y3.Locals.Issued else bnd (QaZ N y3.Locals (wU (((y3.Things.length+1):Nat):Int))) fun y9=>bif (y9.2.2.2 != 0) then j1 0 y9.2.2.2 y3.Locals.Slots y3.Locals.Scopes y3.Locals.Issued else bnd (Qan N (THandle.mk 1 y9.2.1 y9.2.2.1)) fun y10=>j1 y10.1 y10.2 y9.1.Slots y9.1.Scopes y9.1.Issued) else bif a5.Collected then none else grd (0<=(wI a2)∧(wI a2).toNat*8<=140737488355328) <| grd ((y3.Things.length+1)*48<=140737488355328) <| grd ((y3.Things.length+1)<=140737488355328) <| jn (fun (x18:Int) (x19:Int) (x20:List TSlot) (x21:List TScope) (x22:List Int)=>j3 x18 x19 x20 x21 x22) fun j2=>bif ((wU (((y3.Things.length+1):Nat):Int))==0) then j2 0 0 y3.Locals.Slots y3.Locals.Scopes y3.Locals.Issued else bnd (QaZ N y3.Locals (wU (((y3.Things.length+1):Nat):Int))) fun y16=>bif (y16.2.2.2 != 0) then j2 0 y16.2.2.2 y3.Locals.Slots y3.Locals.Scopes y3.Locals.Issued else bnd (Qan N (THandle.mk 1 y16.2.1 y16.2.2.1)) fun y17=>j2 y17.1 y17.2 y16.1.Slots y16.1.Scopes y16.1.Issued
def QdS (N:Nat) (a0:TWorld) (a2:Int) (a3:Int) (a4:Int) (a5:TFact):Option (TWorld×Int×Int):=bnd (Qai N a0 4 a2 a3 a4 a5.Failed) fun y1=>bif (y1 != 0) then some ((TWorld.mk (TConf.mk 0 0) [] (TLocals.mk [] [] []) (TTable.mk []) (TTable.mk []) [] []),0,y1) else bnd (Qaf N a0 a2) fun y2=>bnd (Qar N a0) fun y3=>bif (y2.1 != 0) then (bnd (getI y3.Things (wU (y2.1-1))) fun p4=>some (y3,(wU p4.Header.Length),0)) else none
def QdT (N:Nat) (a0:TWorld) (a2:Int) (a3:Int) (a4:Int) (a5:TFact):Option (TWorld×Int×Int):=bnd (Qai N a0 5 a2 a3 a4 a5.Failed) fun y1=>bif (y1 != 0) then some ((TWorld.mk (TConf.mk 0 0) [] (TLocals.mk [] [] []) (TTable.mk []) (TTable.mk []) [] []),0,y1) else bnd (Qaf N a0 a2) fun y2=>bnd (Qar N a0) fun y3=>bif (y2.1 != 0) then (bnd (getI y3.Things (wU (y2.1-1))) fun p4=>some (y3,(wU p4.Header.Kind),0)) else none
def QdU (N:Nat) (a0:TWorld) (a2:Int) (a3:Int) (a4:Int) (a5:TFact):Option (TWorld×Int×Int):=bnd (Qai N a0 6 a2 a3 a4 a5.Failed) fun y1=>bif (y1 != 0) then some ((TWorld.mk (TConf.mk 0 0) [] (TLocals.mk [] [] []) (TTable.mk []) (TTable.mk []) [] []),0,y1) else bnd (Qaf N a0 a2) fun y2=>bnd (Qar N a0) fun y3=>bif (y2.1 != 0) then (bnd (getI y3.Things (wU (y2.1-1))) fun p4=>bnd (getI p4.Fields a3) fun p5=>some (y3,p5,0)) else none
def QdV (N:Nat) (a0:TWorld) (a2:Int) (a3:Int) (a4:Int) (a5:TFact):Option (TWorld×Int×Int):=bnd (Qai N a0 7 a2 a3 a4 a5.Failed) fun y1=>bif (y1 != 0) then some ((TWorld.mk (TConf.mk 0 0) [] (TLocals.mk [] [] []) (TTable.mk []) (TTable.mk []) [] []),0,y1) else bnd (Qaf N a0 a2) fun y2=>bif (y2.1 != 0) then bnd (getI a0.Things (wU (y2.1-1))) fun p4=>bnd (getI p4.Fields a3) fun p5=>some ((TWorld.mk a0.Conf (a0.Things.set (wU (y2.1-1)).toNat (TThing.mk p4.Header (p4.Fields.set a3.toNat a4))) a0.Locals a0.Globals a0.Weaks a0.Marks a0.Roots),0,0) else none
def QdW (N:Nat) (a0:TWorld) (a2:Int) (a3:Int) (a4:Int) (a5:TFact):Option (TWorld×Int×Int):=bnd (Qai N a0 8 a2 a3 a4 a5.Failed) fun y1=>bif (y1 != 0) then some ((TWorld.mk (TConf.mk 0 0) [] (TLocals.mk [] [] []) (TTable.mk []) (TTable.mk []) [] []),0,y1) else bnd (Qaf N a0 a2) fun y2=>bnd (Qar N a0) fun y3=>bif (y2.1 != 0) then (bnd (getI y3.Things (wU (y2.1-1))) fun p4=>bnd (getI p4.Fields a3) fun p5=>jn (fun (x8:Int) (x9:Int) (x10:List TSlot) (x11:List TScope) (x12:List Int)=>bif (x9 != 0) then some ((TWorld.mk (TConf.mk 0 0) [] (TLocals.mk [] [] []) (TTable.mk []) (TTable.mk []) [] []),0,x9) else some ((TWorld.mk y3.Conf y3.Things (TLocals.mk x10 x11 x12) y3.Globals y3.Weaks y3.Marks y3.Roots),x8,0)) fun j1=>bif (p5==0) then j1 0 0 y3.Locals.Slots y3.Locals.Scopes y3.Locals.Issued else bnd (QaZ N y3.Locals p5) fun y6=>bif (y6.2.2.2 != 0) then j1 0 y6.2.2.2 y3.Locals.Slots y3.Locals.Scopes y3.Locals.Issued else bnd (Qan N (THandle.mk 1 y6.2.1 y6.2.2.1)) fun y7=>j1 y7.1 y7.2 y6.1.Slots y6.1.Scopes y6.1.Issued) else none
def QdX (N:Nat) (a0:TWorld) (a2:Int) (a3:Int) (a4:Int) (a5:TFact):Option (TWorld×Int×Int):=bnd (Qai N a0 9 a2 a3 a4 a5.Failed) fun y1=>bif (y1 != 0) then some ((TWorld.mk (TConf.mk 0 0) [] (TLocals.mk [] [] []) (TTable.mk []) (TTable.mk []) [] []),0,y1) else bnd (Qaf N a0 a2) fun y2=>bif (y2.1 != 0) then bnd (getI a0.Things (wU (y2.1-1))) fun p4=>bnd (getI p4.Fields a3) fun p5=>bnd (Qaf N a0 a4) fun y6=>bif (y6.2 != 0) then some ((TWorld.mk (TConf.mk 0 0) [] (TLocals.mk [] [] []) (TTable.mk []) (TTable.mk []) [] []),0,y6.2) else some ((TWorld.mk a0.Conf (a0.Things.set (wU (y2.1-1)).toNat (TThing.mk p4.Header (p4.Fields.set a3.toNat y6.1))) a0.Locals a0.Globals a0.Weaks a0.Marks a0.Roots),0,0) else none
def Qc3 (N:Nat) (a0:TWorld) (a2:Int) (a3:Int) (a4:Int) (a5:TFact):Option (TWorld×Int×Int):=bnd (Qai N a0 10 a2 a3 a4 a5.Failed) fun y1=>bif (y1 != 0) then some ((TWorld.mk (TConf.mk 0 0) [] (TLocals.mk [] [] []) (TTable.mk []) (TTable.mk []) [] []),0,y1) else bnd (Qaf N a0 a2) fun y2=>bnd (Qar N a0) fun y3=>jn (fun (x13:Int)=>some (y3,x13,0)) fun j3=>bif (y2.1 != 0) then (bnd (getI y3.Things (wU (y2.1-1))) fun p4=>bnd (Qaf N y3 a3) fun y9=>jn (fun (x10:Int)=>j3 x10) fun j1=>bif (y9.1==y2.1) then j1 1 else j1 0) else bnd (Qaf N y3 a3) fun y11=>jn (fun (x12:Int)=>j3 x12) fun j2=>bif (y11.1==y2.1) then j2 1 else j2 0
def Qc4 (N:Nat) (a0:TWorld) (a2:Int) (a3:Int) (a4:Int) (a5:TFact):Option (TWorld×Int×Int):=bnd (Qai N a0 11 a2 a3 a4 a5.Failed) fun y1=>bif (y1 != 0) then some ((TWorld.mk (TConf.mk 0 0) [] (TLocals.mk [] [] []) (TTable.mk []) (TTable.mk []) [] []),0,y1) else bnd (Qaf N a0 a2) fun y2=>bnd (Qar N a0) fun y3=>jn (fun (x23:Int) (x24:Int) (x25:List TSlot) (x26:List TScope) (x27:List Int)=>bif (x24 != 0) then some ((TWorld.mk (TConf.mk 0 0) [] (TLocals.mk [] [] []) (TTable.mk []) (TTable.mk []) [] []),0,x24) else some ((TWorld.mk y3.Conf y3.Things (TLocals.mk x25 x26 x27) y3.Globals y3.Weaks y3.Marks y3.Roots),x23,0)) fun j3=>bif (y2.1 != 0) then (bnd (getI y3.Things (wU (y2.1-1))) fun p4=>jn (fun (x11:Int) (x12:Int) (x13:List TSlot) (x14:List TScope) (x15:List Int)=>j3 x11 x12 x13 x14 x15) fun j1=>bif (y2.1==0) then j1 0 0 y3.Locals.Slots y3.Locals.Scopes y3.Locals.Issued else bnd (QaZ N y3.Locals y2.1) fun y9=>bif (y9.2.2.2 != 0) then j1 0 y9.2.2.2 y3.Locals.Slots y3.Locals.Scopes y3.Locals.Issued else bnd (Qan N (THandle.mk 1 y9.2.1 y9.2.2.1)) fun y10=>j1 y10.1 y10.2 y9.1.Slots y9.1.Scopes y9.1.Issued) else jn (fun (x18:Int) (x19:Int) (x20:List TSlot) (x21:List TScope) (x22:List Int)=>j3 x18 x19 x20 x21 x22) fun j2=>bif (y2.1==0) then j2 0 0 y3.Locals.Slots y3.Locals.Scopes y3.Locals.Issued else bnd (QaZ N y3.Locals y2.1) fun y16=>bif (y16.2.2.2 != 0) then j2 0 y16.2.2.2 y3.Locals.Slots y3.Locals.Scopes y3.Locals.Issued else bnd (Qan N (THandle.mk 1 y16.2.1 y16.2.2.1)) fun y17=>j2 y17.1 y17.2 y16.1.Slots y16.1.Scopes y16.1.Issued
def Qbz (N:Nat) (a0:TLocals) (a1:Int) (a2:Int):Option (TLocals×Int):=bnd (Qga N a0 a1 a2) fun y1=>bif (y1.2 != 0) then some ((TLocals.mk [] [] []),y1.2) else bnd (QdE N a0) fun y2=>bnd (getI y2.Slots a1) fun p3=>bnd (getI (y2.Slots.set a1.toNat (TSlot.mk p3.Stamp 0 p3.Live)) a1) fun p4=>some ((TLocals.mk ((y2.Slots.set a1.toNat (TSlot.mk p3.Stamp 0 p3.Live)).set a1.toNat (TSlot.mk p4.Stamp p4.Ref false)) y2.Scopes y2.Issued),0)
def Qax (N:Nat) (a0:TTable) (a1:Int) (a2:Int):Option (TTable×Int):=bnd (Qex N a0 a1 a2) fun y1=>bif (y1 != 0) then some ((TTable.mk []),y1) else bnd (Qfq N a0) fun y2=>bnd (getI y2.Entries a1) fun p3=>bnd (getI (y2.Entries.set a1.toNat (TEntry.mk p3.Gen 0 p3.Live)) a1) fun p4=>some ((TTable.mk ((y2.Entries.set a1.toNat (TEntry.mk p3.Gen 0 p3.Live)).set a1.toNat (TEntry.mk p4.Gen p4.Ref false))),0)
def Qc5 (N:Nat) (a0:TWorld) (a2:Int) (a3:Int) (a4:Int) (a5:TFact):Option (TWorld×Int×Int):=bnd (Qai N a0 12 a2 a3 a4 a5.Failed) fun y1=>bif (y1 != 0) then some ((TWorld.mk (TConf.mk 0 0) [] (TLocals.mk [] [] []) (TTable.mk []) (TTable.mk []) [] []),0,y1) else bnd (Qaf N a0 a2) fun y2=>bnd (Qar N a0) fun y3=>jn (fun (x47:Int) (x48:List TSlot) (x49:List TScope) (x50:List Int) (x51:List TEntry) (x52:List TEntry)=>bif (x47 != 0) then some ((TWorld.mk (TConf.mk 0 0) [] (TLocals.mk [] [] []) (TTable.mk []) (TTable.mk []) [] []),0,x47) else some ((TWorld.mk y3.Conf y3.Things (TLocals.mk x48 x49 x50) (TTable.mk x51) (TTable.mk x52) y3.Marks y3.Roots),0,0)) fun j7=>bif (y2.1 != 0) then (bnd (getI y3.Things (wU (y2.1-1))) fun p4=>jn (fun (x22:Int) (x23:List TSlot) (x24:List TScope) (x25:List Int) (x26:List TEntry) (x27:List TEntry)=>j7 x22 x23 x24 x25 x26 x27) fun j3=>bnd (QaN N a2) fun y9=>bif (y9.2 != 0) then j3 y9.2 y3.Locals.Slots y3.Locals.Scopes y3.Locals.Issued y3.Globals.Entries y3.Weaks.Entries else jn (fun (x16:Int) (x17:List TSlot) (x18:List TScope) (x19:List Int) (x20:List TEntry) (x21:List TEntry)=>j3 x16 x17 x18 x19 x20 x21) fun j2=>bif (y9.1.Tag==1) then (bnd (Qbz N y3.Locals y9.1.Index y9.1.Stamp) fun y10=>j2 y10.2 y10.1.Slots y10.1.Scopes y10.1.Issued y3.Globals.Entries y3.Weaks.Entries) else jn (fun (x13:Int) (x14:List TEntry) (x15:List TEntry)=>j2 x13 y3.Locals.Slots y3.Locals.Scopes y3.Locals.Issued x14 x15) fun j1=>bif (y9.1.Tag==2) then (bnd (Qax N y3.Globals y9.1.Index y9.1.Stamp) fun y11=>j1 y11.2 y11.1.Entries y3.Weaks.Entries) else bnd (Qax N y3.Weaks y9.1.Index y9.1.Stamp) fun y12=>j1 y12.2 y3.Globals.Entries y12.1.Entries) else jn (fun (x41:Int) (x42:List TSlot) (x43:List TScope) (x44:List Int) (x45:List TEntry) (x46:List TEntry)=>j7 x41 x42 x43 x44 x45 x46) fun j6=>bnd (QaN N a2) fun y28=>bif (y28.2 != 0) then j6 y28.2 y3.Locals.Slots y3.Locals.Scopes y3.Locals.Issued y3.Globals.Entries y3.Weaks.Entries else jn (fun (x35:Int) (x36:List TSlot) (x37:List TScope) (x38:List Int) (x39:List TEntry) (x40:List TEntry)=>j6 x35 x36 x37 x38 x39 x40) fun j5=>bif (y28.1.Tag==1) then (bnd (Qbz N y3.Locals y28.1.Index y28.1.Stamp) fun y29=>j5 y29.2 y29.1.Slots y29.1.Scopes y29.1.Issued y3.Globals.Entries y3.Weaks.Entries) else jn (fun (x32:Int) (x33:List TEntry) (x34:List TEntry)=>j5 x32 y3.Locals.Slots y3.Locals.Scopes y3.Locals.Issued x33 x34) fun j4=>bif (y28.1.Tag==2) then (bnd (Qax N y3.Globals y28.1.Index y28.1.Stamp) fun y30=>j4 y30.2 y30.1.Entries y3.Weaks.Entries) else bnd (Qax N y3.Weaks y28.1.Index y28.1.Stamp) fun y31=>j4 y31.2 y3.Globals.Entries y31.1.Entries
def Qc6 (N:Nat) (a0:TWorld) (a2:Int) (a3:Int) (a4:Int) (a5:TFact):Option (TWorld×Int×Int):=bnd (Qai N a0 13 a2 a3 a4 a5.Failed) fun y1=>bif (y1 != 0) then some ((TWorld.mk (TConf.mk 0 0) [] (TLocals.mk [] [] []) (TTable.mk []) (TTable.mk []) [] []),0,y1) else bnd (Qaf N a0 a2) fun y2=>bnd (Qar N a0) fun y3=>jn (fun (x19:Int) (x20:Int) (x21:List TEntry)=>bif (x20 != 0) then some ((TWorld.mk (TConf.mk 0 0) [] (TLocals.mk [] [] []) (TTable.mk []) (TTable.mk []) [] []),0,x20) else some ((TWorld.mk y3.Conf y3.Things y3.Locals (TTable.mk x21) y3.Weaks y3.Marks y3.Roots),x19,0)) fun j3=>bif (y2.1 != 0) then (bnd (getI y3.Things (wU (y2.1-1))) fun p4=>jn (fun (x11:Int) (x12:Int) (x13:List TEntry)=>j3 x11 x12 x13) fun j1=>bnd (QdF N y3.Globals y2.1) fun y9=>bif (y9.2.2.2 != 0) then j1 0 y9.2.2.2 y3.Globals.Entries else bnd (Qan N (THandle.mk 2 y9.2.1 y9.2.2.1)) fun y10=>j1 y10.1 y10.2 y9.1.Entries) else jn (fun (x16:Int) (x17:Int) (x18:List TEntry)=>j3 x16 x17 x18) fun j2=>bnd (QdF N y3.Globals y2.1) fun y14=>bif (y14.2.2.2 != 0) then j2 0 y14.2.2.2 y3.Globals.Entries else bnd (Qan N (THandle.mk 2 y14.2.1 y14.2.2.1)) fun y15=>j2 y15.1 y15.2 y14.1.Entries
def Qc7 (N:Nat) (a0:TWorld) (a2:Int) (a3:Int) (a4:Int) (a5:TFact):Option (TWorld×Int×Int):=bnd (Qai N a0 14 a2 a3 a4 a5.Failed) fun y1=>bif (y1 != 0) then some ((TWorld.mk (TConf.mk 0 0) [] (TLocals.mk [] [] []) (TTable.mk []) (TTable.mk []) [] []),0,y1) else bnd (Qaf N a0 a2) fun y2=>bnd (Qar N a0) fun y3=>jn (fun (x47:Int) (x48:List TSlot) (x49:List TScope) (x50:List Int) (x51:List TEntry) (x52:List TEntry)=>bif (x47 != 0) then some ((TWorld.mk (TConf.mk 0 0) [] (TLocals.mk [] [] []) (TTable.mk []) (TTable.mk []) [] []),0,x47) else some ((TWorld.mk y3.Conf y3.Things (TLocals.mk x48 x49 x50) (TTable.mk x51) (TTable.mk x52) y3.Marks y3.Roots),0,0)) fun j7=>bif (y2.1 != 0) then (bnd (getI y3.Things (wU (y2.1-1))) fun p4=>jn (fun (x22:Int) (x23:List TSlot) (x24:List TScope) (x25:List Int) (x26:List TEntry) (x27:List TEntry)=>j7 x22 x23 x24 x25 x26 x27) fun j3=>bnd (QaN N a2) fun y9=>bif (y9.2 != 0) then j3 y9.2 y3.Locals.Slots y3.Locals.Scopes y3.Locals.Issued y3.Globals.Entries y3.Weaks.Entries else jn (fun (x16:Int) (x17:List TSlot) (x18:List TScope) (x19:List Int) (x20:List TEntry) (x21:List TEntry)=>j3 x16 x17 x18 x19 x20 x21) fun j2=>bif (y9.1.Tag==1) then (bnd (Qbz N y3.Locals y9.1.Index y9.1.Stamp) fun y10=>j2 y10.2 y10.1.Slots y10.1.Scopes y10.1.Issued y3.Globals.Entries y3.Weaks.Entries) else jn (fun (x13:Int) (x14:List TEntry) (x15:List TEntry)=>j2 x13 y3.Locals.Slots y3.Locals.Scopes y3.Locals.Issued x14 x15) fun j1=>bif (y9.1.Tag==2) then (bnd (Qax N y3.Globals y9.1.Index y9.1.Stamp) fun y11=>j1 y11.2 y11.1.Entries y3.Weaks.Entries) else bnd (Qax N y3.Weaks y9.1.Index y9.1.Stamp) fun y12=>j1 y12.2 y3.Globals.Entries y12.1.Entries) else jn (fun (x41:Int) (x42:List TSlot) (x43:List TScope) (x44:List Int) (x45:List TEntry) (x46:List TEntry)=>j7 x41 x42 x43 x44 x45 x46) fun j6=>bnd (QaN N a2) fun y28=>bif (y28.2 != 0) then j6 y28.2 y3.Locals.Slots y3.Locals.Scopes y3.Locals.Issued y3.Globals.Entries y3.Weaks.Entries else jn (fun (x35:Int) (x36:List TSlot) (x37:List TScope) (x38:List Int) (x39:List TEntry) (x40:List TEntry)=>j6 x35 x36 x37 x38 x39 x40) fun j5=>bif (y28.1.Tag==1) then (bnd (Qbz N y3.Locals y28.1.Index y28.1.Stamp) fun y29=>j5 y29.2 y29.1.Slots y29.1.Scopes y29.1.Issued y3.Globals.Entries y3.Weaks.Entries) else jn (fun (x32:Int) (x33:List TEntry) (x34:List TEntry)=>j5 x32 y3.Locals.Slots y3.Locals.Scopes y3.Locals.Issued x33 x34) fun j4=>bif (y28.1.Tag==2) then (bnd (Qax N y3.Globals y28.1.Index y28.1.Stamp) fun y30=>j4 y30.2 y30.1.Entries y3.Weaks.Entries) else bnd (Qax N y3.Weaks y28.1.Index y28.1.Stamp) fun y31=>j4 y31.2 y3.Globals.Entries y31.1.Entries
def Qc8 (N:Nat) (a0:TWorld) (a2:Int) (a3:Int) (a4:Int) (a5:TFact):Option (TWorld×Int×Int):=bnd (Qai N a0 15 a2 a3 a4 a5.Failed) fun y1=>bif (y1 != 0) then some ((TWorld.mk (TConf.mk 0 0) [] (TLocals.mk [] [] []) (TTable.mk []) (TTable.mk []) [] []),0,y1) else bnd (Qaf N a0 a2) fun y2=>bnd (Qar N a0) fun y3=>jn (fun (x19:Int) (x20:Int) (x21:List TEntry)=>bif (x20 != 0) then some ((TWorld.mk (TConf.mk 0 0) [] (TLocals.mk [] [] []) (TTable.mk []) (TTable.mk []) [] []),0,x20) else some ((TWorld.mk y3.Conf y3.Things y3.Locals y3.Globals (TTable.mk x21) y3.Marks y3.Roots),x19,0)) fun j3=>bif (y2.1 != 0) then (bnd (getI y3.Things (wU (y2.1-1))) fun p4=>jn (fun (x11:Int) (x12:Int) (x13:List TEntry)=>j3 x11 x12 x13) fun j1=>bnd (QdF N y3.Weaks y2.1) fun y9=>bif (y9.2.2.2 != 0) then j1 0 y9.2.2.2 y3.Weaks.Entries else bnd (Qan N (THandle.mk 3 y9.2.1 y9.2.2.1)) fun y10=>j1 y10.1 y10.2 y9.1.Entries) else jn (fun (x16:Int) (x17:Int) (x18:List TEntry)=>j3 x16 x17 x18) fun j2=>bnd (QdF N y3.Weaks y2.1) fun y14=>bif (y14.2.2.2 != 0) then j2 0 y14.2.2.2 y3.Weaks.Entries else bnd (Qan N (THandle.mk 3 y14.2.1 y14.2.2.1)) fun y15=>j2 y15.1 y15.2 y14.1.Entries
def Qc9 (N:Nat) (a0:TWorld) (a2:Int) (a3:Int) (a4:Int) (a5:TFact):Option (TWorld×Int×Int):=bnd (Qai N a0 16 a2 a3 a4 a5.Failed) fun y1=>bif (y1 != 0) then some ((TWorld.mk (TConf.mk 0 0) [] (TLocals.mk [] [] []) (TTable.mk []) (TTable.mk []) [] []),0,y1) else bnd (Qaf N a0 a2) fun y2=>bnd (Qar N a0) fun y3=>jn (fun (x47:Int) (x48:List TSlot) (x49:List TScope) (x50:List Int) (x51:List TEntry) (x52:List TEntry)=>bif (x47 != 0) then some ((TWorld.mk (TConf.mk 0 0) [] (TLocals.mk [] [] []) (TTable.mk []) (TTable.mk []) [] []),0,x47) else some ((TWorld.mk y3.Conf y3.Things (TLocals.mk x48 x49 x50) (TTable.mk x51) (TTable.mk x52) y3.Marks y3.Roots),0,0)) fun j7=>bif (y2.1 != 0) then (bnd (getI y3.Things (wU (y2.1-1))) fun p4=>jn (fun (x22:Int) (x23:List TSlot) (x24:List TScope) (x25:List Int) (x26:List TEntry) (x27:List TEntry)=>j7 x22 x23 x24 x25 x26 x27) fun j3=>bnd (QaN N a2) fun y9=>bif (y9.2 != 0) then j3 y9.2 y3.Locals.Slots y3.Locals.Scopes y3.Locals.Issued y3.Globals.Entries y3.Weaks.Entries else jn (fun (x16:Int) (x17:List TSlot) (x18:List TScope) (x19:List Int) (x20:List TEntry) (x21:List TEntry)=>j3 x16 x17 x18 x19 x20 x21) fun j2=>bif (y9.1.Tag==1) then (bnd (Qbz N y3.Locals y9.1.Index y9.1.Stamp) fun y10=>j2 y10.2 y10.1.Slots y10.1.Scopes y10.1.Issued y3.Globals.Entries y3.Weaks.Entries) else jn (fun (x13:Int) (x14:List TEntry) (x15:List TEntry)=>j2 x13 y3.Locals.Slots y3.Locals.Scopes y3.Locals.Issued x14 x15) fun j1=>bif (y9.1.Tag==2) then (bnd (Qax N y3.Globals y9.1.Index y9.1.Stamp) fun y11=>j1 y11.2 y11.1.Entries y3.Weaks.Entries) else bnd (Qax N y3.Weaks y9.1.Index y9.1.Stamp) fun y12=>j1 y12.2 y3.Globals.Entries y12.1.Entries) else jn (fun (x41:Int) (x42:List TSlot) (x43:List TScope) (x44:List Int) (x45:List TEntry) (x46:List TEntry)=>j7 x41 x42 x43 x44 x45 x46) fun j6=>bnd (QaN N a2) fun y28=>bif (y28.2 != 0) then j6 y28.2 y3.Locals.Slots y3.Locals.Scopes y3.Locals.Issued y3.Globals.Entries y3.Weaks.Entries else jn (fun (x35:Int) (x36:List TSlot) (x37:List TScope) (x38:List Int) (x39:List TEntry) (x40:List TEntry)=>j6 x35 x36 x37 x38 x39 x40) fun j5=>bif (y28.1.Tag==1) then (bnd (Qbz N y3.Locals y28.1.Index y28.1.Stamp) fun y29=>j5 y29.2 y29.1.Slots y29.1.Scopes y29.1.Issued y3.Globals.Entries y3.Weaks.Entries) else jn (fun (x32:Int) (x33:List TEntry) (x34:List TEntry)=>j5 x32 y3.Locals.Slots y3.Locals.Scopes y3.Locals.Issued x33 x34) fun j4=>bif (y28.1.Tag==2) then (bnd (Qax N y3.Globals y28.1.Index y28.1.Stamp) fun y30=>j4 y30.2 y30.1.Entries y3.Weaks.Entries) else bnd (Qax N y3.Weaks y28.1.Index y28.1.Stamp) fun y31=>j4 y31.2 y3.Globals.Entries y31.1.Entries
def Qda (N:Nat) (a0:TWorld) (a2:Int) (a3:Int) (a4:Int) (a5:TFact):Option (TWorld×Int×Int):=bnd (Qai N a0 17 a2 a3 a4 a5.Failed) fun y1=>bif (y1 != 0) then some ((TWorld.mk (TConf.mk 0 0) [] (TLocals.mk [] [] []) (TTable.mk []) (TTable.mk []) [] []),0,y1) else bnd (Qaf N a0 a2) fun y2=>bnd (Qar N a0) fun y3=>jn (fun (x11:Int) (x12:List TSlot) (x13:List TScope) (x14:List Int)=>bif (x11 != 0) then some ((TWorld.mk (TConf.mk 0 0) [] (TLocals.mk [] [] []) (TTable.mk []) (TTable.mk []) [] []),0,x11) else some ((TWorld.mk y3.Conf y3.Things (TLocals.mk x12 x13 x14) y3.Globals y3.Weaks y3.Marks y3.Roots),0,0)) fun j1=>bif (y2.1 != 0) then (bnd (getI y3.Things (wU (y2.1-1))) fun p4=>bnd (Qel N y3.Locals (wI a2)) fun y9=>j1 y9.2 y9.1.Slots y9.1.Scopes y9.1.Issued) else bnd (Qel N y3.Locals (wI a2)) fun y10=>j1 y10.2 y10.1.Slots y10.1.Scopes y10.1.Issued
def Qdb (N:Nat) (a0:TWorld) (a2:Int) (a3:Int) (a4:Int) (a5:TFact):Option (TWorld×Int×Int):=bnd (Qai N a0 18 a2 a3 a4 a5.Failed) fun y1=>bif (y1 != 0) then some ((TWorld.mk (TConf.mk 0 0) [] (TLocals.mk [] [] []) (TTable.mk []) (TTable.mk []) [] []),0,y1) else bnd (Qaf N a0 a2) fun y2=>bnd (Qar N a0) fun y3=>jn (fun (x25:Int) (x26:Int) (x27:List TSlot) (x28:List TScope) (x29:List Int)=>bif (x26 != 0) then some ((TWorld.mk (TConf.mk 0 0) [] (TLocals.mk [] [] []) (TTable.mk []) (TTable.mk []) [] []),0,x26) else some ((TWorld.mk y3.Conf y3.Things (TLocals.mk x27 x28 x29) y3.Globals y3.Weaks y3.Marks y3.Roots),x25,0)) fun j3=>bif (y2.1 != 0) then (bnd (getI y3.Things (wU (y2.1-1))) fun p4=>bnd (QeQ N y3.Locals) fun y9=>bif (y9.2==0) then (jn (fun (x12:Int) (x13:Int) (x14:List TSlot) (x15:List TScope) (x16:List Int)=>j3 x12 x13 x14 x15 x16) fun j1=>bif (y2.1==0) then j1 0 0 y9.1.Slots y9.1.Scopes y9.1.Issued else bnd (QaZ N y9.1 y2.1) fun y10=>bif (y10.2.2.2 != 0) then j1 0 y10.2.2.2 y9.1.Slots y9.1.Scopes y9.1.Issued else bnd (Qan N (THandle.mk 1 y10.2.1 y10.2.2.1)) fun y11=>j1 y11.1 y11.2 y10.1.Slots y10.1.Scopes y10.1.Issued) else j3 0 y9.2 y9.1.Slots y9.1.Scopes y9.1.Issued) else bnd (QeQ N y3.Locals) fun y17=>bif (y17.2==0) then (jn (fun (x20:Int) (x21:Int) (x22:List TSlot) (x23:List TScope) (x24:List Int)=>j3 x20 x21 x22 x23 x24) fun j2=>bif (y2.1==0) then j2 0 0 y17.1.Slots y17.1.Scopes y17.1.Issued else bnd (QaZ N y17.1 y2.1) fun y18=>bif (y18.2.2.2 != 0) then j2 0 y18.2.2.2 y17.1.Slots y17.1.Scopes y17.1.Issued else bnd (Qan N (THandle.mk 1 y18.2.1 y18.2.2.1)) fun y19=>j2 y19.1 y19.2 y18.1.Slots y18.1.Scopes y18.1.Issued) else j3 0 y17.2 y17.1.Slots y17.1.Scopes y17.1.Issued
def Qfv (N:Nat) (a0:TMark) (a1:Int):Option Bool:=some (a0.Id==a1)
def Qag (N:Nat) (a0:List TMark) (c0:Int):Nat->Int->Option (Ex Int Unit)
 | 0,_=>none
 | n+1,v1 =>
  bif (decide (v1<((a0.length:Nat):Int))) then (bnd (getI a0 v1) fun p2 =>
   bnd (Qfv N p2 c0) fun y3 =>
   bif y3 then some (.ret v1)
   else Qag N a0 c0 n (wI (v1+1)))
  else some (.nxt ())
def Qah (N:Nat) (a0:List TMark) (c0:Int):Option Int:=bnd (Qag N a0 c0 N 0) fun e=>exK e (fun r=>some r) fun y4=>some (-1)
def Qdc (N:Nat) (a0:TWorld) (a2:Int) (a3:Int) (a4:Int) (a5:TFact):Option (TWorld×Int×Int):=bnd (Qai N a0 19 a2 a3 a4 a5.Failed) fun y1=>bif (y1 != 0) then some ((TWorld.mk (TConf.mk 0 0) [] (TLocals.mk [] [] []) (TTable.mk []) (TTable.mk []) [] []),0,y1) else bnd (Qaf N a0 a2) fun y2=>bnd (Qar N a0) fun y3=>bif (y2.1 != 0) then (bnd (getI y3.Things (wU (y2.1-1))) fun p4=>bnd (Qah N y3.Marks y2.1) fun y5=>jn (fun (x6:Int) (x7:List TMark)=>bnd (getI x7 x6) fun p8=>some ((TWorld.mk y3.Conf y3.Things y3.Locals y3.Globals y3.Weaks (x7.set x6.toNat (TMark.mk p8.Id (wI (p8.Count+1)) p8.Base)) y3.Roots),p8.Base,0)) fun j1=>bif (decide (y5<0)) then (grd (y3.Marks.length<=140737488355328) <| grd ((y3.Marks.length+1)*24<=140737488355328) <| j1 ((y3.Marks.length:Nat):Int) (y3.Marks++[(TMark.mk y2.1 0 a5.Base)])) else j1 y5 y3.Marks) else none
def QcL (N:Nat) (a0:TMark):Option Bool:=some (a0.Count==0)
def Qab (N:Nat) (a0:List TMark):Nat->Int->Option (Ex Int Unit)
 | 0,_=>none
 | n+1,v1 =>
  bif (decide (v1<((a0.length:Nat):Int))) then (bnd (getI a0 v1) fun p2 =>
   bnd (QcL N p2) fun y3 =>
   bif y3 then some (.ret v1)
   else Qab N a0 n (wI (v1+1)))
  else some (.nxt ())
def Qao (N:Nat) (a0:List TMark):Option Int:=bnd (Qab N a0 N 0) fun e=>exK e (fun r=>some r) fun y4=>some (-1)
def QbA (N:Nat) (y3:TWorld):Nat->Int->Int->(List TMark)->Option (Int×List TMark)
 | 0,_,_,_=>none
 | n+1,v10,v11,v12 =>
  grd (v12.length<=140737488355328) <|
  bif (decide (v11<((v12.length:Nat):Int))) then (bnd (getI v12 v11) fun p13 =>
   bnd (QcL N p13) fun y14 =>
   bif (!y14) then (bnd (getI v12 v10) fun p15 =>
    QbA N y3 n (wI (v10+1)) (wI (v11+1)) (v12.set v10.toNat p13))
   else QbA N y3 n v10 (wI (v11+1)) v12)
  else some (v10,v12)
def Qdd (N:Nat) (a0:TWorld) (a2:Int) (a3:Int) (a4:Int) (a5:TFact):Option (TWorld×Int×Int):=bnd (Qai N a0 20 a2 a3 a4 a5.Failed) fun y1=>bif (y1 != 0) then some ((TWorld.mk (TConf.mk 0 0) [] (TLocals.mk [] [] []) (TTable.mk []) (TTable.mk []) [] []),0,y1) else bnd (Qaf N a0 a2) fun y2=>bnd (Qar N a0) fun y3=>bif (y2.1 != 0) then (bnd (getI y3.Things (wU (y2.1-1))) fun p4=>bnd (Qah N y3.Marks y2.1) fun y5=>jn (fun (x6:Int) (x7:List TMark)=>bnd (getI x7 x6) fun p8=>bnd (Qao N (x7.set x6.toNat (TMark.mk p8.Id (wI (p8.Count-1)) p8.Base))) fun y9=>bif (y9==(-1)) then some ((TWorld.mk y3.Conf y3.Things y3.Locals y3.Globals y3.Weaks (x7.set x6.toNat (TMark.mk p8.Id (wI (p8.Count-1)) p8.Base)) y3.Roots),0,0) else bnd (QbA N y3 N y9 (wI (y9+1)) (x7.set x6.toNat (TMark.mk p8.Id (wI (p8.Count-1)) p8.Base))) fun y16=>grd (0<=y16.1∧y16.1<=((y16.2.length:Nat):Int)∧((y16.2.length:Nat):Int)<=((y16.2.length:Nat):Int)) <| grd (0<=y16.1∧y16.1<=(((((min y16.1.toNat y16.2.length)+(y16.2.length-y16.1.toNat))+(y16.2.length-(y16.1.toNat+(y16.2.length-y16.1.toNat)))):Nat):Int)) <| some ((TWorld.mk y3.Conf y3.Things y3.Locals y3.Globals y3.Weaks ((((y16.2.take y16.1.toNat)++(List.replicate (y16.2.length-y16.1.toNat) (TMark.mk 0 0 0)))++(y16.2.drop (y16.1.toNat+(y16.2.length-y16.1.toNat)))).take y16.1.toNat) y3.Roots),0,0)) fun j1=>bif (decide (y5<0)) then (grd (y3.Marks.length<=140737488355328) <| grd ((y3.Marks.length+1)*24<=140737488355328) <| j1 ((y3.Marks.length:Nat):Int) (y3.Marks++[(TMark.mk y2.1 0 0)])) else j1 y5 y3.Marks) else none
def Qfr (N:Nat) (a0:TWorld) (a1:Int) (a2:Int) (a3:Int) (a4:Int) (a5:TFact):Option (TWorld×Int×Int):=bif (a1==1) then QdP N a0 a2 a3 a4 a5 else bif (a1==2) then QdQ N a0 a2 a3 a4 a5 else bif (a1==3) then QdR N a0 a2 a3 a4 a5 else bif (a1==4) then QdS N a0 a2 a3 a4 a5 else bif (a1==5) then QdT N a0 a2 a3 a4 a5 else bif (a1==6) then QdU N a0 a2 a3 a4 a5 else bif (a1==7) then QdV N a0 a2 a3 a4 a5 else bif (a1==8) then QdW N a0 a2 a3 a4 a5 else bif (a1==9) then QdX N a0 a2 a3 a4 a5 else bif (a1==10) then Qc3 N a0 a2 a3 a4 a5 else bif (a1==11) then Qc4 N a0 a2 a3 a4 a5 else bif (a1==12) then Qc5 N a0 a2 a3 a4 a5 else bif (a1==13) then Qc6 N a0 a2 a3 a4 a5 else bif (a1==14) then Qc7 N a0 a2 a3 a4 a5 else bif (a1==15) then Qc8 N a0 a2 a3 a4 a5 else bif (a1==16) then Qc9 N a0 a2 a3 a4 a5 else bif (a1==17) then Qda N a0 a2 a3 a4 a5 else bif (a1==18) then Qdb N a0 a2 a3 a4 a5 else bif (a1==19) then Qdc N a0 a2 a3 a4 a5 else bif (a1==20) then Qdd N a0 a2 a3 a4 a5 else QeK N a0 a1 a2 a3 a4 a5
def QdY (N:Nat) (a0:TWorld):Nat->Int->(List TThing)->Option (List TThing)
 | 0,_,_=>none
 | n+1,v1,v2 =>
  bif (decide (v1<((a0.Things.length:Nat):Int))) then (bnd (getI a0.Things v1) fun p3 =>
   bnd (getI a0.Things v1) fun p4 =>
   grd ((v2.length+1)*48<=140737488355328) <|
   QdY N a0 n (wI (v1+1)) (v2++[(TThing.mk p3.Header p4.Fields)]))
  else some v2
def QdZ (N:Nat) (a0:TWorld) (y5:List TThing):Nat->Int->(List TMark)->Option (List TMark)
 | 0,_,_=>none
 | n+1,v6,v7 =>
  bif (decide (v6<((a0.Marks.length:Nat):Int))) then (bnd (getI a0.Marks v6) fun p8 =>
   bnd (getI a0.Marks v6) fun p9 =>
   bnd (getI a0.Marks v6) fun p10 =>
   grd ((v7.length+1)*24<=140737488355328) <|
   QdZ N a0 y5 n (wI (v6+1)) (v7++[(TMark.mk p8.Id p9.Count p10.Base)]))
  else some v7
def Qfs (N:Nat) (a0:TWorld):Option TWorld:=bnd (QdY N a0 N 0 []) fun y5=>bnd (QdZ N a0 y5 N 0 []) fun y11=>some (TWorld.mk a0.Conf y5 a0.Locals a0.Globals a0.Weaks y11 a0.Roots)
def Qft (N:Nat):Option Bool:=bnd (Qf9 N [] 0) fun y1=>bnd (Qfs N y1.World) fun y2=>bnd (Qfr N y2 3 3 0 0 (TFact.mk false false 0)) fun y3=>bif (y3.2.2==0) then (bif (y3.2.1==262145) then (bif (((y3.1.Things.length:Nat):Int)==1) then (bnd (getI y3.1.Things 0) fun p4=>some (((p4.Fields.length:Nat):Int)==3)) else some false) else some false) else some false
def Qb3 (N:Nat) (a0:List Int) (a1:List Int):Nat->Int->Option (Ex Bool Unit)
 | 0,_=>none
 | n+1,v1 =>
  bif (decide (v1<((a0.length:Nat):Int))) then (bnd (getI a0 v1) fun p2 =>
   bnd (getI a1 v1) fun p3 =>
   bif (p2 != p3) then some (.ret false)
   else Qb3 N a0 a1 n (wI (v1+1)))
  else some (.nxt ())
def Qe5 (N:Nat) (a0:List Int) (a1:List Int):Option Bool:=bif (((a0.length:Nat):Int) != ((a1.length:Nat):Int)) then some false else bnd (Qb3 N a0 a1 N 0) fun e=>exK e (fun r=>some r) fun y4=>some true
def Qbe (N:Nat) (y3:TWorld) (y4:TWorld×Int×Int):Nat->Int->Int->Option (Ex Bool Int)
 | 0,_,_=>none
 | n+1,v7,v8 =>
  bif (decide (v8<((y3.Things.length:Nat):Int))) then (bnd (getI y4.1.Things v8) fun p9 =>
   bnd (getI y3.Things v8) fun p10 =>
   bif (!((p9.Header.Kind==p10.Header.Kind)&&((p9.Header.Length==p10.Header.Length)&&(p9.Header.Map==p10.Header.Map)))) then some (.ret false)
   else bnd (getI y4.1.Things v8) fun p11 =>
   bnd (getI y3.Things v8) fun p12 =>
   bnd (Qe5 N p11.Fields p12.Fields) fun y13 =>
   bif (!y13) then Qbe N y3 y4 n (wI (v7+1)) (wI (v8+1))
   else Qbe N y3 y4 n v7 (wI (v8+1)))
  else some (.nxt v7)
def Qcq (N:Nat) (a0:List Int) (a1:List Int):Option Bool:=bnd (Qf9 N a0 60) fun y1=>bnd (QbI N y1 (TTape.mk a1 0)) fun y2=>bnd (Qfs N y1.World) fun y3=>bnd (Qfr N y3 y2.1.Op y2.1.A y2.1.B y2.1.C (TFact.mk false false 5000)) fun y4=>bif (y4.2.2 != 0) then (jn (fun (x6:Bool)=>some x6) fun j1=>bnd (Qft N ) fun y5=>bif y5 then j1 (((y4.1.Things.length:Nat):Int)==0) else j1 false) else bif (decide (((y4.1.Things.length:Nat):Int)<((y3.Things.length:Nat):Int))) then some false else bif (decide (((y4.1.Things.length:Nat):Int)>(wI (((y3.Things.length:Nat):Int)+1)))) then some false else bnd (Qbe N y3 y4 N 0 0) fun e=>exK e (fun r=>some r) fun y14=>bnd (Qft N ) fun y15=>bif y15 then (bif (decide (y14<=1)) then (bnd (Qbl N y4.1.Globals) fun y16=>some y16) else some false) else some false
end Go.Sx
