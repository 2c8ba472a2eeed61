import Derived.Test.YtgdhlnfcogcicaaGreatDoorSA
set_option linter.all false
namespace Go.Sx
structure TConf where
 PageWords:Int
 Pages:Int
structure THeader where
 Kind:Int
 Length:Int
 Map:Int
structure TThing where
 Header:THeader
 Fields:List Int
structure TSlot where
 Stamp:Int
 Ref:Int
 Live:Bool
structure TScope where
 From:Int
 Cap:Int
 Base:Bool
structure TLocals where
 Slots:List TSlot
 Scopes:List TScope
 Issued:List Int
structure TEntry where
 Gen:Int
 Ref:Int
 Live:Bool
structure TTable where
 Entries:List TEntry
structure TMark where
 Id:Int
 Count:Int
 Base:Int
structure TWorld where
 Conf:TConf
 Things:List TThing
 Locals:TLocals
 Globals:TTable
 Weaks:TTable
 Marks:List TMark
 Roots:List Int
structure TPage where
 Kind:Int
 Space:Int
 Used:Int
 Pins:Int
structure THeap where
 Conf:TConf
 Words:List Int
 Pages:List TPage
 Space:Int
 Bump:Int
structure TPin where
 Ref:Int
 Count:Int
structure TEnv where
 Heap:THeap
 Locals:TLocals
 Globals:TTable
 Weaks:TTable
 Pins:List TPin
 Roots:List Int
structure TPair where
 Env:TEnv
 World:TWorld
 Words:List Int
structure TTape where
 L:List Int
 at_:Int
structure TFact where
 Failed:Bool
 Collected:Bool
 Base:Int
structure TDeed where
 Op:Int
 A:Int
 B:Int
 C:Int
structure TReport where
 Copied:Int
 Kept:Int
 Filled:Int
 Freed:Int
 Cleared:Int
 Steps:Int
structure Tframes where
 Locals:TLocals
structure TWork where
 Heap:THeap
 Old:List Int
 Taken:List Int
 Queue:List Int
 Scanned:Int
 Report:TReport
structure THandle where
 Tag:Int
 Index:Int
 Stamp:Int
structure TFinding where
 Fault:Int
 Page:Int
 Addr:Int
structure TRun where
 From:Int
 Len:Int
structure TField where
 Width:Int
 Value:Int
structure Tasked where
 World:TWorld
 a:Int
 b:Int
 c:Int
 failed:Bool
def Qaa (N:Nat) (a0:TTape) (a1:Int):Option (Int×TTape):=bif (decide (a1<1)) then some (0,a0) else jn (fun (x2:Int)=>grd (a1≠0) <| grd (a1≠0) <| some (((wI ((x2.tmod a1)+a1)).tmod a1),(TTape.mk a0.L (wI (a0.at_+1))))) fun j1=>bif (decide (a0.at_<((a0.L.length:Nat):Int))) then (bnd (getI a0.L a0.at_) fun p1=>j1 p1) else j1 (wI ((wI (a0.at_*7))+3))
def QaY (N:Nat) (a0:TPair) (a1:TTape):Option (Int×TTape):=bnd (Qaa N a1 14) fun y1=>bif (y1.1==0) then (bnd (Qaa N y1.2 8) fun y2=>bnd (getI [0,1,262145,262146,524289,1125899906842624,4097,262149] y2.1) fun p3=>some (p3,y2.2)) else bif (y1.1==1) then (bnd (Qaa N y1.2 ((a0.Words.length:Nat):Int)) fun y4=>bnd (getI a0.Words y4.1) fun p5=>bnd (Qaa N y4.2 3) fun y6=>some ((wU (p5+(wU y6.1))),y6.2)) else jn (fun (x8:Bool)=>bif x8 then (bnd (Qaa N y1.2 ((a0.Words.length:Nat):Int)) fun y9=>bnd (getI a0.Words y9.1) fun p10=>some (p10,y9.2)) else bnd (Qaa N y1.2 (if 6<((a0.Words.length:Nat):Int) then 6 else ((a0.Words.length:Nat):Int))) fun y11=>bnd (getI a0.Words (wI ((wI (((a0.Words.length:Nat):Int)-1))-y11.1))) fun p12=>some (p12,y11.2)) fun j2=>bif (y1.1==2) then j2 true else jn (fun (x7:Bool)=>j2 x7) fun j1=>bif (y1.1==3) then j1 true else j1 (y1.1==4)
def QbJ (N:Nat) (a0:TPair) (a1:TTape):Option (TDeed×TTape):=bnd (Qaa N a1 32) fun y1=>bnd (getI [1,1,2,2,3,4,5,6,7,7,8,8,9,9,9,10,11,12,12,13,14,15,16,17,18,19,19,20,20,0,0,21] y1.1) fun p2=>bif (p2==1) then (bnd (Qaa N y1.2 4) fun y3=>grd (0<=(wU y3.1)) <| bnd (Qaa N y3.2 (sShl .i64 1 (wU y3.1))) fun y4=>some ((TDeed.mk p2 (wU y3.1) (wU y4.1) 0),y4.2)) else jn (fun (x5:Bool)=>bif x5 then (bnd (Qaa N y1.2 4) fun y6=>bnd (Qaa N y6.2 9) fun y7=>bif (y7.1==0) then (bnd (Qaa N y7.2 70) fun y8=>some ((TDeed.mk p2 (wU y8.1) 0 0),y8.2)) else some ((TDeed.mk p2 (wU y6.1) 0 0),y7.2)) else bif (p2==17) then (bnd (Qaa N y1.2 9) fun y9=>some ((TDeed.mk p2 (wU y9.1) 0 0),y9.2)) else bnd (QaY N a0 y1.2) fun y10=>bnd (Qaa N y10.2 4) fun y11=>bnd (Qaa N y11.2 1000) fun y12=>jn (fun (x16:List Int) (x17:Int) (x18:Int)=>bif (p2==10) then (bnd (QaY N a0 (TTape.mk x16 x17)) fun y19=>some ((TDeed.mk p2 y10.1 y19.1 x18),y19.2)) else some ((TDeed.mk p2 y10.1 (wU y11.1) x18),(TTape.mk x16 x17))) fun j2=>bif (p2==9) then (bnd (QaY N a0 y12.2) fun y14=>j2 y14.2.L y14.2.at_ y14.1) else bnd (Qaa N y12.2 9) fun y13=>bif (y13.1==0) then (bnd (QaY N a0 y13.2) fun y15=>j2 y15.2.L y15.2.at_ y15.1) else j2 y13.2.L y13.2.at_ (wU y12.1)) fun j1=>bif (p2==2) then j1 true else j1 (p2==3)
def Qak (N:Nat) (a0:TConf):Option Bool:=bif (decide (a0.PageWords>=16)) then (bif (decide (a0.PageWords<=64)) then (bif ((a0.PageWords.tmod 4)==0) then (bif (decide (a0.Pages>=8)) then some (decide (a0.Pages<=64)) else some false) else some false) else some false) else some false
def Qc0 (N:Nat) (a0:TConf):Option (TWorld×Int):=bnd (Qak N a0) fun y1=>bif (!y1) then some ((TWorld.mk (TConf.mk 0 0) [] (TLocals.mk [] [] []) (TTable.mk []) (TTable.mk []) [] []),1) else some ((TWorld.mk a0 [] (TLocals.mk [] [] []) (TTable.mk []) (TTable.mk []) [] []),0)
def QdZ (N:Nat) (a0:TTape):Option (TConf×TTape):=bnd (Qaa N a0 4) fun y1=>bnd (getI [16,16,20,32] y1.1) fun p2=>bnd (Qaa N y1.2 5) fun y3=>bnd (getI [8,12,16,20,24] y3.1) fun p4=>some ((TConf.mk p2 p4),y3.2)
def Qfg (N:Nat) (a0:TConf):Option (THeap×Int):=bnd (Qak N a0) fun y1=>bif (!y1) then some ((THeap.mk (TConf.mk 0 0) [] [] 0 0),1) else grd (0<=(wI (a0.Pages*a0.PageWords))∧(wI (a0.Pages*a0.PageWords)).toNat*8<=140737488355328) <| grd (0<=a0.Pages∧a0.Pages.toNat*32<=140737488355328) <| some ((THeap.mk a0 (List.replicate (wI (a0.Pages*a0.PageWords)).toNat 0) (List.replicate a0.Pages.toNat (TPage.mk 0 0 0 0)) 0 (-1)),0)
def QeF (N:Nat) (a0:TConf):Option (TEnv×Int):=bnd (Qfg N a0) fun y1=>some ((TEnv.mk y1.1 (TLocals.mk [] [] []) (TTable.mk []) (TTable.mk []) [] []),y1.2)
def Qbv (N:Nat) (a0:TTape):Option (TPair×TTape):=bnd (QdZ N a0) fun y1=>bnd (QeF N y1.1) fun y2=>bnd (Qc0 N y1.1) fun y3=>bnd (Qaa N y1.2 40) fun y4=>some ((TPair.mk (TEnv.mk y2.1.Heap (TLocals.mk y2.1.Locals.Slots [(TScope.mk 0 (wI (4+y4.1)) true)] y2.1.Locals.Issued) y2.1.Globals y2.1.Weaks y2.1.Pins y2.1.Roots) (TWorld.mk y3.1.Conf y3.1.Things (TLocals.mk y3.1.Locals.Slots [(TScope.mk 0 (wI (4+y4.1)) true)] y3.1.Locals.Issued) y3.1.Globals y3.1.Weaks y3.1.Marks y3.1.Roots) [0]),y4.2)
def QeP (N:Nat) (a0:TTape):Option Bool:=some (decide (a0.at_>=((a0.L.length:Nat):Int)))
def QbK (N:Nat) (a0:TTable):Nat->Int->Option (Ex Bool Unit)
 | 0,_=>none
 | n+1,v1 =>
  bif (decide (v1<((a0.Entries.length:Nat):Int))) then (bnd (getI a0.Entries v1) fun p2 =>
   bif (decide (p2.Gen<1)) then some (.ret false)
   else bif (decide (p2.Gen>4294967295)) then some (.ret false)
   else bif (!p2.Live) then (bif (p2.Ref != 0) then some (.ret false)
    else QbK N a0 n (wI (v1+1)))
   else QbK N a0 n (wI (v1+1)))
  else some (.nxt ())
def Qbl (N:Nat) (a0:TTable):Option Bool:=bnd (QbK N a0 N 0) fun e=>exK e (fun r=>some r) fun y3=>some (decide (((a0.Entries.length:Nat):Int)<=64))
def QbR (N:Nat) (a0:THeader):Option Bool:=bif (decide (a0.Kind<0)) then some false else bif (decide (a0.Kind>3)) then some false else bif (decide (a0.Length<0)) then some false else bif (decide (a0.Length>255)) then some false else bif (a0.Kind != 1) then some (a0.Map==0) else bif (decide (a0.Length<=32)) then (grd (0<=(wU a0.Length)) <| some (decide ((wU a0.Map)<(sShl .u64 1 (wU a0.Length))))) else some false
def Qbm (N:Nat) (a0:THeader) (a1:Int):Option Bool:=bnd (QbR N a0) fun y1=>bif (!y1) then some false else bif (decide (a1<0)) then some false else bif (decide (a1>=a0.Length)) then some false else bif (a0.Kind==2) then some true else bif (a0.Kind==1) then (grd (0<=(wU a1)) <| some ((bAnd .u32 (sShr .u32 a0.Map (wU a1)) 1)==1)) else some false
def QcE (N:Nat) (a0:TThing):Nat->Int->(List Int)->Option (List Int)
 | 0,_,_=>none
 | n+1,v1,v2 =>
  bif (decide (v1<((a0.Fields.length:Nat):Int))) then (bnd (Qbm N a0.Header v1) fun y3 =>
   bif y3 then (bnd (getI a0.Fields v1) fun p4 =>
    grd ((v2.length+1)*8<=140737488355328) <|
    QcE N a0 n (wI (v1+1)) (v2++[p4]))
   else QcE N a0 n (wI (v1+1)) v2)
  else some v2
def Qcs (N:Nat) (a0:TThing):Option (List Int):=bnd (QcE N a0 N 0 []) fun y5=>some y5
def QaV (N:Nat) (a0:TTable):Nat->Int->(List Int)->Option (List Int)
 | 0,_,_=>none
 | n+1,v1,v2 =>
  bif (decide (v1<((a0.Entries.length:Nat):Int))) then (bnd (Qbl N a0) fun y3 =>
   bif y3 then (bnd (getI a0.Entries v1) fun p4 =>
    bif p4.Live then (bnd (getI a0.Entries v1) fun p5 =>
     grd ((v2.length+1)*8<=140737488355328) <|
     QaV N a0 n (wI (v1+1)) (v2++[p5.Ref]))
    else QaV N a0 n (wI (v1+1)) v2)
   else some v2)
  else some v2
def QaR (N:Nat) (a0:TTable):Option (List Int):=bnd (QaV N a0 N 0 []) fun y6=>some y6
def Qb7 (N:Nat) (a0:TLocals) (a2:Int):Nat->Int->Int->Option Int
 | 0,_,_=>none
 | n+1,v1,v2 =>
  bif (decide (v2<a2)) then (bnd (getI a0.Slots v2) fun p3 =>
   bif p3.Live then Qb7 N a0 a2 n (wI (v1+1)) (wI (v2+1))
   else Qb7 N a0 a2 n v1 (wI (v2+1)))
  else some v1
def QeQ (N:Nat) (a0:TLocals) (a1:Int) (a2:Int):Option Int:=bnd (Qb7 N a0 a2 N 0 a1) fun y4=>some y4
def QfX (N:Nat) (a0:TLocals) (a1:Int):Option Int:=bif (decide ((wI (a1+1))<((a0.Scopes.length:Nat):Int))) then (bnd (getI a0.Scopes (wI (a1+1))) fun p1=>some p1.From) else some ((a0.Slots.length:Nat):Int)
def Qch (N:Nat) (a0:TLocals):Nat->Int->Option (Ex Bool Unit)
 | 0,_=>none
 | n+1,v1 =>
  bif (decide (v1<((a0.Issued.length:Nat):Int))) then (bnd (getI a0.Issued v1) fun p2 =>
   bif (decide (p2<0)) then some (.ret false)
   else bnd (getI a0.Issued v1) fun p3 =>
   bif (decide (p3>4095)) then some (.ret false)
   else Qch N a0 n (wI (v1+1)))
  else some (.nxt ())
def Qag (N:Nat) (a0:TLocals):Nat->Int->Int->Option (Ex Bool Unit)
 | 0,_,_=>none
 | n+1,v5,v6 =>
  bif (decide (v6<((a0.Slots.length:Nat):Int))) then (bnd (getI a0.Slots v6) fun p7 =>
   bif (decide (p7.Stamp<=v5)) then some (.ret false)
   else bif (decide (p7.Stamp>((a0.Issued.length:Nat):Int))) then some (.ret false)
   else bnd (getI a0.Issued (wI (p7.Stamp-1))) fun p8 =>
   bif (p8 != v6) then some (.ret false)
   else bif (!(p7.Live==(p7.Ref != 0))) then some (.ret false)
   else Qag N a0 n p7.Stamp (wI (v6+1)))
  else some (.nxt ())
def Qae (N:Nat) (a0:TLocals):Nat->Int->Int->Option (Ex Bool Unit)
 | 0,_,_=>none
 | n+1,v10,v11 =>
  bif (decide (v11<((a0.Scopes.length:Nat):Int))) then (bnd (getI a0.Scopes v11) fun p12 =>
   bif (v11==0) then (bif (p12.From != 0) then some (.ret false)
    else bif (!p12.Base) then some (.ret false)
    else bif (decide (p12.From<v10)) then some (.ret false)
    else bif (decide (p12.From>((a0.Slots.length:Nat):Int))) then some (.ret false)
    else bif (decide (p12.Cap<0)) then some (.ret false)
    else bif (decide (p12.Cap>64)) then some (.ret false)
    else Qae N a0 n p12.From (wI (v11+1)))
   else bif (decide (p12.From<v10)) then some (.ret false)
   else bif (decide (p12.From>((a0.Slots.length:Nat):Int))) then some (.ret false)
   else bif (decide (p12.Cap<0)) then some (.ret false)
   else bif (decide (p12.Cap>64)) then some (.ret false)
   else Qae N a0 n p12.From (wI (v11+1)))
  else some (.nxt ())
def QbL (N:Nat) (a0:TLocals):Nat->Int->Option (Ex Bool Unit)
 | 0,_=>none
 | n+1,v14 =>
  bif (decide (v14<((a0.Scopes.length:Nat):Int))) then (bnd (getI a0.Scopes v14) fun p15 =>
   bnd (QfX N a0 v14) fun y16 =>
   bnd (QeQ N a0 p15.From y16) fun y17 =>
   bnd (getI a0.Scopes v14) fun p18 =>
   bif (decide (y17>p18.Cap)) then some (.ret false)
   else QbL N a0 n (wI (v14+1)))
  else some (.nxt ())
def Qbn (N:Nat) (a0:TLocals):Option Bool:=jn (fun (_:Unit)=>bnd (Qch N a0 N 0) fun e=>exK e (fun r=>some r) fun y4=>bnd (Qag N a0 N 0 0) fun e=>exK e (fun r=>some r) fun y9=>bnd (Qae N a0 N 0 0) fun e=>exK e (fun r=>some r) fun y13=>bnd (QbL N a0 N 0) fun e=>exK e (fun r=>some r) fun y19=>some true) fun j1=>bif (decide (((a0.Issued.length:Nat):Int)>4096)) then some false else bif (decide (((a0.Scopes.length:Nat):Int)>64)) then some false else bif (((a0.Scopes.length:Nat):Int)==0) then (bif (decide (((a0.Slots.length:Nat):Int)>0)) then some false else j1 ()) else j1 ()
def QbX (N:Nat) (a0:TWorld) (a1:List Int):Nat->Int->Option (Ex Bool Unit)
 | 0,_=>none
 | n+1,v1 =>
  bif (decide (v1<((a1.length:Nat):Int))) then (bnd (getI a1 v1) fun p2 =>
   bif (decide (p2>(wU ((a0.Things.length:Nat):Int)))) then some (.ret false)
   else QbX N a0 a1 n (wI (v1+1)))
  else some (.nxt ())
def QbY (N:Nat) (a0:TWorld) (a1:List Int):Option Bool:=bnd (QbX N a0 a1 N 0) fun e=>exK e (fun r=>some r) fun y3=>some true
def Qdz (N:Nat) (a0:TWorld) (a1:Int):Nat->Int->Option (Ex Int Unit)
 | 0,_=>none
 | n+1,v1 =>
  bif (decide (v1<((a0.Marks.length:Nat):Int))) then (bnd (getI a0.Marks v1) fun p2 =>
   bif (p2.Id==a1) then some (.ret v1)
   else Qdz N a0 a1 n (wI (v1+1)))
  else some (.nxt ())
def Qeb (N:Nat) (a0:TWorld) (a1:Int):Option Int:=bnd (Qdz N a0 a1 N 0) fun e=>exK e (fun r=>some r) fun y3=>some (-1)
def QaW (N:Nat) (a0:TLocals):Nat->Int->(List Int)->Option (List Int)
 | 0,_,_=>none
 | n+1,v1,v2 =>
  bif (decide (v1<((a0.Slots.length:Nat):Int))) then (bnd (Qbn N a0) fun y3 =>
   bif y3 then (bnd (getI a0.Slots v1) fun p4 =>
    bif p4.Live then (bnd (getI a0.Slots v1) fun p5 =>
     grd ((v2.length+1)*8<=140737488355328) <|
     QaW N a0 n (wI (v1+1)) (v2++[p5.Ref]))
    else QaW N a0 n (wI (v1+1)) v2)
   else some v2)
  else some v2
def QbC (N:Nat) (a0:TLocals):Option (List Int):=bnd (QaW N a0 N 0 []) fun y6=>some y6
def Qci (N:Nat) (a0:TWorld):Nat->Int->Option (Ex Bool Unit)
 | 0,_=>none
 | n+1,v5 =>
  bif (decide (v5<((a0.Things.length:Nat):Int))) then (bnd (getI a0.Things v5) fun p6 =>
   bnd (QbR N p6.Header) fun y7 =>
   bif (!y7) then some (.ret false)
   else bif (p6.Header.Kind==0) then some (.ret false)
   else bif (((p6.Fields.length:Nat):Int) != p6.Header.Length) then some (.ret false)
   else bnd (Qcs N p6) fun y8 =>
   bnd (QbY N a0 y8) fun y9 =>
   bif (!y9) then some (.ret false)
   else Qci N a0 n (wI (v5+1)))
  else some (.nxt ())
def Qcj (N:Nat) (a0:TWorld) (y11:List Int):Nat->Int->Option (Ex Bool Unit)
 | 0,_=>none
 | n+1,v12 =>
  grd (y11.length<=140737488355328) <|
  bif (decide (v12<((y11.length:Nat):Int))) then (bnd (getI y11 v12) fun p13 =>
   bif (p13==0) then some (.ret false)
   else Qcj N a0 y11 n (wI (v12+1)))
  else some (.nxt ())
def Qck (N:Nat) (a0:TWorld) (y11:List Int):Nat->Int->Option (Ex Bool Unit)
 | 0,_=>none
 | n+1,v15 =>
  bif (decide (v15<((a0.Marks.length:Nat):Int))) then (bnd (getI a0.Marks v15) fun p16 =>
   bif (decide (p16.Id<1)) then some (.ret false)
   else bif (decide (p16.Id>(wU ((a0.Things.length:Nat):Int)))) then some (.ret false)
   else bnd (Qeb N a0 p16.Id) fun y17 =>
   bif (y17 != v15) then some (.ret false)
   else bif (decide (p16.Count<1)) then some (.ret false)
   else bif (decide (p16.Count>1000)) then some (.ret false)
   else Qck N a0 y11 n (wI (v15+1)))
  else some (.nxt ())
def Qc1 (N:Nat) (a0:TWorld):Option Bool:=bnd (Qak N a0.Conf) fun y1=>bif (!y1) then some false else bnd (Qbn N a0.Locals) fun y2=>bif (!y2) then some false else bnd (Qbl N a0.Globals) fun y3=>bif (!y3) then some false else bnd (Qbl N a0.Weaks) fun y4=>bif (!y4) then some false else bif (decide (((a0.Marks.length:Nat):Int)>64)) then some false else bnd (Qci N a0 N 0) fun e=>exK e (fun r=>some r) fun y10=>bnd (QaR N a0.Globals) fun y11=>bnd (Qcj N a0 y11 N 0) fun e=>exK e (fun r=>some r) fun y14=>bnd (Qck N a0 y11 N 0) fun e=>exK e (fun r=>some r) fun y18=>bnd (QbY N a0 a0.Roots) fun y19=>bif y19 then (bnd (QbC N a0.Locals) fun y20=>bnd (QbY N a0 y20) fun y21=>bif y21 then (bnd (QbY N a0 y11) fun y22=>bif y22 then (bnd (QaR N a0.Weaks) fun y23=>bnd (QbY N a0 y23) fun y24=>some y24) else some false) else some false) else some false
def Qbw (N:Nat) (a0:TWorld):Nat->Int->(List Int)->Option (List Int)
 | 0,_,_=>none
 | n+1,v3,v4 =>
  bif (decide (v3<((a0.Marks.length:Nat):Int))) then (bnd (getI a0.Marks v3) fun p5 =>
   grd ((v4.length+1)*8<=140737488355328) <|
   Qbw N a0 n (wI (v3+1)) (v4++[p5.Id]))
  else some v4
def Qdp (N:Nat) (a0:TWorld):Option (List Int):=grd (a0.Roots.length*8<=140737488355328) <| bnd (QbC N a0.Locals) fun y1=>grd ((a0.Roots.length+y1.length)*8<=140737488355328) <| bnd (QaR N a0.Globals) fun y2=>grd (((a0.Roots.length+y1.length)+y2.length)*8<=140737488355328) <| bnd (Qbw N a0 N 0 ((a0.Roots++y1)++y2)) fun y6=>some y6
def Qai (N:Nat) (a0:TWorld):Nat->Int->(List Bool)->(List Int)->Option (List Bool)
 | 0,_,_,_=>none
 | n+1,v3,v4,v5 =>
  grd (v5.length<=140737488355328) <|
  bif (decide (v3<((v5.length:Nat):Int))) then (bnd (getI v5 v3) fun p6 =>
   bif (p6==0) then Qai N a0 n (wI (v3+1)) v4 v5
   else bnd (getI v5 v3) fun p7 =>
   bnd (getI v4 (wU (p7-1))) fun p8 =>
   bif p8 then Qai N a0 n (wI (v3+1)) v4 v5
   else bnd (getI v5 v3) fun p9 =>
   bnd (getI v4 (wU (p9-1))) fun p10 =>
   bnd (getI v5 v3) fun p11 =>
   bnd (getI a0.Things (wU (p11-1))) fun p12 =>
   bnd (Qcs N p12) fun y13 =>
   grd ((v5.length+y13.length)*8<=140737488355328) <|
   Qai N a0 n (wI (v3+1)) (v4.set (wU (p9-1)).toNat true) (v5++y13))
  else some v4
def Qb8 (N:Nat) (a0:TWorld):Option (List Bool):=bnd (Qc1 N a0) fun y1=>bif (!y1) then some [] else grd (0<=((a0.Things.length:Nat):Int)∧((a0.Things.length:Nat):Int).toNat<=140737488355328) <| bnd (Qdp N a0) fun y2=>bnd (Qai N a0 N 0 (List.replicate ((a0.Things.length:Nat):Int).toNat false) y2) fun y14=>some y14
def QaF (N:Nat) (a1:List Int):Nat->Int->Int->(List TEntry)->Option (List TEntry)
 | 0,_,_,_=>none
 | n+1,v3,v4,v5 =>
  grd (v5.length<=140737488355328) <|
  bif (decide (v4<((v5.length:Nat):Int))) then (bnd (getI v5 v4) fun p6 =>
   bif p6.Live then (bnd (getI a1 v3) fun p7 =>
    bnd (getI v5 v4) fun p8 =>
    QaF N a1 n (wI (v3+1)) (wI (v4+1)) (v5.set v4.toNat (TEntry.mk p8.Gen p7 p8.Live)))
   else QaF N a1 n v3 (wI (v4+1)) v5)
  else some v5
def QbZ (N:Nat) (a0:TTable) (a1:List Int):Option (TTable×Int):=bnd (Qbl N a0) fun y1=>bif (!y1) then some ((TTable.mk []),1) else bnd (QaR N a0) fun y2=>grd (y2.length<=140737488355328) <| bif (((a1.length:Nat):Int) != ((y2.length:Nat):Int)) then some ((TTable.mk []),1) else grd (a0.Entries.length*24<=140737488355328) <| bnd (QaF N a1 N 0 0 a0.Entries) fun y9=>some ((TTable.mk y9),0)
def Qal (N:Nat) (a0:TWorld) (y2:List Bool):Nat->Int->(List Int)->Option (List Int)
 | 0,_,_=>none
 | n+1,v4,v5 =>
  grd (v5.length<=140737488355328) <|
  bif (decide (v4<((v5.length:Nat):Int))) then (bnd (getI v5 v4) fun p6 =>
   bif (p6 != 0) then (bnd (getI v5 v4) fun p7 =>
    bnd (getI y2 (wU (p7-1))) fun p8 =>
    bif (!p8) then (bnd (getI v5 v4) fun p9 =>
     Qal N a0 y2 n (wI (v4+1)) (v5.set v4.toNat 0))
    else Qal N a0 y2 n (wI (v4+1)) v5)
   else Qal N a0 y2 n (wI (v4+1)) v5)
  else some v5
def Qa4 (N:Nat) (a0:TWorld):Option (TWorld×Int):=bnd (Qc1 N a0) fun y1=>bif (!y1) then some ((TWorld.mk (TConf.mk 0 0) [] (TLocals.mk [] [] []) (TTable.mk []) (TTable.mk []) [] []),19) else bnd (Qb8 N a0) fun y2=>bnd (QaR N a0.Weaks) fun y3=>bnd (Qal N a0 y2 N 0 y3) fun y10=>bnd (QbZ N a0.Weaks y10) fun y11=>some ((TWorld.mk a0.Conf a0.Things a0.Locals a0.Globals y11.1 a0.Marks a0.Roots),0)
def Qbo (N:Nat) (a0:Int) (a1:Int) (a2:Int):Option (THeader×Bool):=bif (a0==1) then (bif (decide (a1<=2147483647)) then some ((THeader.mk a0 (wI (bAnd .u64 a1 2147483647)) (wW a2)),(decide (a2<=4294967295))) else some ((THeader.mk a0 (wI (bAnd .u64 a1 2147483647)) (wW a2)),false)) else some ((THeader.mk a0 (wI (bAnd .u64 a1 2147483647)) 0),(decide (a1<=2147483647)))
def Qcl (N:Nat) (a0:TConf):Option Int:=bnd (Qak N a0) fun y1=>bif (!y1) then some 0 else some (wI (a0.PageWords.tdiv 4))
def QbD (N:Nat) (a0:TConf) (a1:Int):Nat->Int->Option (Ex Int Unit)
 | 0,_=>none
 | n+1,v3 =>
  bif (decide (v3<=4)) then (bif (decide ((wI (v3*a0.PageWords))>=a1)) then some (.ret v3)
   else QbD N a0 a1 n (wI (v3+1)))
  else some (.nxt ())
def QdE (N:Nat) (a0:TConf) (a1:Int):Option Int:=bnd (Qak N a0) fun y1=>bif (!y1) then some (-1) else bif (decide (a1<1)) then some (-1) else bnd (Qcl N a0) fun y2=>bif (decide (a1<=y2)) then some 0 else bnd (QbD N a0 a1 N 1) fun e=>exK e (fun r=>some r) fun y4=>some (-1)
def QbE (N:Nat) (a0:THeader):Option Int:=bnd (QbR N a0) fun y1=>bif (!y1) then some 0 else some (wI (a0.Length+1))
def QcW (N:Nat) (a0:TConf) (a1:THeader):Option Bool:=bnd (QbR N a1) fun y1=>bif y1 then (bif (a1.Kind != 0) then (bnd (QbE N a1) fun y2=>bnd (QdE N a0 y2) fun y3=>some (y3 != (-1))) else some false) else some false
def Qc2 (N:Nat) (a0:TLocals) (a1:Int):Option (TLocals×Int×Int×Int):=bnd (Qbn N a0) fun y1=>bif (!y1) then some ((TLocals.mk [] [] []),0,0,1) else bif (a1==0) then some ((TLocals.mk [] [] []),0,0,1) else bif (((a0.Scopes.length:Nat):Int)==0) then some ((TLocals.mk [] [] []),0,0,9) else bnd (getI a0.Scopes (wI (((a0.Scopes.length:Nat):Int)-1))) fun p2=>bnd (QeQ N a0 p2.From ((a0.Slots.length:Nat):Int)) fun y3=>bnd (getI a0.Scopes (wI (((a0.Scopes.length:Nat):Int)-1))) fun p4=>bif (decide (y3>=p4.Cap)) then some ((TLocals.mk [] [] []),0,0,10) else bif (((a0.Issued.length:Nat):Int)==4096) then some ((TLocals.mk [] [] []),0,0,18) else grd (a0.Issued.length*8<=140737488355328) <| grd ((a0.Issued.length+1)*8<=140737488355328) <| grd (a0.Slots.length*24<=140737488355328) <| grd ((a0.Slots.length+1)*24<=140737488355328) <| some ((TLocals.mk (a0.Slots++[(TSlot.mk (wI (((a0.Issued.length:Nat):Int)+1)) a1 true)]) a0.Scopes (a0.Issued++[((a0.Slots.length:Nat):Int)])),((a0.Slots.length:Nat):Int),(wI (((a0.Issued.length:Nat):Int)+1)),0)
def QbS (N:Nat) (a0:TLocals) (a1:Int):Option Int:=bif (a1==0) then some 0 else bnd (Qc2 N a0 a1) fun y1=>some y1.2.2.2
def Qer (N:Nat) (a0:TWorld) (a1:Int) (a2:Int) (a3:Int) (a4:Bool):Option Int:=bif (decide (((a0.Marks.length:Nat):Int)>0)) then some 15 else bnd (Qbo N a1 a2 a3) fun y1=>bif (!y1.2) then some 1 else bnd (QcW N a0.Conf y1.1) fun y2=>bif (!y2) then some 1 else bnd (QbS N a0.Locals 1) fun y3=>bif (y3 != 0) then some y3 else bif a4 then some 3 else some 0
def Qe5 (N:Nat) (a0:THandle):Option Bool:=bif (decide (a0.Tag>=1)) then (bif (decide (a0.Tag<=3)) then (bif (decide (a0.Index>=0)) then (bif (decide (a0.Index<=65535)) then (bif (decide (a0.Stamp>=1)) then some (decide (a0.Stamp<=4294967295)) else some false) else some false) else some false) else some false) else some false
def Qa5 (N:Nat) (a0:THandle):Option (Int×Int):=bnd (Qe5 N a0) fun y1=>bif (!y1) then some (0,1) else some ((wU ((wU ((wU a0.Tag)+(sShl .u64 (wU a0.Index) 2)))+(sShl .u64 (wU a0.Stamp) 18))),0)
def Qbh (N:Nat) (a0:Int):Option (THandle×Int):=bif (a0==0) then some ((THandle.mk 0 0 0),5) else bnd (Qa5 N (THandle.mk (wI (bAnd .u64 a0 3)) (wI (bAnd .u64 (sShr .u64 a0 2) 65535)) (wI (sShr .u64 a0 18)))) fun y1=>bif (y1.2 != 0) then some ((THandle.mk 0 0 0),6) else bif (y1.1 != a0) then some ((THandle.mk 0 0 0),6) else some ((THandle.mk (wI (bAnd .u64 a0 3)) (wI (bAnd .u64 (sShr .u64 a0 2) 65535)) (wI (sShr .u64 a0 18))),0)
def QdF (N:Nat) (a0:TLocals) (a1:Int) (a2:Int):Option (Int×Int):=bnd (Qbn N a0) fun y1=>bif (!y1) then some (0,1) else bif (decide (a2<1)) then some (0,6) else bif (decide (a2>((a0.Issued.length:Nat):Int))) then some (0,6) else bnd (getI a0.Issued (wI (a2-1))) fun p2=>bif (p2 != a1) then some (0,6) else bif (decide (a1>=((a0.Slots.length:Nat):Int))) then some (0,7) else bnd (getI a0.Slots a1) fun p3=>bif (p3.Stamp != a2) then some (0,7) else bnd (getI a0.Slots a1) fun p4=>bif (!p4.Live) then some (0,8) else bnd (getI a0.Slots a1) fun p5=>some (p5.Ref,0)
def Qcv (N:Nat) (a0:TTable) (a1:Int) (a2:Int):Option (Int×Int):=bnd (Qbl N a0) fun y1=>bif (!y1) then some (0,1) else bif (decide (a1<0)) then some (0,6) else bif (decide (a1>=((a0.Entries.length:Nat):Int))) then some (0,6) else bif (decide (a2<1)) then some (0,6) else bnd (getI a0.Entries a1) fun p2=>bif (decide (a2>p2.Gen)) then some (0,6) else bnd (getI a0.Entries a1) fun p3=>bif (decide (a2<p3.Gen)) then some (0,8) else bnd (getI a0.Entries a1) fun p4=>bif (!p4.Live) then some (0,8) else bnd (getI a0.Entries a1) fun p5=>some (p5.Ref,0)
def Qao (N:Nat) (a0:TWorld) (a1:Int):Option (Int×Int):=bnd (Qc1 N a0) fun y1=>bif (!y1) then some (0,19) else bif (a1==0) then some (0,0) else bnd (Qbh N a1) fun y2=>bif (y2.2 != 0) then some (0,y2.2) else bif (y2.1.Tag==1) then (bnd (QdF N a0.Locals y2.1.Index y2.1.Stamp) fun y3=>some (y3.1,y3.2)) else bif (y2.1.Tag==2) then (bnd (Qcv N a0.Globals y2.1.Index y2.1.Stamp) fun y4=>some (y4.1,y4.2)) else bnd (Qcv N a0.Weaks y2.1.Index y2.1.Stamp) fun y5=>some (y5.1,y5.2)
def Qc3 (N:Nat) (a0:TWorld) (a1:Int):Option (Int×Int):=bnd (Qao N a0 a1) fun y1=>bif (y1.2==0) then (bif (y1.1==0) then some (0,5) else some (y1.1,y1.2)) else some (y1.1,y1.2)
def QeG (N:Nat) (a0:TWorld) (a1:Int) (a2:Int) (a3:Int) (a4:Int):Option Int:=bnd (Qc3 N a0 a2) fun y1=>bif (y1.2 != 0) then some y1.2 else bnd (getI a0.Things (wU (y1.1-1))) fun p2=>bif (decide (a3>=(wU p2.Header.Length))) then some 2 else jn (fun (x3:Bool)=>bnd (Qbm N p2.Header (wI a3)) fun y4=>bif (!(y4==x3)) then some 4 else bif (a1==8) then (bnd (getI p2.Fields a3) fun p5=>bnd (QbS N a0.Locals p5) fun y6=>some y6) else bif (a1==9) then (bnd (Qao N a0 a4) fun y7=>some y7.2) else some y1.2) fun j1=>bif (a1==8) then j1 true else j1 (a1==9)
def Qes (N:Nat) (a0:TWorld) (a1:Int) (a2:Int):Option Int:=bif (a2==0) then some 5 else bnd (Qao N a0 a2) fun y1=>bif (y1.2 != 0) then some y1.2 else bnd (Qbh N a2) fun y2=>jn (fun (x3:Int)=>bif (a1==16) then (bif (y2.1.Tag != 3) then some 4 else some 0) else bif (y2.1.Tag != x3) then some 4 else some 0) fun j1=>bif (a1==14) then j1 2 else j1 1
def Qa6 (N:Nat) (a0:TTable) (a1:Int):Nat->Int->Option (Ex (TTable×Int×Int×Int) Unit)
 | 0,_=>none
 | n+1,v2 =>
  grd (a0.Entries.length<=140737488355328) <|
  bif (decide (v2<((a0.Entries.length:Nat):Int))) then (bnd (getI a0.Entries v2) fun p3 =>
   bif (!p3.Live) then (bnd (getI a0.Entries v2) fun p4 =>
    bif (decide (p4.Gen<4294967295)) then (bnd (getI a0.Entries v2) fun p5 =>
     bnd (getI a0.Entries v2) fun p6 =>
     bnd (getI (a0.Entries.set v2.toNat (TEntry.mk (wI (p5.Gen+1)) a1 true)) v2) fun p7 =>
     some (.ret ((TTable.mk (a0.Entries.set v2.toNat (TEntry.mk (wI (p5.Gen+1)) a1 true))),v2,p7.Gen,0)))
    else Qa6 N a0 a1 n (wI (v2+1)))
   else Qa6 N a0 a1 n (wI (v2+1)))
  else some (.nxt ())
def Qbx (N:Nat) (a0:TTable) (a1:Int):Option (TTable×Int×Int×Int):=bnd (Qbl N a0) fun y1=>bif (!y1) then some ((TTable.mk []),0,0,1) else grd (a0.Entries.length*24<=140737488355328) <| bnd (Qa6 N a0 a1 N 0) fun e=>exK e (fun r=>some r) fun y8=>grd (a0.Entries.length<=140737488355328) <| bif (((a0.Entries.length:Nat):Int)==64) then some ((TTable.mk []),0,0,18) else grd ((a0.Entries.length+1)*24<=140737488355328) <| grd (a0.Entries.length<=140737488355328) <| some ((TTable.mk (a0.Entries++[(TEntry.mk 1 a1 true)])),((a0.Entries.length:Nat):Int),1,0)
def Qe6 (N:Nat) (a0:TWorld) (a1:Int) (a2:Int):Option Int:=bnd (Qc3 N a0 a2) fun y1=>bif (y1.2 != 0) then some y1.2 else jn (fun (x2:List TEntry)=>bnd (Qbx N (TTable.mk x2) y1.1) fun y3=>some y3.2.2.2) fun j1=>bif (a1==15) then j1 a0.Weaks.Entries else j1 a0.Globals.Entries
def QeR (N:Nat) (a0:TLocals) (a1:Int) (a2:Bool):Option (TLocals×Int):=bnd (Qbn N a0) fun y1=>bif (!y1) then some ((TLocals.mk [] [] []),1) else bif (decide (a1<0)) then some ((TLocals.mk [] [] []),1) else bif (decide (a1>64)) then some ((TLocals.mk [] [] []),1) else jn (fun (_:Unit)=>bif (((a0.Scopes.length:Nat):Int)==64) then some ((TLocals.mk [] [] []),17) else grd (a0.Scopes.length*24<=140737488355328) <| grd ((a0.Scopes.length+1)*24<=140737488355328) <| some ((TLocals.mk a0.Slots (a0.Scopes++[(TScope.mk ((a0.Slots.length:Nat):Int) a1 a2)]) a0.Issued),0)) fun j1=>bif (!a2) then (bif (((a0.Scopes.length:Nat):Int)==0) then some ((TLocals.mk [] [] []),9) else j1 ()) else j1 ()
def QcX (N:Nat) (a0:TLocals) (a1:Int):Option (TLocals×Int):=bnd (QeR N a0 a1 false) fun y1=>some (y1.1,y1.2)
def Qfh (N:Nat) (a0:TLocals) (a1:Int):Option TLocals:=bnd (getI a0.Scopes a1) fun p1=>grd (0<=0∧0<=p1.From∧p1.From<=((a0.Slots.length:Nat):Int)) <| grd ((min p1.From.toNat a0.Slots.length)*24<=140737488355328) <| grd (0<=0∧0<=a1∧a1<=((a0.Scopes.length:Nat):Int)) <| grd ((min a1.toNat a0.Scopes.length)*24<=140737488355328) <| some (TLocals.mk (a0.Slots.take p1.From.toNat) (a0.Scopes.take a1.toNat) a0.Issued)
def QdG (N:Nat) (a0:TLocals):Option (TLocals×Int):=bnd (Qbn N a0) fun y1=>bif (!y1) then some ((TLocals.mk [] [] []),1) else bif (((a0.Scopes.length:Nat):Int)==0) then some ((TLocals.mk [] [] []),9) else bnd (getI a0.Scopes (wI (((a0.Scopes.length:Nat):Int)-1))) fun p2=>bif p2.Base then some ((TLocals.mk [] [] []),9) else bnd (Qfh N a0 (wI (((a0.Scopes.length:Nat):Int)-1))) fun y3=>some (y3,0)
def QeH (N:Nat) (a0:TWorld) (a1:Int) (a2:Int):Option Int:=bif (a1==17) then (bif (decide (a2>64)) then some 1 else bnd (QcX N a0.Locals (wI a2)) fun y1=>some y1.2) else bnd (Qao N a0 a2) fun y2=>bif (y2.2 != 0) then some y2.2 else bnd (QdG N a0.Locals) fun y3=>bif (y3.2 != 0) then some y3.2 else bnd (QbS N y3.1 y2.1) fun y4=>some y4
def Qfl (N:Nat) (a0:TWorld) (a1:Int) (a2:Int) (a3:Bool):Option Int:=bnd (Qc3 N a0 a2) fun y1=>bif (y1.2 != 0) then some y1.2 else bnd (Qeb N a0 y1.1) fun y2=>bif (a1==20) then (bif (decide (y2<0)) then some 12 else some 0) else bif (decide (y2>=0)) then (bnd (getI a0.Marks y2) fun p3=>bif (p3.Count==1000) then some 18 else bif (decide (y2<0)) then (bif (((a0.Marks.length:Nat):Int)==64) then some 18 else bif a3 then some 18 else some 0) else bif a3 then some 18 else some 0) else bif (decide (y2<0)) then (bif (((a0.Marks.length:Nat):Int)==64) then some 18 else bif a3 then some 18 else some 0) else bif a3 then some 18 else some 0
def Qe7 (N:Nat) (a0:TWorld) (a1:Int) (a2:Int) (a3:Int):Option Int:=jn (fun (_:Unit)=>bnd (Qc3 N a0 a2) fun y1=>some y1.2) fun j1=>bif (a1==4) then j1 () else bif (a1==5) then j1 () else bnd (Qao N a0 a2) fun y2=>bif (y2.2 != 0) then some y2.2 else bif (a1==10) then (bnd (Qao N a0 a3) fun y3=>some y3.2) else bnd (QbS N a0.Locals y2.1) fun y4=>some y4
def Qet (N:Nat) (a0:TWorld) (a1:Int) (a2:Int) (a3:Int) (a4:Int) (a5:Bool):Option Int:=bnd (Qc1 N a0) fun y1=>bif (!y1) then some 19 else jn (fun (x3:Bool)=>bif x3 then (bnd (Qer N a0 a1 a2 a3 a5) fun y4=>some y4) else jn (fun (x7:Bool)=>bif x7 then (bnd (QeG N a0 a1 a2 a3 a4) fun y8=>some y8) else jn (fun (x10:Bool)=>bif x10 then (bnd (Qes N a0 a1 a2) fun y11=>some y11) else jn (fun (x12:Bool)=>bif x12 then (bnd (Qe6 N a0 a1 a2) fun y13=>some y13) else jn (fun (x14:Bool)=>bif x14 then (bnd (QeH N a0 a1 a2) fun y15=>some y15) else jn (fun (x16:Bool)=>bif x16 then (bnd (Qfl N a0 a1 a2 a5) fun y17=>some y17) else jn (fun (x20:Bool)=>bif x20 then (bnd (Qe7 N a0 a1 a2 a3) fun y21=>some y21) else some 1) fun j13=>bif (a1==4) then j13 true else jn (fun (x19:Bool)=>j13 x19) fun j12=>bif (a1==5) then j12 true else jn (fun (x18:Bool)=>j12 x18) fun j11=>bif (a1==10) then j11 true else j11 (a1==11)) fun j10=>bif (a1==19) then j10 true else j10 (a1==20)) fun j9=>bif (a1==17) then j9 true else j9 (a1==18)) fun j8=>bif (a1==13) then j8 true else j8 (a1==15)) fun j7=>bif (a1==12) then j7 true else jn (fun (x9:Bool)=>j7 x9) fun j6=>bif (a1==14) then j6 true else j6 (a1==16)) fun j5=>bif (a1==6) then j5 true else jn (fun (x6:Bool)=>j5 x6) fun j4=>bif (a1==7) then j4 true else jn (fun (x5:Bool)=>j4 x5) fun j3=>bif (a1==8) then j3 true else j3 (a1==9)) fun j2=>bif (a1==1) then j2 true else jn (fun (x2:Bool)=>j2 x2) fun j1=>bif (a1==2) then j1 true else j1 (a1==3)
def Qbz (N:Nat) (a0:TWorld) (a1:Int):Option (TWorld×Int):=bif (a1==0) then some (a0,0) else bnd (Qc2 N a0.Locals a1) fun y1=>bnd (Qa5 N (THandle.mk 1 y1.2.1 y1.2.2.1)) fun y2=>some ((TWorld.mk a0.Conf a0.Things y1.1 a0.Globals a0.Weaks a0.Marks a0.Roots),y2.1)
def Qd8 (N:Nat) (a0:TWorld) (a1:Int) (a2:Int) (a3:Int):Option TWorld:=grd (a0.Things.length*48<=140737488355328) <| bnd (getI a0.Things (wU (a1-1))) fun p1=>grd (p1.Fields.length*8<=140737488355328) <| bnd (getI p1.Fields a2) fun p2=>bnd (getI a0.Things (wU (a1-1))) fun p3=>some (TWorld.mk a0.Conf (a0.Things.set (wU (a1-1)).toNat (TThing.mk p1.Header (p1.Fields.set a2.toNat a3))) a0.Locals a0.Globals a0.Weaks a0.Marks a0.Roots)
def QcF (N:Nat) (a0:TWorld) (a1:Int) (a2:Int):Option (TWorld×Int):=jn (fun (x3:List TEntry) (x4:List TEntry) (x5:Int) (x6:Int) (x7:Int)=>bnd (Qa5 N (THandle.mk x5 x6 x7)) fun y8=>some ((TWorld.mk a0.Conf a0.Things a0.Locals (TTable.mk x3) (TTable.mk x4) a0.Marks a0.Roots),y8.1)) fun j1=>bif (a1==15) then (bnd (Qbx N a0.Weaks a2) fun y1=>j1 a0.Globals.Entries y1.1.Entries 3 y1.2.1 y1.2.2.1) else bnd (Qbx N a0.Globals a2) fun y2=>j1 y2.1.Entries a0.Weaks.Entries 2 y2.2.1 y2.2.2.1
def Qcw (N:Nat) (a0:TLocals) (a1:Int) (a2:Int):Option (TLocals×Int):=bnd (QdF N a0 a1 a2) fun y1=>bif (y1.2 != 0) then some ((TLocals.mk [] [] []),y1.2) else grd (a0.Slots.length*24<=140737488355328) <| bnd (getI a0.Slots a1) fun p2=>some ((TLocals.mk (a0.Slots.set a1.toNat (TSlot.mk a2 0 false)) a0.Scopes a0.Issued),0)
def Qfi (N:Nat) (a0:TTable) (a1:Int) (a2:TEntry):Option TTable:=grd (a0.Entries.length*24<=140737488355328) <| bnd (getI a0.Entries a1) fun p1=>some (TTable.mk (a0.Entries.set a1.toNat a2))
def QbA (N:Nat) (a0:TTable) (a1:Int) (a2:Int):Option (TTable×Int):=bnd (Qcv N a0 a1 a2) fun y1=>bif (y1.2 != 0) then some ((TTable.mk []),y1.2) else bnd (Qfi N a0 a1 (TEntry.mk a2 0 false)) fun y2=>some (y2,0)
def Qdq (N:Nat) (a0:TWorld) (a1:Int):Option TWorld:=bnd (Qbh N a1) fun y1=>bif (y1.1.Tag==1) then (bnd (Qcw N a0.Locals y1.1.Index y1.1.Stamp) fun y2=>some (TWorld.mk a0.Conf a0.Things y2.1 a0.Globals a0.Weaks a0.Marks a0.Roots)) else bif (y1.1.Tag==2) then (bnd (QbA N a0.Globals y1.1.Index y1.1.Stamp) fun y3=>some (TWorld.mk a0.Conf a0.Things a0.Locals y3.1 a0.Weaks a0.Marks a0.Roots)) else bnd (QbA N a0.Weaks y1.1.Index y1.1.Stamp) fun y4=>some (TWorld.mk a0.Conf a0.Things a0.Locals a0.Globals y4.1 a0.Marks a0.Roots)
def Qfm (N:Nat) (a0:TWorld) (a1:Int):Option Int:=bnd (Qeb N a0 a1) fun y1=>some y1
def Qec (N:Nat) (a0:TWorld) (a1:Int) (a2:Int) (a3:Int):Option (TWorld×Int):=bnd (Qfm N a0 a2) fun y1=>grd (a0.Marks.length*24<=140737488355328) <| bif (a1==20) then (bnd (getI a0.Marks y1) fun p2=>bnd (getI a0.Marks y1) fun p3=>bnd (getI (a0.Marks.set y1.toNat (TMark.mk p3.Id (wI (p2.Count-1)) p3.Base)) y1) fun p4=>bif (p4.Count==0) then (grd (0<=0∧0<=y1∧y1<=((a0.Marks.length:Nat):Int)) <| grd (0<=(wI (y1+1))∧(wI (y1+1))<=((a0.Marks.length:Nat):Int)∧((a0.Marks.length:Nat):Int)<=((a0.Marks.length:Nat):Int)) <| grd (y1.toNat≠a0.Marks.length∧(y1.toNat+(a0.Marks.length-(wI (y1+1)).toNat))<=a0.Marks.length) <| some ((TWorld.mk a0.Conf a0.Things a0.Locals a0.Globals a0.Weaks (((((a0.Marks.set y1.toNat (TMark.mk p3.Id (wI (p2.Count-1)) p3.Base)).take y1.toNat)++(((a0.Marks.set y1.toNat (TMark.mk p3.Id (wI (p2.Count-1)) p3.Base)).drop (wI (y1+1)).toNat).take (a0.Marks.length-(wI (y1+1)).toNat)))++((a0.Marks.set y1.toNat (TMark.mk p3.Id (wI (p2.Count-1)) p3.Base)).drop (y1.toNat+(a0.Marks.length-(wI (y1+1)).toNat)))).take (y1.toNat+(a0.Marks.length-(wI (y1+1)).toNat))) a0.Roots),0)) else some ((TWorld.mk a0.Conf a0.Things a0.Locals a0.Globals a0.Weaks (a0.Marks.set y1.toNat (TMark.mk p3.Id (wI (p2.Count-1)) p3.Base)) a0.Roots),0)) else bif (decide (y1>=0)) then (bnd (getI a0.Marks y1) fun p7=>bnd (getI a0.Marks y1) fun p8=>bnd (getI (a0.Marks.set y1.toNat (TMark.mk p8.Id (wI (p7.Count+1)) p8.Base)) y1) fun p9=>some ((TWorld.mk a0.Conf a0.Things a0.Locals a0.Globals a0.Weaks (a0.Marks.set y1.toNat (TMark.mk p8.Id (wI (p7.Count+1)) p8.Base)) a0.Roots),p9.Base)) else grd ((a0.Marks.length+1)*24<=140737488355328) <| some ((TWorld.mk a0.Conf a0.Things a0.Locals a0.Globals a0.Weaks (a0.Marks++[(TMark.mk a2 1 a3)]) a0.Roots),a3)
def Qed (N:Nat) (a0:TWorld) (a1:Int) (a2:Int) (a3:Int) (a4:Int) (a5:TFact):Option (TWorld×Int×Int):=bnd (Qet N a0 a1 a2 a3 a4 a5.Failed) fun y1=>bif (y1 != 0) then some ((TWorld.mk (TConf.mk 0 0) [] (TLocals.mk [] [] []) (TTable.mk []) (TTable.mk []) [] []),0,y1) else jn (fun (x3:Int)=>jn (fun (x5:Bool)=>bif x5 then (jn (fun (x7:Int) (x8:Int) (x9:List TThing) (x10:List TSlot) (x11:List TScope) (x12:List Int) (x13:List TEntry) (x14:List TEntry) (x15:List TMark) (x16:List Int)=>bnd (Qbo N a1 a2 a3) fun y17=>grd (x9.length*48<=140737488355328) <| grd (0<=y17.1.Length∧y17.1.Length.toNat*8<=140737488355328) <| grd ((x9.length+1)*48<=140737488355328) <| grd ((x9.length+1)<=140737488355328) <| bnd (Qbz N (TWorld.mk (TConf.mk x7 x8) (x9++[(TThing.mk y17.1 (List.replicate y17.1.Length.toNat 0))]) (TLocals.mk x10 x11 x12) (TTable.mk x13) (TTable.mk x14) x15 x16) (wU (((x9.length+1):Nat):Int))) fun y18=>some (y18.1,y18.2,0)) fun j4=>bif a5.Collected then (bnd (Qa4 N a0) fun y6=>j4 y6.1.Conf.PageWords y6.1.Conf.Pages y6.1.Things y6.1.Locals.Slots y6.1.Locals.Scopes y6.1.Locals.Issued y6.1.Globals.Entries y6.1.Weaks.Entries y6.1.Marks y6.1.Roots) else j4 a0.Conf.PageWords a0.Conf.Pages a0.Things a0.Locals.Slots a0.Locals.Scopes a0.Locals.Issued a0.Globals.Entries a0.Weaks.Entries a0.Marks a0.Roots) else bif (a1==4) then (bnd (getI a0.Things (wU (x3-1))) fun p19=>some (a0,(wU p19.Header.Length),0)) else bif (a1==5) then (bnd (getI a0.Things (wU (x3-1))) fun p20=>some (a0,(wU p20.Header.Kind),0)) else bif (a1==6) then (bnd (getI a0.Things (wU (x3-1))) fun p21=>bnd (getI p21.Fields a3) fun p22=>some (a0,p22,0)) else bif (a1==7) then (bnd (Qd8 N a0 x3 (wI a3) a4) fun y23=>some (y23,0,0)) else bif (a1==8) then (bnd (getI a0.Things (wU (x3-1))) fun p24=>bnd (getI p24.Fields a3) fun p25=>bnd (Qbz N a0 p25) fun y26=>some (y26.1,y26.2,0)) else bif (a1==9) then (bnd (Qao N a0 a4) fun y27=>bnd (Qd8 N a0 x3 (wI a3) y27.1) fun y28=>some (y28,0,0)) else bif (a1==10) then (bnd (Qao N a0 a3) fun y29=>bif (x3==y29.1) then some (a0,1,0) else some (a0,0,0)) else bif (a1==11) then (bnd (Qbz N a0 x3) fun y30=>some (y30.1,y30.2,0)) else jn (fun (x31:Bool)=>bif x31 then (bnd (QcF N a0 a1 x3) fun y32=>some (y32.1,y32.2,0)) else jn (fun (x34:Bool)=>bif x34 then (bnd (Qdq N a0 a2) fun y35=>some (y35,0,0)) else bif (a1==17) then (bnd (QcX N a0.Locals (wI a2)) fun y36=>some ((TWorld.mk a0.Conf a0.Things y36.1 a0.Globals a0.Weaks a0.Marks a0.Roots),0,0)) else bif (a1==18) then (bnd (QdG N a0.Locals) fun y37=>bnd (Qbz N (TWorld.mk a0.Conf a0.Things y37.1 a0.Globals a0.Weaks a0.Marks a0.Roots) x3) fun y38=>some (y38.1,y38.2,0)) else bnd (Qec N a0 a1 x3 a5.Base) fun y39=>some (y39.1,y39.2,0)) fun j7=>bif (a1==12) then j7 true else jn (fun (x33:Bool)=>j7 x33) fun j6=>bif (a1==14) then j6 true else j6 (a1==16)) fun j5=>bif (a1==13) then j5 true else j5 (a1==15)) fun j3=>bif (a1==1) then j3 true else jn (fun (x4:Bool)=>j3 x4) fun j2=>bif (a1==2) then j2 true else j2 (a1==3)) fun j1=>bif (decide (a1>3)) then (bif (a1 != 17) then (bnd (Qao N a0 a2) fun y2=>j1 y2.1) else j1 0) else j1 0
def QcG (N:Nat) (a0:TEnv) (a1:TEnv) (a2:Int) (a3:Int) (a4:Int):Option TFact:=jn (fun (x1:Bool)=>jn (fun (x2:Bool)=>bif (a2==19) then (bif (a4==0) then some (TFact.mk x1 x2 a3) else some (TFact.mk x1 x2 0)) else some (TFact.mk x1 x2 0)) fun j2=>bif (a4==0) then j2 (a0.Heap.Space != a1.Heap.Space) else j2 false) fun j1=>bif (a4==3) then j1 true else bif (a4==18) then j1 (a2==19) else j1 false
def Qd0 (N:Nat) (a0:List Int) (a1:Int):Nat->Int->Option (Ex Bool Unit)
 | 0,_=>none
 | n+1,v1 =>
  bif (decide (v1<((a0.length:Nat):Int))) then (bnd (getI a0 v1) fun p2 =>
   bif (p2==a1) then some (.ret true)
   else Qd0 N a0 a1 n (wI (v1+1)))
  else some (.nxt ())
def QbM (N:Nat) (a0:List Int) (a1:Int):Option Bool:=bnd (Qd0 N a0 a1 N 0) fun e=>exK e (fun r=>some r) fun y3=>some false
def Qfn (N:Nat) (a0:Int):Option Bool:=bif (decide (a0>=0)) then some (decide (a0<=2147483647)) else some false
def Qdd (N:Nat) (a0:List TPage) (a2:Int):Nat->Int->Int->Option Int
 | 0,_,_=>none
 | n+1,v1,v2 =>
  bif (decide (v2<((a0.length:Nat):Int))) then (bnd (getI a0 v2) fun p3 =>
   bif (p3.Kind==3) then (bnd (getI a0 v2) fun p4 =>
    bif (p4.Space==a2) then Qdd N a0 a2 n (wI (v1+1)) (wI (v2+1))
    else some v1)
   else some v1)
  else some v1
def Qe8 (N:Nat) (a0:List TPage) (a1:Int) (a2:Int):Option Int:=bnd (Qdd N a0 a2 N 0 (wI (a1+1))) fun y5=>some y5
def Qby (N:Nat) (a0:THeap):Nat->Int->Int->Option (Ex Bool Unit)
 | 0,_,_=>none
 | n+1,v3,v4 =>
  bif (decide (v4<((a0.Pages.length:Nat):Int))) then (bnd (getI a0.Pages v4) fun p5 =>
   bif (!((p5.Kind==3)==(decide (v3>0)))) then some (.ret false)
   else bif (decide (p5.Space<0)) then some (.ret false)
   else bif (decide (p5.Space>1)) then some (.ret false)
   else bnd (Qfn N p5.Pins) fun y6 =>
   bif (!y6) then some (.ret false)
   else jn (fun (x11:Int) =>
    Qby N a0 n (if 0<(wI (x11-1)) then (wI (x11-1)) else 0) (wI (v4+1))) fun j4 =>
   bif (p5.Kind==0) then (bif (!((p5.Kind==0)&&((p5.Space==0)&&((p5.Used==0)&&(p5.Pins==0))))) then some (.ret false)
    else j4 v3)
   else jn (fun (x10:Int) =>
    j4 x10) fun j3 =>
   bif (p5.Kind==1) then (bif (decide (p5.Used<0)) then some (.ret false)
    else bif (decide (p5.Used>a0.Conf.PageWords)) then some (.ret false)
    else j3 v3)
   else jn (fun (x9:Int) =>
    j3 x9) fun j2 =>
   bif (p5.Kind==2) then (bnd (QdE N a0.Conf p5.Used) fun y7 =>
    bif (decide (y7<1)) then some (.ret false)
    else bnd (Qe8 N a0.Pages v4 p5.Space) fun y8 =>
    bif (decide (y8<(wI (y7-1)))) then some (.ret false)
    else j2 y7)
   else bif (p5.Kind==3) then (bif (p5.Used != 0) then some (.ret false)
    else bif (p5.Pins != 0) then some (.ret false)
    else j2 v3)
   else some (.ret false))
  else some (.nxt ())
def Qaw (N:Nat) (a0:THeap):Option Bool:=bnd (Qak N a0.Conf) fun y1=>bif (!y1) then some false else bif (((a0.Words.length:Nat):Int) != (wI (a0.Conf.Pages*a0.Conf.PageWords))) then some false else bif (((a0.Pages.length:Nat):Int) != a0.Conf.Pages) then some false else bif (decide (a0.Space<0)) then some false else bif (decide (a0.Space>1)) then some false else jn (fun (_:Unit)=>bnd (Qby N a0 N 0 0) fun e=>exK e (fun r=>some r) fun y12=>some true) fun j1=>bif (a0.Bump != (-1)) then (bif (decide (a0.Bump<0)) then some false else bif (decide (a0.Bump>=((a0.Pages.length:Nat):Int))) then some false else bnd (getI a0.Pages a0.Bump) fun p2=>bif (p2.Kind != 1) then some false else j1 ()) else j1 ()
def Qee (N:Nat) (a0:List Int) (a1:Int) (a2:Int):Option (Int×Bool):=bif (decide (a1<4096)) then some (0,false) else bif (decide (a1>(wU (4096+(wU ((a0.length:Nat):Int)))))) then some (0,false) else some ((wI (wU (a1-4096))),(decide (a2<=(wI (((a0.length:Nat):Int)-(wI (wU (a1-4096))))))))
def QfE (N:Nat) (a0:List Int) (a1:Int):Option (Int×Int):=bnd (Qee N a0 a1 1) fun y1=>bif (!y1.2) then some (0,2) else some (y1.1,0)
def Qbs (N:Nat) (a0:List Int) (a1:Int):Option (Int×Int):=bnd (QfE N a0 a1) fun y1=>bif (y1.2 != 0) then some (0,y1.2) else bnd (getI a0 y1.1) fun p2=>some (p2,0)
def QdN (N:Nat) (a0:TConf) (a1:Int):Option (Int×Int×Int):=bnd (Qak N a0) fun y1=>bif (!y1) then some (0,0,1) else bif (decide (a1<4096)) then some (0,0,2) else bif (decide (a1>=(wU (wI (4096+(wI (a0.Pages*a0.PageWords))))))) then some (0,0,2) else grd (a0.PageWords≠0) <| grd (a0.PageWords≠0) <| some ((wI ((wI (wU (a1-4096))).tdiv a0.PageWords)),((wI (wU (a1-4096))).tmod a0.PageWords),0)
def Qb0 (N:Nat) (a0:THeader):Option (Int×Int):=bnd (QbR N a0) fun y1=>bif (!y1) then some (0,1) else some ((wU ((wU ((wU (1+(wU (4*(wU a0.Kind)))))+(wU (16*(wU a0.Length)))))+(sShl .u64 (wU a0.Map) 16))),0)
def Qbi (N:Nat) (a0:Int):Option (THeader×Bool):=bnd (Qb0 N (THeader.mk (wI (bAnd .u64 (sShr .u64 a0 2) 3)) (wI (bAnd .u64 (sShr .u64 a0 4) 4095)) (wW (sShr .u64 a0 16)))) fun y1=>bif (y1.2 != 0) then some ((THeader.mk 0 0 0),false) else bif (y1.1 != a0) then some ((THeader.mk 0 0 0),false) else some ((THeader.mk (wI (bAnd .u64 (sShr .u64 a0 2) 3)) (wI (bAnd .u64 (sShr .u64 a0 4) 4095)) (wW (sShr .u64 a0 16))),true)
def Qbt (N:Nat) (a0:THeap) (a1:Int):Option (THeader×Int):=bnd (Qaw N a0) fun y1=>bif (!y1) then some ((THeader.mk 0 0 0),1) else bnd (QdN N a0.Conf a1) fun y2=>bif (y2.2.2 != 0) then some ((THeader.mk 0 0 0),2) else bnd (getI a0.Pages y2.1) fun p3=>bnd (Qbs N a0.Words a1) fun y4=>bnd (Qbi N y4.1) fun y5=>jn (fun (_:Unit)=>bnd (QbE N y5.1) fun y6=>bif (p3.Kind==1) then (bif (decide ((wI (y2.2.1+y6))>p3.Used)) then some ((THeader.mk 0 0 0),19) else bif (p3.Kind==2) then (bif (y2.2.1 != 0) then some ((THeader.mk 0 0 0),19) else bif (y6 != p3.Used) then some ((THeader.mk 0 0 0),19) else some (y5.1,0)) else some (y5.1,0)) else bif (p3.Kind==2) then (bif (y2.2.1 != 0) then some ((THeader.mk 0 0 0),19) else bif (y6 != p3.Used) then some ((THeader.mk 0 0 0),19) else some (y5.1,0)) else some (y5.1,0)) fun j1=>bif (p3.Kind != 1) then (bif (p3.Kind != 2) then some ((THeader.mk 0 0 0),19) else bif (decide (y2.2.1>=p3.Used)) then some ((THeader.mk 0 0 0),19) else bif (!y5.2) then some ((THeader.mk 0 0 0),19) else j1 ()) else bif (decide (y2.2.1>=p3.Used)) then some ((THeader.mk 0 0 0),19) else bif (!y5.2) then some ((THeader.mk 0 0 0),19) else j1 ()
def Qb9 (N:Nat) (a0:TConf) (a1:Int) (a2:Int):Option (Int×Int):=bnd (Qak N a0) fun y1=>bif (!y1) then some (0,1) else bif (decide (a1<0)) then some (0,2) else bif (decide (a1>=a0.Pages)) then some (0,2) else bif (decide (a2<0)) then some (0,2) else bif (decide (a2>=a0.PageWords)) then some (0,2) else some ((wU (wI ((wI (4096+(wI (a1*a0.PageWords))))+a2))),0)
def Qbp (N:Nat) (a0:THeap) (a1:Int) (p2:TPage):Nat->Int->(List Int)->Option (Ex (List Int×Int) (List Int))
 | 0,_,_=>none
 | n+1,v3,v4 =>
  bif (decide (v3<p2.Used)) then (bnd (Qb9 N a0.Conf a1 v3) fun y5 =>
   bnd (Qbt N a0 y5.1) fun y6 =>
   bif (y6.2 != 0) then some (.ret ([],19))
   else grd ((v4.length+1)*8<=140737488355328) <|
   bif (p2.Kind==2) then some (.nxt (v4++[y5.1]))
   else bnd (QbE N y6.1) fun y7 =>
   Qbp N a0 a1 p2 n (wI (v3+y7)) (v4++[y5.1]))
  else some (.nxt v4)
def QaJ (N:Nat) (a0:THeap) (a1:Int):Option (List Int×Int):=bnd (Qaw N a0) fun y1=>bif (!y1) then some ([],1) else bif (decide (a1<0)) then some ([],2) else bif (decide (a1>=((a0.Pages.length:Nat):Int))) then some ([],2) else bnd (getI a0.Pages a1) fun p2=>bif (p2.Kind==0) then some ([],0) else bif (p2.Kind==3) then some ([],0) else bnd (Qbp N a0 a1 p2 N 0 []) fun e=>exK e (fun r=>some r) fun y8=>some (y8,0)
def Qba (N:Nat) (a0:THeap) (a1:Int) (a2:List Int):Nat->Int->Option (Ex Int Unit)
 | 0,_=>none
 | n+1,v1 =>
  bif (decide (v1<((a2.length:Nat):Int))) then (bnd (getI a2 v1) fun p2 =>
   bnd (Qbt N a0 p2) fun y3 =>
   bnd (QbE N y3.1) fun y4 =>
   bnd (Qcl N a0.Conf) fun y5 =>
   bnd (getI a0.Pages a1) fun p6 =>
   bif (p6.Kind==1) then (bif (!(decide (y4<=y5))) then (bnd (getI a2 v1) fun p9 =>
       some (.ret p9))
    else bnd (getI a0.Pages a1) fun p7 =>
    bif (p7.Kind==2) then (bif (y3.1.Kind==0) then (bnd (getI a2 v1) fun p10 =>
        some (.ret p10))
     else Qba N a0 a1 a2 n (wI (v1+1)))
    else Qba N a0 a1 a2 n (wI (v1+1)))
   else bnd (getI a0.Pages a1) fun p8 =>
   bif (p8.Kind==2) then (bif (y3.1.Kind==0) then (bnd (getI a2 v1) fun p11 =>
       some (.ret p11))
    else Qba N a0 a1 a2 n (wI (v1+1)))
   else Qba N a0 a1 a2 n (wI (v1+1)))
  else some (.nxt ())
def Qex (N:Nat) (a0:THeap) (a1:Int) (a2:List Int):Option Int:=bnd (Qba N a0 a1 a2 N 0) fun e=>exK e (fun r=>some r) fun y12=>some 0
def QdA (N:Nat) (a0:THeap):Nat->Int->Option Int
 | 0,_=>none
 | n+1,v1 =>
  bnd (getI a0.Pages v1) fun p2 =>
  bif (p2.Kind==3) then QdA N a0 n (wI (v1-1))
  else some v1
def QfS (N:Nat) (a0:THeap) (a1:Int):Option Int:=bnd (QdA N a0 N a1) fun y3=>some y3
def QbF (N:Nat) (a0:THeap) (a1:Int) (a2:List Int) (v1:Int) (x6:Int):Nat->Int->(List Bool)->Option (List Bool)
 | 0,_,_=>none
 | n+1,v7,v8 =>
  bif (decide (v7<x6)) then (bnd (getI a2 v1) fun p9 =>
   bif (decide ((wI ((wI ((wI ((wI p9)-4096))+v7))-(wI (a1*a0.Conf.PageWords))))>=0)) then (grd (v8.length<=140737488355328) <|
    bif (decide ((wI ((wI ((wI ((wI p9)-4096))+v7))-(wI (a1*a0.Conf.PageWords))))<((v8.length:Nat):Int))) then (bnd (getI v8 (wI ((wI ((wI ((wI p9)-4096))+v7))-(wI (a1*a0.Conf.PageWords))))) fun p10 =>
     QbF N a0 a1 a2 v1 x6 n (wI (v7+1)) (v8.set (wI ((wI ((wI ((wI p9)-4096))+v7))-(wI (a1*a0.Conf.PageWords)))).toNat true))
    else QbF N a0 a1 a2 v1 x6 n (wI (v7+1)) v8)
   else QbF N a0 a1 a2 v1 x6 n (wI (v7+1)) v8)
  else some v8
def QcH (N:Nat) (a0:THeap) (a1:Int) (a2:List Int):Nat->Int->(List Bool)->Option (List Bool)
 | 0,_,_=>none
 | n+1,v1,v2 =>
  bif (decide (v1<((a2.length:Nat):Int))) then (bnd (getI a2 v1) fun p3 =>
   bnd (Qbt N a0 p3) fun y4 =>
   bnd (QbE N y4.1) fun y5 =>
   jn (fun (x6:Int) =>
    bnd (QbF N a0 a1 a2 v1 x6 N 0 v2) fun y11 =>
    QcH N a0 a1 a2 n (wI (v1+1)) y11) fun j1 =>
   bif (y4.1.Kind==0) then j1 1
   else j1 y5)
  else some v2
def QfT (N:Nat) (a0:THeap) (a1:Int) (a2:List Int):Option (List Bool):=grd (0<=a0.Conf.PageWords∧a0.Conf.PageWords.toNat<=140737488355328) <| bnd (QcH N a0 a1 a2 N 0 (List.replicate a0.Conf.PageWords.toNat false)) fun y12=>some y12
def QfU (N:Nat) (a0:THeap) (a1:Int) (a2:Int):Option Int:=bnd (Qb9 N a0.Conf a1 a2) fun y1=>bnd (Qbs N a0.Words y1.1) fun y2=>some y2.1
def Qfo (N:Nat) (a0:THeap) (a1:Int) (a2:Int):Option Int:=bnd (QfU N a0 a1 a2) fun y1=>some y1
def Qfb (N:Nat) (a0:THeap) (a1:Int) (a2:Int):Option Int:=some (wU (wI ((wI (4096+(wI (a1*a0.Conf.PageWords))))+a2)))
def QcI (N:Nat) (a0:THeap) (a1:Int) (y3:List Bool):Nat->Int->Option (Ex Int Unit)
 | 0,_=>none
 | n+1,v4 =>
  bif (decide (v4<((y3.length:Nat):Int))) then (bnd (getI y3 v4) fun p5 =>
   bif (!p5) then (bnd (Qfo N a0 a1 v4) fun y6 =>
    bif (y6 != 0) then (bnd (Qfb N a0 a1 v4) fun y7 =>
     some (.ret y7))
    else QcI N a0 a1 y3 n (wI (v4+1)))
   else QcI N a0 a1 y3 n (wI (v4+1)))
  else some (.nxt ())
def QeS (N:Nat) (a0:THeap) (a1:Int):Option Int:=bnd (QfS N a0 a1) fun y1=>bnd (QaJ N a0 y1) fun y2=>bnd (QfT N a0 a1 y2.1) fun y3=>bnd (QcI N a0 a1 y3 N 0) fun e=>exK e (fun r=>some r) fun y8=>some 0
def Qfp (N:Nat) (a0:THeap) (a1:Int):Option TFinding:=jn (fun (_:Unit)=>bnd (QaJ N a0 a1) fun y3=>bif (y3.2 != 0) then some (TFinding.mk 3 a1 0) else bnd (Qex N a0 a1 y3.1) fun y4=>bif (y4 != 0) then some (TFinding.mk 5 a1 y4) else bnd (QeS N a0 a1) fun y5=>bif (y5 != 0) then some (TFinding.mk 4 a1 y5) else some (TFinding.mk 0 0 0)) fun j1=>bnd (getI a0.Pages a1) fun p1=>bif (p1.Kind != 0) then (bnd (getI a0.Pages a1) fun p2=>bif (p2.Space != a0.Space) then some (TFinding.mk 2 a1 0) else j1 ()) else j1 ()
def Qcx (N:Nat) (a0:THeap) (a1:Int):Option (THeader×Int):=bnd (Qaw N a0) fun y1=>bif (!y1) then some ((THeader.mk 0 0 0),1) else bif (a1==0) then some ((THeader.mk 0 0 0),5) else bnd (Qbt N a0 a1) fun y2=>bif (y2.2==0) then (bif (y2.1.Kind==0) then some ((THeader.mk 0 0 0),4) else some (y2.1,y2.2)) else some (y2.1,y2.2)
def Qa0 (N:Nat) (a0:THeap):Nat->Int->(List Int)->Option (Ex (List Int×Int) (List Int))
 | 0,_,_=>none
 | n+1,v2,v3 =>
  bif (decide (v2<((a0.Pages.length:Nat):Int))) then (bnd (QaJ N a0 v2) fun y4 =>
   bif (y4.2 != 0) then some (.ret ([],y4.2))
   else grd ((v3.length+y4.1.length)*8<=140737488355328) <|
   Qa0 N a0 n (wI (v2+1)) (v3++y4.1))
  else some (.nxt v3)
def Qdr (N:Nat) (a0:THeap):Option (List Int×Int):=bnd (Qaw N a0) fun y1=>bif (!y1) then some ([],1) else bnd (Qa0 N a0 N 0 []) fun e=>exK e (fun r=>some r) fun y5=>some (y5,0)
def QaB (N:Nat) (a0:THeap) (y1:List Int×Int):Nat->Int->(List Int)->Option (List Int)
 | 0,_,_=>none
 | n+1,v2,v3 =>
  bif (decide (v2<((y1.1.length:Nat):Int))) then (bnd (getI y1.1 v2) fun p4 =>
   bnd (Qbt N a0 p4) fun y5 =>
   bif (y5.1.Kind != 0) then (bnd (getI y1.1 v2) fun p6 =>
    grd ((v3.length+1)*8<=140737488355328) <|
    QaB N a0 y1 n (wI (v2+1)) (v3++[p6]))
   else QaB N a0 y1 n (wI (v2+1)) v3)
  else some v3
def Qa7 (N:Nat) (a0:THeap):Option (List Int×Int):=bnd (Qdr N a0) fun y1=>bnd (QaB N a0 y1 N 0 []) fun y7=>some (y7,y1.2)
def QdH (N:Nat) (a0:List Int) (a1:Int) (a2:Int):Option (List Int×Int):=bif (decide (a2<0)) then some ([],1) else bnd (Qee N a0 a1 a2) fun y1=>bif (!y1.2) then some ([],2) else grd (0<=y1.1∧y1.1<=(wI (y1.1+a2))∧(wI (y1.1+a2))<=((a0.length:Nat):Int)) <| grd ((min ((wI (y1.1+a2)).toNat-y1.1.toNat) (a0.length-y1.1.toNat))*8<=140737488355328) <| some (((a0.drop y1.1.toNat).take ((wI (y1.1+a2)).toNat-y1.1.toNat)),0)
def QeI (N:Nat) (a0:THeap) (a1:Int):Option (List Int×Int):=bnd (Qcx N a0 a1) fun y1=>bif (y1.2 != 0) then some ([],y1.2) else bnd (QdH N a0.Words (wU (a1+1)) y1.1.Length) fun y2=>some (y2.1,y2.2)
def Qbe (N:Nat) (a0:THeap) (y1:List Int×Int) (y6:List Int×Int) (v2:Int) (y4:THeader×Int):Nat->Int->Option (Ex TFinding Unit)
 | 0,_=>none
 | n+1,v7 =>
  bif (decide (v7<((y6.1.length:Nat):Int))) then (bnd (Qbm N y4.1 v7) fun y8 =>
   bif y8 then (bnd (getI y6.1 v7) fun p9 =>
    bif (p9 != 0) then (bnd (getI y6.1 v7) fun p10 =>
     bnd (QbM N y1.1 p10) fun y11 =>
     bif (!y11) then (bnd (getI y1.1 v2) fun p12 =>
      bnd (QdN N a0.Conf (wU ((wU (p12+1))+(wU v7)))) fun y13 =>
      some (.ret (TFinding.mk 6 y13.1 (wU ((wU (p12+1))+(wU v7))))))
     else Qbe N a0 y1 y6 v2 y4 n (wI (v7+1)))
    else Qbe N a0 y1 y6 v2 y4 n (wI (v7+1)))
   else Qbe N a0 y1 y6 v2 y4 n (wI (v7+1)))
  else some (.nxt ())
def Qb5 (N:Nat) (a0:THeap) (y1:List Int×Int):Nat->Int->Option (Ex TFinding Unit)
 | 0,_=>none
 | n+1,v2 =>
  bif (decide (v2<((y1.1.length:Nat):Int))) then (bnd (getI y1.1 v2) fun p3 =>
   bnd (Qcx N a0 p3) fun y4 =>
   bnd (getI y1.1 v2) fun p5 =>
   bnd (QeI N a0 p5) fun y6 =>
   bnd (Qbe N a0 y1 y6 v2 y4 N 0) fun e=>exK e (fun r=>some (.ret r)) fun y14 =>
   Qb5 N a0 y1 n (wI (v2+1)))
  else some (.nxt ())
def Qd1 (N:Nat) (a0:THeap):Option TFinding:=bnd (Qa7 N a0) fun y1=>bnd (Qb5 N a0 y1 N 0) fun e=>exK e (fun r=>some r) fun y15=>some (TFinding.mk 0 0 0)
def Qde (N:Nat) (a0:THeap):Nat->Int->Option (Ex TFinding Unit)
 | 0,_=>none
 | n+1,v2 =>
  bif (decide (v2<((a0.Pages.length:Nat):Int))) then (bnd (Qfp N a0 v2) fun y3 =>
   bif (y3.Fault != 0) then some (.ret y3)
   else Qde N a0 n (wI (v2+1)))
  else some (.nxt ())
def QbN (N:Nat) (a0:THeap):Nat->Int->Int->Option Int
 | 0,_,_=>none
 | n+1,v6,v7 =>
  bif (decide (v7<((a0.Pages.length:Nat):Int))) then (bnd (getI a0.Pages v7) fun p8 =>
   bif (p8.Kind==1) then (bnd (getI a0.Pages v7) fun p9 =>
    bif (decide (p9.Pins>0)) then QbN N a0 n (wI (v6+1)) (wI (v7+1))
    else QbN N a0 n v6 (wI (v7+1)))
   else QbN N a0 n v6 (wI (v7+1)))
  else some v6
def QfF (N:Nat) (a0:THeap):Option TFinding:=bnd (Qaw N a0) fun y1=>bif (!y1) then some (TFinding.mk 1 0 0) else bnd (Qde N a0 N 0) fun e=>exK e (fun r=>some r) fun y4=>bnd (Qd1 N a0) fun y5=>bif (y5.Fault != 0) then some y5 else bnd (QbN N a0 N 0 0) fun y10=>bif (decide (y10>(wI (a0.Conf.Pages.tdiv 4)))) then some (TFinding.mk 7 0 0) else some (TFinding.mk 0 0 0)
def QdI (N:Nat) (a0:THeap):Option Bool:=bnd (QfF N a0) fun y1=>some ((y1.Fault==0)&&((y1.Page==0)&&(y1.Addr==0)))
def Qey (N:Nat) (a0:List TPin) (a1:Int):Nat->Int->Option (Ex Int Unit)
 | 0,_=>none
 | n+1,v1 =>
  bif (decide (v1<((a0.length:Nat):Int))) then (bnd (getI a0 v1) fun p2 =>
   bif (p2.Ref==a1) then some (.ret v1)
   else Qey N a0 a1 n (wI (v1+1)))
  else some (.nxt ())
def Qfd (N:Nat) (a0:List TPin) (a1:Int):Option Int:=bnd (Qey N a0 a1 N 0) fun e=>exK e (fun r=>some r) fun y3=>some (-1)
def Qef (N:Nat) (a0:THeap) (a1:Int):Option Int:=bnd (QdN N a0.Conf a1) fun y1=>some y1.1
def Qdf (N:Nat) (a0:THeap) (a1:List TPin) (y2:List Int×Int):Nat->Int->(List Int)->Option (Ex Bool (List Int))
 | 0,_,_=>none
 | n+1,v3,v4 =>
  bif (decide (v3<((a1.length:Nat):Int))) then (bnd (getI a1 v3) fun p5 =>
   bnd (QbM N y2.1 p5.Ref) fun y6 =>
   bif (!y6) then some (.ret false)
   else bnd (getI a1 v3) fun p7 =>
   bnd (Qfd N a1 p7.Ref) fun y8 =>
   bif (y8 != v3) then some (.ret false)
   else bnd (getI a1 v3) fun p9 =>
   bif (decide (p9.Count<1)) then some (.ret false)
   else bnd (getI a1 v3) fun p10 =>
   bif (decide (p10.Count>1000)) then some (.ret false)
   else bnd (getI a1 v3) fun p11 =>
   bnd (Qef N a0 p11.Ref) fun y12 =>
   bnd (getI v4 y12) fun p13 =>
   bnd (getI a1 v3) fun p14 =>
   bnd (getI v4 y12) fun p15 =>
   Qdf N a0 a1 y2 n (wI (v3+1)) (v4.set y12.toNat (wI (p13+p14.Count))))
  else some (.nxt v4)
def Qdg (N:Nat) (a0:THeap) (y16:List Int):Nat->Int->Option (Ex Bool Unit)
 | 0,_=>none
 | n+1,v17 =>
  bif (decide (v17<((a0.Pages.length:Nat):Int))) then (bnd (getI a0.Pages v17) fun p18 =>
   bnd (getI y16 v17) fun p19 =>
   bif (p18.Pins != p19) then some (.ret false)
   else Qdg N a0 y16 n (wI (v17+1)))
  else some (.nxt ())
def QdO (N:Nat) (a0:THeap) (a1:List TPin):Option Bool:=bnd (QdI N a0) fun y1=>bif (!y1) then some false else bif (decide (((a1.length:Nat):Int)>64)) then some false else bnd (Qa7 N a0) fun y2=>grd (0<=((a0.Pages.length:Nat):Int)∧((a0.Pages.length:Nat):Int).toNat*8<=140737488355328) <| bnd (Qdf N a0 a1 y2 N 0 (List.replicate ((a0.Pages.length:Nat):Int).toNat 0)) fun e=>exK e (fun r=>some r) fun y16=>bnd (Qdg N a0 y16 N 0) fun e=>exK e (fun r=>some r) fun y20=>some true
def Qb1 (N:Nat) (a1:List Int) (y2:List Int×Int):Nat->Int->Option (Ex Bool Unit)
 | 0,_=>none
 | n+1,v3 =>
  bif (decide (v3<((a1.length:Nat):Int))) then (bnd (getI a1 v3) fun p4 =>
   bif (p4 != 0) then (bnd (getI a1 v3) fun p5 =>
    bnd (QbM N y2.1 p5) fun y6 =>
    bif (!y6) then some (.ret false)
    else Qb1 N a1 y2 n (wI (v3+1)))
   else Qb1 N a1 y2 n (wI (v3+1)))
  else some (.nxt ())
def Qds (N:Nat) (a0:THeap) (a1:List Int):Option Bool:=bnd (QdI N a0) fun y1=>bif (!y1) then some false else bnd (Qa7 N a0) fun y2=>bnd (Qb1 N a1 y2 N 0) fun e=>exK e (fun r=>some r) fun y7=>some true
def Qc4 (N:Nat) (a0:TEnv):Option Bool:=bnd (QdO N a0.Heap a0.Pins) fun y1=>bif (!y1) then some false else bnd (Qbn N a0.Locals) fun y2=>bif (!y2) then some false else bnd (Qbl N a0.Globals) fun y3=>bif (!y3) then some false else bnd (Qbl N a0.Weaks) fun y4=>bif (!y4) then some false else bnd (QaR N a0.Globals) fun y5=>bnd (QbM N y5 0) fun y6=>bif y6 then some false else grd (a0.Roots.length*8<=140737488355328) <| bnd (QbC N a0.Locals) fun y7=>grd ((a0.Roots.length+y7.length)*8<=140737488355328) <| grd (((a0.Roots.length+y7.length)+y5.length)*8<=140737488355328) <| bnd (QaR N a0.Weaks) fun y8=>grd ((((a0.Roots.length+y7.length)+y5.length)+y8.length)*8<=140737488355328) <| bnd (Qds N a0.Heap (((a0.Roots++y7)++y5)++y8)) fun y9=>some y9
def QbO (N:Nat) (a0:THeap) (y3:List Int×Int):Nat->Int->(List TPage)->Option (List TPage)
 | 0,_,_=>none
 | n+1,v4,v5 =>
  grd (v5.length<=140737488355328) <|
  bif (decide (v4<((v5.length:Nat):Int))) then (bnd (getI v5 v4) fun p6 =>
   bif (p6.Kind==1) then (bif (decide (p6.Pins>0)) then (bnd (getI v5 v4) fun p7 =>
       QbO N a0 y3 n (wI (v4+1)) (v5.set v4.toNat (TPage.mk p7.Kind (wI (1-a0.Space)) p7.Used p7.Pins)))
    else QbO N a0 y3 n (wI (v4+1)) v5)
   else QbO N a0 y3 n (wI (v4+1)) v5)
  else some v5
def QdP (N:Nat) (a0:THeap):Option (TWork×Int):=bnd (Qaw N a0) fun y1=>bif (!y1) then some ((TWork.mk (THeap.mk (TConf.mk 0 0) [] [] 0 0) [] [] [] 0 (TReport.mk 0 0 0 0 0 0)),1) else bnd (QdI N a0) fun y2=>bif (!y2) then some ((TWork.mk (THeap.mk (TConf.mk 0 0) [] [] 0 0) [] [] [] 0 (TReport.mk 0 0 0 0 0 0)),19) else bnd (Qa7 N a0) fun y3=>grd (a0.Pages.length*32<=140737488355328) <| bnd (QbO N a0 y3 N 0 a0.Pages) fun y8=>some ((TWork.mk (THeap.mk a0.Conf a0.Words y8 a0.Space a0.Bump) y3.1 [] [] 0 (TReport.mk 0 0 0 0 0 0)),0)
def Qcy (N:Nat) (a0:Int):Option (Int×Bool):=bif ((a0.tmod 4) != 2) then some (0,false) else bif (decide ((sShr .u64 a0 2)>=4294967296)) then some (0,false) else some ((sShr .u64 a0 2),true)
def Qdh (N:Nat) (a0:TWork) (a1:Int):Nat->Int->Option (Ex Bool Unit)
 | 0,_=>none
 | n+1,v1 =>
  bif (decide (v1<((a0.Taken.length:Nat):Int))) then (bnd (getI a0.Taken v1) fun p2 =>
   bif (p2==a1) then some (.ret true)
   else Qdh N a0 a1 n (wI (v1+1)))
  else some (.nxt ())
def QfG (N:Nat) (a0:TWork) (a1:Int):Option Bool:=bnd (Qdh N a0 a1 N 0) fun e=>exK e (fun r=>some r) fun y3=>some false
def Qdi (N:Nat) (a0:TWork) (a1:Int):Option Bool:=bif (decide (a1<0)) then some false else bif (decide (a1>=((a0.Heap.Pages.length:Nat):Int))) then some false else bnd (getI a0.Heap.Pages a1) fun p1=>bif (p1.Kind==1) then (bif (p1.Space != a0.Heap.Space) then (bnd (QfG N a0 a1) fun y2=>some (!y2)) else some false) else some false
def Qbb (N:Nat) (a2:List Int) (y1:Int×Bool):Nat->Int->(List Int)->Option (List Int)
 | 0,_,_=>none
 | n+1,v2,v3 =>
  bif (decide (v2<((a2.length:Nat):Int))) then (bnd (getI a2 v2) fun p4 =>
   bnd (getI v3 (wI (y1.1+v2))) fun p5 =>
   Qbb N a2 y1 n (wI (v2+1)) (v3.set (wI (y1.1+v2)).toNat p4))
  else some v3
def QbT (N:Nat) (a0:List Int) (a1:Int) (a2:List Int):Option (List Int×Int):=bnd (Qee N a0 a1 ((a2.length:Nat):Int)) fun y1=>bif (!y1.2) then some ([],2) else grd (a0.length*8<=140737488355328) <| bnd (Qbb N a2 y1 N 0 a0) fun y6=>some (y6,0)
def Qct (N:Nat) (a0:List Int) (a1:Int) (a2:Int):Option (List Int×Int):=bnd (QbT N a0 a1 [a2]) fun y1=>some (y1.1,y1.2)
def QdJ (N:Nat) (a0:TWork) (a1:Int):Option TWork:=grd (a0.Queue.length*8<=140737488355328) <| grd ((a0.Queue.length+1)*8<=140737488355328) <| some (TWork.mk a0.Heap a0.Old a0.Taken (a0.Queue++[a1]) a0.Scanned (TReport.mk a0.Report.Copied (wI (a0.Report.Kept+1)) a0.Report.Filled a0.Report.Freed a0.Report.Cleared a0.Report.Steps))
def QbG (N:Nat) (a0:List TPage):Nat->Int->(List TRun)->Option (List TRun)
 | 0,_,_=>none
 | n+1,v1,v2 =>
  bif (decide (v1<((a0.length:Nat):Int))) then (bnd (getI a0 v1) fun p3 =>
   bif (p3.Kind != 0) then QbG N a0 n (wI (v1+1)) v2
   else grd (v2.length<=140737488355328) <|
   jn (fun (_:Unit) =>
    grd ((v2.length+1)*16<=140737488355328) <|
    QbG N a0 n (wI (v1+1)) (v2++[(TRun.mk v1 1)])) fun j1 =>
   bif (decide (((v2.length:Nat):Int)>0)) then (bnd (getI v2 (wI (((v2.length:Nat):Int)-1))) fun p4 =>
    bnd (getI v2 (wI (((v2.length:Nat):Int)-1))) fun p5 =>
    bif ((wI (p4.From+p5.Len))==v1) then (bnd (getI v2 (wI (((v2.length:Nat):Int)-1))) fun p6 =>
     bnd (getI v2 (wI (((v2.length:Nat):Int)-1))) fun p7 =>
     QbG N a0 n (wI (v1+1)) (v2.set (wI (((v2.length:Nat):Int)-1)).toNat (TRun.mk p7.From (wI (p6.Len+1)))))
    else j1 ())
   else j1 ())
  else some v2
def QfV (N:Nat) (a0:List TPage):Option (List TRun):=bnd (QbG N a0 N 0 []) fun y8=>some y8
def Qcm (N:Nat) (a1:Int) (y1:List TRun):Nat->Int->Option (Ex Int Unit)
 | 0,_=>none
 | n+1,v2 =>
  bif (decide (v2<((y1.length:Nat):Int))) then (bif (decide (a1>=1)) then (bnd (getI y1 v2) fun p3 =>
      bif (decide (p3.Len>=a1)) then (bnd (getI y1 v2) fun p4 =>
       some (.ret p4.From))
      else Qcm N a1 y1 n (wI (v2+1)))
   else Qcm N a1 y1 n (wI (v2+1)))
  else some (.nxt ())
def Qc5 (N:Nat) (a0:List TPage) (a1:Int):Option Int:=bnd (QfV N a0) fun y1=>bnd (Qcm N a1 y1 N 0) fun e=>exK e (fun r=>some r) fun y5=>some (-1)
def QdB (N:Nat) (a1:Int) (a2:Int) (a3:TPage) (a4:TPage):Nat->Int->(List TPage)->Option (Ex (List TPage×Int) (List TPage))
 | 0,_,_=>none
 | n+1,v1,v2 =>
  bif (decide (v1<a2)) then (bnd (getI v2 (wI (a1+v1))) fun p3 =>
   bif (p3.Kind != 0) then some (.ret ([],20))
   else bnd (getI v2 (wI (a1+v1))) fun p4 =>
   QdB N a1 a2 a3 a4 n (wI (v1+1)) (v2.set (wI (a1+v1)).toNat a4))
  else some (.nxt v2)
def QeT (N:Nat) (a0:List TPage) (a1:Int) (a2:Int) (a3:TPage) (a4:TPage):Option (List TPage×Int):=bif (decide (a1<0)) then some ([],2) else bif (decide (a1>=((a0.length:Nat):Int))) then some ([],2) else bif (decide (a2>(wI (((a0.length:Nat):Int)-a1)))) then some ([],2) else grd (a0.length*32<=140737488355328) <| bnd (QdB N a1 a2 a3 a4 N 0 a0) fun e=>exK e (fun r=>some r) fun y5=>bnd (getI y5 a1) fun p6=>some ((y5.set a1.toNat a3),0)
def Qc6 (N:Nat) (a0:List TPage) (a1:Int) (a2:Int):Option (List TPage×Int):=bif (decide (a2<0)) then some ([],1) else bif (decide (a2>1)) then some ([],1) else bnd (QeT N a0 a1 1 (TPage.mk 1 a2 0 0) (TPage.mk 0 0 0 0)) fun y1=>some (y1.1,y1.2)
def Qc7 (N:Nat) (a0:TWork) (a1:Int):Option (TWork×Int×Bool):=grd (a0.Heap.Pages.length*32<=140737488355328) <| jn (fun (_:Unit)=>bnd (Qc5 N a0.Heap.Pages 1) fun y4=>bif (decide (y4<0)) then some ((TWork.mk (THeap.mk (TConf.mk 0 0) [] [] 0 0) [] [] [] 0 (TReport.mk 0 0 0 0 0 0)),0,false) else bnd (Qc6 N a0.Heap.Pages y4 (wI (1-a0.Heap.Space))) fun y5=>grd (a0.Taken.length*8<=140737488355328) <| grd ((a0.Taken.length+1)*8<=140737488355328) <| bnd (getI y5.1 y4) fun p13=>bnd (getI y5.1 y4) fun p14=>bnd (getI y5.1 y4) fun p15=>some ((TWork.mk (THeap.mk a0.Heap.Conf a0.Heap.Words (y5.1.set y4.toNat (TPage.mk p15.Kind p15.Space (wI (p14.Used+a1)) p15.Pins)) a0.Heap.Space a0.Heap.Bump) a0.Old (a0.Taken++[y4]) a0.Queue a0.Scanned a0.Report),(wU (wI ((wI (4096+(wI (y4*a0.Heap.Conf.PageWords))))+p13.Used))),true)) fun j1=>bif (decide (((a0.Taken.length:Nat):Int)>0)) then (bnd (getI a0.Taken (wI (((a0.Taken.length:Nat):Int)-1))) fun p1=>bnd (getI a0.Heap.Pages p1) fun p2=>bif (decide ((wI (p2.Used+a1))<=a0.Heap.Conf.PageWords)) then (bnd (getI a0.Taken (wI (((a0.Taken.length:Nat):Int)-1))) fun p3=>bnd (getI a0.Heap.Pages p3) fun p10=>bnd (getI a0.Heap.Pages p3) fun p11=>bnd (getI a0.Heap.Pages p3) fun p12=>some ((TWork.mk (THeap.mk a0.Heap.Conf a0.Heap.Words (a0.Heap.Pages.set p3.toNat (TPage.mk p12.Kind p12.Space (wI (p11.Used+a1)) p12.Pins)) a0.Heap.Space a0.Heap.Bump) a0.Old a0.Taken a0.Queue a0.Scanned a0.Report),(wU (wI ((wI (4096+(wI (p3*a0.Heap.Conf.PageWords))))+p10.Used))),true)) else j1 ()) else j1 ()
def Qeg (N:Nat) (a0:List Int) (a1:Int) (a2:Int) (a3:Int):Option (List Int×Int):=bnd (QdH N a0 a2 a3) fun y1=>bif (y1.2 != 0) then some ([],y1.2) else bnd (QbT N a0 a1 y1.1) fun y2=>some (y2.1,y2.2)
def QcJ (N:Nat) (a0:Int):Option (Int×Int):=bif (decide (a0>=4294967296)) then some (0,1) else some ((wU ((wU (4*a0))+2)),0)
def Qcn (N:Nat) (a0:TWork) (a1:Int):Nat->Int->(List TPage)->Option (List TPage)
 | 0,_,_=>none
 | n+1,v10,v11 =>
  grd (v11.length<=140737488355328) <|
  bif (decide (v10<((v11.length:Nat):Int))) then (bnd (getI v11 v10) fun p12 =>
   bif (p12.Kind==3) then (bnd (getI v11 v10) fun p13 =>
    Qcn N a0 a1 n (wI (v10+1)) (v11.set v10.toNat (TPage.mk p13.Kind (wI (1-a0.Heap.Space)) p13.Used p13.Pins)))
   else some v11)
  else some v11
def Qca (N:Nat) (a0:TWork) (a1:Int):Option (TWork×Int×Int):=bif (a1==0) then some (a0,a1,0) else bnd (QbM N a0.Queue a1) fun y1=>bif y1 then some (a0,a1,0) else bnd (QbM N a0.Old a1) fun y2=>bif (!y2) then some ((TWork.mk (THeap.mk (TConf.mk 0 0) [] [] 0 0) [] [] [] 0 (TReport.mk 0 0 0 0 0 0)),0,19) else bnd (Qbs N a0.Heap.Words a1) fun y3=>bnd (Qcy N y3.1) fun y4=>bif y4.2 then some (a0,y4.1,0) else bnd (QdN N a0.Heap.Conf a1) fun y5=>bif (y5.2.2 != 0) then some ((TWork.mk (THeap.mk (TConf.mk 0 0) [] [] 0 0) [] [] [] 0 (TReport.mk 0 0 0 0 0 0)),0,19) else bif (decide (y5.1>=((a0.Heap.Pages.length:Nat):Int))) then some ((TWork.mk (THeap.mk (TConf.mk 0 0) [] [] 0 0) [] [] [] 0 (TReport.mk 0 0 0 0 0 0)),0,19) else bnd (Qdi N a0 y5.1) fun y6=>bif y6 then (bnd (QdJ N a0 a1) fun y7=>some (y7,a1,0)) else bnd (getI a0.Heap.Pages y5.1) fun p8=>bif (p8.Kind==2) then (grd (a0.Heap.Pages.length*32<=140737488355328) <| bnd (getI a0.Heap.Pages y5.1) fun p9=>bnd (Qcn N a0 a1 N (wI (y5.1+1)) (a0.Heap.Pages.set y5.1.toNat (TPage.mk p9.Kind (wI (1-a0.Heap.Space)) p9.Used p9.Pins))) fun y14=>bnd (QdJ N (TWork.mk (THeap.mk a0.Heap.Conf a0.Heap.Words y14 a0.Heap.Space a0.Heap.Bump) a0.Old a0.Taken a0.Queue a0.Scanned a0.Report) a1) fun y15=>some (y15,a1,0)) else bnd (Qbi N y3.1) fun y16=>bnd (QbE N y16.1) fun y17=>bnd (Qc7 N a0 y17) fun y18=>bif (!y18.2.2) then some ((TWork.mk (THeap.mk (TConf.mk 0 0) [] [] 0 0) [] [] [] 0 (TReport.mk 0 0 0 0 0 0)),0,3) else bnd (Qeg N y18.1.Heap.Words y18.2.1 a1 y17) fun y19=>bnd (QcJ N y18.2.1) fun y20=>bnd (Qct N y19.1 a1 y20.1) fun y21=>grd (y18.1.Queue.length*8<=140737488355328) <| grd ((y18.1.Queue.length+1)*8<=140737488355328) <| some ((TWork.mk (THeap.mk y18.1.Heap.Conf y21.1 y18.1.Heap.Pages y18.1.Heap.Space y18.1.Heap.Bump) y18.1.Old y18.1.Taken (y18.1.Queue++[y18.2.1]) y18.1.Scanned (TReport.mk (wI (y18.1.Report.Copied+1)) y18.1.Report.Kept y18.1.Report.Filled y18.1.Report.Freed y18.1.Report.Cleared y18.1.Report.Steps)),y18.2.1,0)
def Qbc (N:Nat) (a1:List Int):Nat->Int->Int->Int->(List Int)->(List TPage)->Int->Int->(List Int)->(List Int)->(List Int)->Int->Int->Int->Int->Int->Int->Int->(List Int)->Option (Ex (TWork×List Int×Int) (Int×Int×List Int×List TPage×Int×Int×List Int×List Int×List Int×Int×Int×Int×Int×Int×Int×Int×List Int))
 | 0,_,_,_,_,_,_,_,_,_,_,_,_,_,_,_,_,_,_=>none
 | n+1,v1,v2,v3,v4,v5,v6,v7,v8,v9,v10,v11,v12,v13,v14,v15,v16,v17,v18 =>
  bif (decide (v1<((a1.length:Nat):Int))) then (bnd (getI a1 v1) fun p19 =>
   bnd (Qca N (TWork.mk (THeap.mk (TConf.mk v2 v3) v4 v5 v6 v7) v8 v9 v10 v11 (TReport.mk v12 v13 v14 v15 v16 v17)) p19) fun y20 =>
   bif (y20.2.2 != 0) then some (.ret ((TWork.mk (THeap.mk (TConf.mk 0 0) [] [] 0 0) [] [] [] 0 (TReport.mk 0 0 0 0 0 0)),[],y20.2.2))
   else grd ((v18.length+1)*8<=140737488355328) <|
   Qbc N a1 n (wI (v1+1)) y20.1.Heap.Conf.PageWords y20.1.Heap.Conf.Pages y20.1.Heap.Words y20.1.Heap.Pages y20.1.Heap.Space y20.1.Heap.Bump y20.1.Old y20.1.Taken y20.1.Queue y20.1.Scanned y20.1.Report.Copied y20.1.Report.Kept y20.1.Report.Filled y20.1.Report.Freed y20.1.Report.Cleared y20.1.Report.Steps (v18++[y20.2.1]))
  else some (.nxt (v2,v3,v4,v5,v6,v7,v8,v9,v10,v11,v12,v13,v14,v15,v16,v17,v18))
def QdQ (N:Nat) (a0:TWork) (a1:List Int):Option (TWork×List Int×Int):=bnd (Qbc N a1 N 0 a0.Heap.Conf.PageWords a0.Heap.Conf.Pages a0.Heap.Words a0.Heap.Pages a0.Heap.Space a0.Heap.Bump a0.Old a0.Taken a0.Queue a0.Scanned a0.Report.Copied a0.Report.Kept a0.Report.Filled a0.Report.Freed a0.Report.Cleared a0.Report.Steps []) fun e=>exK e (fun r=>some r) fun y21=>some ((TWork.mk (THeap.mk (TConf.mk y21.1 y21.2.1) y21.2.2.1 y21.2.2.2.1 y21.2.2.2.2.1 y21.2.2.2.2.2.1) y21.2.2.2.2.2.2.1 y21.2.2.2.2.2.2.2.1 y21.2.2.2.2.2.2.2.2.1 y21.2.2.2.2.2.2.2.2.2.1 (TReport.mk y21.2.2.2.2.2.2.2.2.2.2.1 y21.2.2.2.2.2.2.2.2.2.2.2.1 y21.2.2.2.2.2.2.2.2.2.2.2.2.1 y21.2.2.2.2.2.2.2.2.2.2.2.2.2.1 y21.2.2.2.2.2.2.2.2.2.2.2.2.2.2.1 y21.2.2.2.2.2.2.2.2.2.2.2.2.2.2.2.1)),y21.2.2.2.2.2.2.2.2.2.2.2.2.2.2.2.2,0)
def Qd9 (N:Nat) (a0:TWork) (a1:Int):Option THeader:=bnd (Qbs N a0.Heap.Words a1) fun y1=>bnd (Qbi N y1.1) fun y2=>some y2.1
def Qbf (N:Nat) (a0:THeader):Nat->Int->(List Int)->Option (List Int)
 | 0,_,_=>none
 | n+1,v1,v2 =>
  bif (decide (v1<a0.Length)) then (bnd (QbR N a0) fun y3 =>
   bif y3 then (bnd (Qbm N a0 v1) fun y4 =>
    bif y4 then (grd ((v2.length+1)*8<=140737488355328) <|
     Qbf N a0 n (wI (v1+1)) (v2++[v1]))
    else Qbf N a0 n (wI (v1+1)) v2)
   else some v2)
  else some v2
def Qd2 (N:Nat) (a0:THeader):Option (List Int):=bnd (Qbf N a0 N 0 []) fun y5=>some y5
def Qbq (N:Nat) (p1:Int) (y3:List Int):Nat->Int->Int->Int->(List Int)->(List TPage)->Int->Int->(List Int)->(List Int)->(List Int)->Int->Int->Int->Int->Int->Int->Int->Option (Ex (TWork×Bool×Int) (Int×Int×List Int×List TPage×Int×Int×List Int×List Int×List Int×Int×Int×Int×Int×Int×Int×Int))
 | 0,_,_,_,_,_,_,_,_,_,_,_,_,_,_,_,_,_=>none
 | n+1,v4,v5,v6,v7,v8,v9,v10,v11,v12,v13,v14,v15,v16,v17,v18,v19,v20 =>
  bif (decide (v4<((y3.length:Nat):Int))) then (bnd (getI y3 v4) fun p21 =>
   bnd (Qbs N v7 (wU ((wU (p1+1))+(wU p21)))) fun y22 =>
   bnd (Qca N (TWork.mk (THeap.mk (TConf.mk v5 v6) v7 v8 v9 v10) v11 v12 v13 v14 (TReport.mk v15 v16 v17 v18 v19 v20)) y22.1) fun y23 =>
   bif (y23.2.2 != 0) then some (.ret ((TWork.mk (THeap.mk (TConf.mk 0 0) [] [] 0 0) [] [] [] 0 (TReport.mk 0 0 0 0 0 0)),false,y23.2.2))
   else bnd (Qct N y23.1.Heap.Words (wU ((wU (p1+1))+(wU p21))) y23.2.1) fun y24 =>
   Qbq N p1 y3 n (wI (v4+1)) y23.1.Heap.Conf.PageWords y23.1.Heap.Conf.Pages y24.1 y23.1.Heap.Pages y23.1.Heap.Space y23.1.Heap.Bump y23.1.Old y23.1.Taken y23.1.Queue y23.1.Scanned y23.1.Report.Copied y23.1.Report.Kept y23.1.Report.Filled y23.1.Report.Freed y23.1.Report.Cleared y23.1.Report.Steps)
  else some (.nxt (v5,v6,v7,v8,v9,v10,v11,v12,v13,v14,v15,v16,v17,v18,v19,v20))
def Qeh (N:Nat) (a0:TWork):Option (TWork×Bool×Int):=bif (decide (a0.Scanned>=((a0.Queue.length:Nat):Int))) then some (a0,false,0) else bnd (getI a0.Queue a0.Scanned) fun p1=>bnd (Qd9 N a0 p1) fun y2=>bnd (Qd2 N y2) fun y3=>bnd (Qbq N p1 y3 N 0 a0.Heap.Conf.PageWords a0.Heap.Conf.Pages a0.Heap.Words a0.Heap.Pages a0.Heap.Space a0.Heap.Bump a0.Old a0.Taken a0.Queue a0.Scanned a0.Report.Copied a0.Report.Kept a0.Report.Filled a0.Report.Freed a0.Report.Cleared a0.Report.Steps) fun e=>exK e (fun r=>some r) fun y25=>some ((TWork.mk (THeap.mk (TConf.mk y25.1 y25.2.1) y25.2.2.1 y25.2.2.2.1 y25.2.2.2.2.1 y25.2.2.2.2.2.1) y25.2.2.2.2.2.2.1 y25.2.2.2.2.2.2.2.1 y25.2.2.2.2.2.2.2.2.1 (wI (y25.2.2.2.2.2.2.2.2.2.1+1)) (TReport.mk y25.2.2.2.2.2.2.2.2.2.2.1 y25.2.2.2.2.2.2.2.2.2.2.2.1 y25.2.2.2.2.2.2.2.2.2.2.2.2.1 y25.2.2.2.2.2.2.2.2.2.2.2.2.2.1 y25.2.2.2.2.2.2.2.2.2.2.2.2.2.2.1 (wI ((wI (y25.2.2.2.2.2.2.2.2.2.2.2.2.2.2.2+1))+((y3.length:Nat):Int))))),true,0)
def QbB (N:Nat):Nat->Int->Int->(List Int)->(List TPage)->Int->Int->(List Int)->(List Int)->(List Int)->Int->Int->Int->Int->Int->Int->Int->Option (TWork×Int)
 | 0,_,_,_,_,_,_,_,_,_,_,_,_,_,_,_,_=>none
 | n+1,v1,v2,v3,v4,v5,v6,v7,v8,v9,v10,v11,v12,v13,v14,v15,v16 =>
  bnd (Qeh N (TWork.mk (THeap.mk (TConf.mk v1 v2) v3 v4 v5 v6) v7 v8 v9 v10 (TReport.mk v11 v12 v13 v14 v15 v16))) fun y17 =>
  bif (y17.2.2 != 0) then some ((TWork.mk (THeap.mk (TConf.mk 0 0) [] [] 0 0) [] [] [] 0 (TReport.mk 0 0 0 0 0 0)),y17.2.2)
  else bif (!y17.2.1) then some (y17.1,0)
  else QbB N n y17.1.Heap.Conf.PageWords y17.1.Heap.Conf.Pages y17.1.Heap.Words y17.1.Heap.Pages y17.1.Heap.Space y17.1.Heap.Bump y17.1.Old y17.1.Taken y17.1.Queue y17.1.Scanned y17.1.Report.Copied y17.1.Report.Kept y17.1.Report.Filled y17.1.Report.Freed y17.1.Report.Cleared y17.1.Report.Steps
def QeJ (N:Nat) (a0:TWork):Option (TWork×Int):=bnd (QbB N N a0.Heap.Conf.PageWords a0.Heap.Conf.Pages a0.Heap.Words a0.Heap.Pages a0.Heap.Space a0.Heap.Bump a0.Old a0.Taken a0.Queue a0.Scanned a0.Report.Copied a0.Report.Kept a0.Report.Filled a0.Report.Freed a0.Report.Cleared a0.Report.Steps) fun r=>some r
def QdR (N:Nat) (a0:TWork) (a1:Int):Option Int:=bnd (QbM N a0.Queue a1) fun y1=>bif y1 then some a1 else bnd (Qbs N a0.Heap.Words a1) fun y2=>bnd (Qcy N y2.1) fun y3=>some y3.1
def Qbr (N:Nat) (a0:TWork) (v4:List TPage) (p5:TPage) (v1:Int) (v2:Int):Nat->Int->(List Int)->Option (List Int)
 | 0,_,_=>none
 | n+1,v7,v8 =>
  bif (decide (v7<a0.Heap.Conf.PageWords)) then (bnd (getI v8 (wI ((wI (v1*a0.Heap.Conf.PageWords))+v7))) fun p9 =>
   Qbr N a0 v4 p5 v1 v2 n (wI (v7+1)) (v8.set (wI ((wI (v1*a0.Heap.Conf.PageWords))+v7)).toNat 0))
  else some v8
def QaX (N:Nat) (a0:TWork):Nat->Int->Int->(List Int)->(List TPage)->Option (Int×List Int×List TPage)
 | 0,_,_,_,_=>none
 | n+1,v1,v2,v3,v4 =>
  grd (v4.length<=140737488355328) <|
  bif (decide (v1<((v4.length:Nat):Int))) then (bnd (getI v4 v1) fun p5 =>
   bif (p5.Kind==0) then QaX N a0 n (wI (v1+1)) v2 v3 v4
   else bif (p5.Space != a0.Heap.Space) then QaX N a0 n (wI (v1+1)) v2 v3 v4
   else bnd (getI v4 v1) fun p6 =>
   bnd (Qbr N a0 v4 p5 v1 v2 N 0 v3) fun y10 =>
   QaX N a0 n (wI (v1+1)) (wI (v2+1)) y10 (v4.set v1.toNat (TPage.mk 0 0 0 0)))
  else some (v2,v3,v4)
def Qei (N:Nat) (a0:TWork):Option TWork:=grd (a0.Heap.Pages.length*32<=140737488355328) <| grd (a0.Heap.Words.length*8<=140737488355328) <| bnd (QaX N a0 N 0 a0.Report.Freed a0.Heap.Words a0.Heap.Pages) fun y11=>some (TWork.mk (THeap.mk a0.Heap.Conf y11.2.1 y11.2.2 a0.Heap.Space a0.Heap.Bump) a0.Old a0.Taken a0.Queue a0.Scanned (TReport.mk a0.Report.Copied a0.Report.Kept a0.Report.Filled y11.1 a0.Report.Cleared a0.Report.Steps))
def QaG (N:Nat) (a0:TWork):Nat->Int->(List Int)->Int->Option (List Int×Int)
 | 0,_,_,_=>none
 | n+1,v1,v2,v3 =>
  bif (decide (v1<((a0.Old.length:Nat):Int))) then (bnd (getI a0.Old v1) fun p4 =>
   bnd (QdN N a0.Heap.Conf p4) fun y5 =>
   bnd (Qdi N (TWork.mk (THeap.mk a0.Heap.Conf v2 a0.Heap.Pages a0.Heap.Space a0.Heap.Bump) a0.Old a0.Taken a0.Queue a0.Scanned (TReport.mk a0.Report.Copied a0.Report.Kept v3 a0.Report.Freed a0.Report.Cleared a0.Report.Steps)) y5.1) fun y6 =>
   bif (!y6) then QaG N a0 n (wI (v1+1)) v2 v3
   else bnd (getI a0.Old v1) fun p7 =>
   bnd (QbM N a0.Queue p7) fun y8 =>
   bif y8 then QaG N a0 n (wI (v1+1)) v2 v3
   else bnd (getI a0.Old v1) fun p9 =>
   bnd (Qd9 N (TWork.mk (THeap.mk a0.Heap.Conf v2 a0.Heap.Pages a0.Heap.Space a0.Heap.Bump) a0.Old a0.Taken a0.Queue a0.Scanned (TReport.mk a0.Report.Copied a0.Report.Kept v3 a0.Report.Freed a0.Report.Cleared a0.Report.Steps)) p9) fun y10 =>
   bnd (Qb0 N (THeader.mk 0 y10.Length 0)) fun y11 =>
   bnd (getI a0.Old v1) fun p12 =>
   grd (0<=y10.Length∧y10.Length.toNat*8<=140737488355328) <|
   grd ((1+y10.Length.toNat)*8<=140737488355328) <|
   bnd (QbT N v2 p12 ([y11.1]++(List.replicate y10.Length.toNat 0))) fun y13 =>
   QaG N a0 n (wI (v1+1)) y13.1 (wI (v3+1)))
  else some (v2,v3)
def Qej (N:Nat) (a0:TWork):Option TWork:=bnd (QaG N a0 N 0 a0.Heap.Words a0.Report.Filled) fun y14=>some (TWork.mk (THeap.mk a0.Heap.Conf y14.1 a0.Heap.Pages a0.Heap.Space a0.Heap.Bump) a0.Old a0.Taken a0.Queue a0.Scanned (TReport.mk a0.Report.Copied a0.Report.Kept y14.2 a0.Report.Freed a0.Report.Cleared a0.Report.Steps))
def QaM (N:Nat) (a2:List Int) (y5:TWork×List Int×Int) (y6:TWork×Int):Nat->Int->Int->(List Int)->Option (Int×List Int)
 | 0,_,_,_=>none
 | n+1,v7,v8,v9 =>
  bif (decide (v7<((a2.length:Nat):Int))) then (bnd (getI a2 v7) fun p10 =>
   jn (fun (x14:Int) (x15:Int) =>
    grd ((v9.length+1)*8<=140737488355328) <|
    QaM N a2 y5 y6 n (wI (v7+1)) x15 (v9++[x14])) fun j3 =>
   bif (p10 != 0) then (bnd (getI a2 v7) fun p11 =>
    bnd (QdR N (TWork.mk y6.1.Heap y6.1.Old y6.1.Taken y6.1.Queue y6.1.Scanned (TReport.mk y6.1.Report.Copied y6.1.Report.Kept y6.1.Report.Filled y6.1.Report.Freed v8 y6.1.Report.Steps)) p11) fun y12 =>
    jn (fun (x13:Int) =>
     j3 y12 x13) fun j2 =>
    bif (y12==0) then j2 (wI (v8+1))
    else j2 v8)
   else j3 0 v8)
  else some (v8,v9)
def QcK (N:Nat) (a0:THeap) (a1:List Int) (a2:List Int):Option (THeap×List Int×List Int×TReport×Int):=bnd (Qaw N a0) fun y1=>bif (!y1) then some ((THeap.mk (TConf.mk 0 0) [] [] 0 0),[],[],(TReport.mk 0 0 0 0 0 0),1) else jn (fun (_:Unit)=>some ((THeap.mk (TConf.mk 0 0) [] [] 0 0),[],[],(TReport.mk 0 0 0 0 0 0),19)) fun j1=>bnd (Qds N a0 a1) fun y2=>bif (!y2) then j1 () else bnd (Qds N a0 a2) fun y3=>bif (!y3) then j1 () else bnd (QdP N a0) fun y4=>bnd (QdQ N y4.1 a1) fun y5=>bif (y5.2.2 != 0) then some ((THeap.mk (TConf.mk 0 0) [] [] 0 0),[],[],(TReport.mk 0 0 0 0 0 0),y5.2.2) else bnd (QeJ N y5.1) fun y6=>bif (y6.2 != 0) then some ((THeap.mk (TConf.mk 0 0) [] [] 0 0),[],[],(TReport.mk 0 0 0 0 0 0),y6.2) else bnd (QaM N a2 y5 y6 N 0 y6.1.Report.Cleared []) fun y16=>bnd (Qej N (TWork.mk y6.1.Heap y6.1.Old y6.1.Taken y6.1.Queue y6.1.Scanned (TReport.mk y6.1.Report.Copied y6.1.Report.Kept y6.1.Report.Filled y6.1.Report.Freed y16.1 y6.1.Report.Steps))) fun y17=>bnd (Qei N y17) fun y18=>jn (fun (x20:Int)=>some ((THeap.mk y18.Heap.Conf y18.Heap.Words y18.Heap.Pages (wI (1-y18.Heap.Space)) x20),y5.2.1,y16.2,y18.Report,0)) fun j4=>bif (decide (((y18.Taken.length:Nat):Int)>0)) then (bnd (getI y18.Taken (wI (((y18.Taken.length:Nat):Int)-1))) fun p19=>j4 p19) else j4 (-1)
def Qa1 (N:Nat) (a0:TEnv):Nat->Int->(List Int)->Option (List Int)
 | 0,_,_=>none
 | n+1,v3,v4 =>
  bif (decide (v3<((a0.Pins.length:Nat):Int))) then (bnd (getI a0.Pins v3) fun p5 =>
   grd ((v4.length+1)*8<=140737488355328) <|
   Qa1 N a0 n (wI (v3+1)) (v4++[p5.Ref]))
  else some v4
def Qdt (N:Nat) (a0:TEnv):Option (List Int):=grd (a0.Roots.length*8<=140737488355328) <| bnd (QbC N a0.Locals) fun y1=>grd ((a0.Roots.length+y1.length)*8<=140737488355328) <| bnd (QaR N a0.Globals) fun y2=>grd (((a0.Roots.length+y1.length)+y2.length)*8<=140737488355328) <| bnd (Qa1 N a0 N 0 ((a0.Roots++y1)++y2)) fun y6=>some y6
def Qa8 (N:Nat) (a0:TLocals) (a1:List Int):Nat->Int->Int->(List TSlot)->Option (Ex (TLocals×Int) (List TSlot))
 | 0,_,_,_=>none
 | n+1,v3,v4,v5 =>
  grd (v5.length<=140737488355328) <|
  bif (decide (v4<((v5.length:Nat):Int))) then (bnd (getI v5 v4) fun p6 =>
   bif (!p6.Live) then Qa8 N a0 a1 n v3 (wI (v4+1)) v5
   else bnd (getI a1 v3) fun p7 =>
   bif (p7==0) then some (.ret ((TLocals.mk [] [] []),1))
   else bnd (getI a1 v3) fun p8 =>
   bnd (getI v5 v4) fun p9 =>
   Qa8 N a0 a1 n (wI (v3+1)) (wI (v4+1)) (v5.set v4.toNat (TSlot.mk p9.Stamp p8 p9.Live)))
  else some (.nxt v5)
def Qek (N:Nat) (a0:TLocals) (a1:List Int):Option (TLocals×Int):=bnd (Qbn N a0) fun y1=>bif (!y1) then some ((TLocals.mk [] [] []),1) else bnd (QbC N a0) fun y2=>bif (((a1.length:Nat):Int) != ((y2.length:Nat):Int)) then some ((TLocals.mk [] [] []),1) else grd (a0.Slots.length*24<=140737488355328) <| bnd (Qa8 N a0 a1 N 0 0 a0.Slots) fun e=>exK e (fun r=>some r) fun y10=>some ((TLocals.mk y10 a0.Scopes a0.Issued),0)
def QaN (N:Nat) (a0:TEnv) (y4:THeap×List Int×List Int×TReport×Int) (y5:List Int) (y6:List Int) (y7:TLocals×Int) (y8:TTable×Int) (y9:TTable×Int):Nat->Int->(List TPin)->Option (List TPin)
 | 0,_,_=>none
 | n+1,v10,v11 =>
  bif (decide (v10<((a0.Pins.length:Nat):Int))) then (bnd (getI y4.2.1 (wI ((wI ((wI (((a0.Roots.length:Nat):Int)+((y5.length:Nat):Int)))+((y6.length:Nat):Int)))+v10))) fun p12 =>
   bnd (getI a0.Pins v10) fun p13 =>
   grd ((v11.length+1)*16<=140737488355328) <|
   QaN N a0 y4 y5 y6 y7 y8 y9 n (wI (v10+1)) (v11++[(TPin.mk p12 p13.Count)]))
  else some v11
def Qcb (N:Nat) (a0:TEnv):Option (TEnv×TReport×Int):=bnd (Qc4 N a0) fun y1=>bif (!y1) then some ((TEnv.mk (THeap.mk (TConf.mk 0 0) [] [] 0 0) (TLocals.mk [] [] []) (TTable.mk []) (TTable.mk []) [] []),(TReport.mk 0 0 0 0 0 0),19) else bnd (Qdt N a0) fun y2=>bnd (QaR N a0.Weaks) fun y3=>bnd (QcK N a0.Heap y2 y3) fun y4=>bif (y4.2.2.2.2 != 0) then some ((TEnv.mk (THeap.mk (TConf.mk 0 0) [] [] 0 0) (TLocals.mk [] [] []) (TTable.mk []) (TTable.mk []) [] []),(TReport.mk 0 0 0 0 0 0),y4.2.2.2.2) else bnd (QbC N a0.Locals) fun y5=>bnd (QaR N a0.Globals) fun y6=>grd (y6.length<=140737488355328) <| grd (0<=0∧0<=((a0.Roots.length:Nat):Int)∧((a0.Roots.length:Nat):Int)<=((y4.2.1.length:Nat):Int)) <| grd ((min (((a0.Roots.length:Nat):Int).toNat) y4.2.1.length)*8<=140737488355328) <| grd (0<=((a0.Roots.length:Nat):Int)∧((a0.Roots.length:Nat):Int)<=(wI (((a0.Roots.length:Nat):Int)+((y5.length:Nat):Int)))∧(wI (((a0.Roots.length:Nat):Int)+((y5.length:Nat):Int)))<=((y4.2.1.length:Nat):Int)) <| bnd (Qek N a0.Locals ((y4.2.1.drop ((a0.Roots.length:Nat):Int).toNat).take ((wI (((a0.Roots.length:Nat):Int)+((y5.length:Nat):Int))).toNat-((a0.Roots.length:Nat):Int).toNat))) fun y7=>grd (0<=(wI (((a0.Roots.length:Nat):Int)+((y5.length:Nat):Int)))∧(wI (((a0.Roots.length:Nat):Int)+((y5.length:Nat):Int)))<=(wI ((wI (((a0.Roots.length:Nat):Int)+((y5.length:Nat):Int)))+((y6.length:Nat):Int)))∧(wI ((wI (((a0.Roots.length:Nat):Int)+((y5.length:Nat):Int)))+((y6.length:Nat):Int)))<=((y4.2.1.length:Nat):Int)) <| bnd (QbZ N a0.Globals ((y4.2.1.drop (wI (((a0.Roots.length:Nat):Int)+((y5.length:Nat):Int))).toNat).take ((wI ((wI (((a0.Roots.length:Nat):Int)+((y5.length:Nat):Int)))+((y6.length:Nat):Int))).toNat-(wI (((a0.Roots.length:Nat):Int)+((y5.length:Nat):Int))).toNat))) fun y8=>bnd (QbZ N a0.Weaks y4.2.2.1) fun y9=>bnd (QaN N a0 y4 y5 y6 y7 y8 y9 N 0 []) fun y14=>some ((TEnv.mk y4.1 y7.1 y8.1 y9.1 y14 (y4.2.1.take ((a0.Roots.length:Nat):Int).toNat)),y4.2.2.2.1,0)
def Qab (N:Nat) (a0:Int):Option (TEnv×Int×Int):=some ((TEnv.mk (THeap.mk (TConf.mk 0 0) [] [] 0 0) (TLocals.mk [] [] []) (TTable.mk []) (TTable.mk []) [] []),0,a0)
def Qez (N:Nat) (a0:TConf):Option Int:=bnd (Qak N a0) fun y1=>bif (!y1) then some 0 else some (wI (a0.Pages.tdiv 4))
def Qco (N:Nat) (a0:List TPage):Nat->Int->Int->Option Int
 | 0,_,_=>none
 | n+1,v1,v2 =>
  bif (decide (v2<((a0.length:Nat):Int))) then (bnd (getI a0 v2) fun p3 =>
   bif (p3.Kind != 0) then Qco N a0 n (wI (v1+1)) (wI (v2+1))
   else Qco N a0 n v1 (wI (v2+1)))
  else some v1
def Qe9 (N:Nat) (a0:List TPage):Option Int:=bnd (Qco N a0 N 0 0) fun y4=>some y4
def QdS (N:Nat) (a0:THeap) (a1:Int):Option (THeap×Int×Bool):=grd (a0.Pages.length*32<=140737488355328) <| bnd (Qez N a0.Conf) fun y1=>bnd (Qe9 N a0.Pages) fun y2=>jn (fun (_:Unit)=>bnd (Qc5 N a0.Pages 1) fun y5=>bif (decide (y5<0)) then some ((THeap.mk (TConf.mk 0 0) [] [] 0 0),0,false) else bif (decide (y2>=y1)) then some ((THeap.mk (TConf.mk 0 0) [] [] 0 0),0,false) else bnd (Qc6 N a0.Pages y5 a0.Space) fun y6=>bnd (getI y6.1 y5) fun p11=>bnd (getI y6.1 y5) fun p12=>bnd (getI y6.1 y5) fun p13=>some ((THeap.mk a0.Conf a0.Words (y6.1.set y5.toNat (TPage.mk p13.Kind p13.Space (wI (p12.Used+a1)) p13.Pins)) a0.Space y5),(wU (wI ((wI (4096+(wI (y5*a0.Conf.PageWords))))+p11.Used))),true)) fun j1=>bif (decide (a0.Bump<0)) then j1 () else bnd (getI a0.Pages a0.Bump) fun p3=>bif (p3.Space != a0.Space) then j1 () else bnd (getI a0.Pages a0.Bump) fun p4=>bif (decide ((wI (p4.Used+a1))>a0.Conf.PageWords)) then j1 () else bif (decide (y2>y1)) then j1 () else bnd (getI a0.Pages a0.Bump) fun p14=>bnd (getI a0.Pages a0.Bump) fun p15=>bnd (getI a0.Pages a0.Bump) fun p16=>some ((THeap.mk a0.Conf a0.Words (a0.Pages.set a0.Bump.toNat (TPage.mk p16.Kind p16.Space (wI (p15.Used+a1)) p16.Pins)) a0.Space a0.Bump),(wU (wI ((wI (4096+(wI (a0.Bump*a0.Conf.PageWords))))+p14.Used))),true)
def Qfa (N:Nat) (a0:TConf) (a1:List TPage) (a2:Int) (a3:Int) (a4:Int):Option (List TPage×Int):=bnd (QdE N a0 a4) fun y1=>bif (decide (y1<1)) then some ([],1) else bif (decide (a3<0)) then some ([],1) else bif (decide (a3>1)) then some ([],1) else bnd (QeT N a1 a2 y1 (TPage.mk 2 a3 a4 0) (TPage.mk 3 a3 0 0)) fun y2=>some (y2.1,y2.2)
def QdT (N:Nat) (a0:THeap) (a1:Int) (a2:Int):Option (THeap×Int×Bool):=bnd (Qc5 N a0.Pages a2) fun y1=>bif (decide (y1<0)) then some ((THeap.mk (TConf.mk 0 0) [] [] 0 0),0,false) else bnd (Qe9 N a0.Pages) fun y2=>bnd (Qez N a0.Conf) fun y3=>bif (decide ((wI (y2+a2))>y3)) then some ((THeap.mk (TConf.mk 0 0) [] [] 0 0),0,false) else bnd (Qfa N a0.Conf a0.Pages y1 a0.Space a1) fun y4=>some ((THeap.mk a0.Conf a0.Words y4.1 a0.Space a0.Bump),(wU (wI (4096+(wI (y1*a0.Conf.PageWords))))),true)
def Qel (N:Nat) (a0:THeap) (a1:Int) (a2:THeader):Option (THeap×Int):=bnd (Qb0 N a2) fun y1=>bnd (Qaw N a0) fun y2=>bif (!y2) then some ((THeap.mk (TConf.mk 0 0) [] [] 0 0),1) else bif (y1.2 != 0) then some ((THeap.mk (TConf.mk 0 0) [] [] 0 0),1) else grd (0<=a2.Length∧a2.Length.toNat*8<=140737488355328) <| grd ((1+a2.Length.toNat)*8<=140737488355328) <| bnd (QbT N a0.Words a1 ([y1.1]++(List.replicate a2.Length.toNat 0))) fun y3=>bif (y3.2 != 0) then some ((THeap.mk (TConf.mk 0 0) [] [] 0 0),y3.2) else some ((THeap.mk a0.Conf y3.1 a0.Pages a0.Space a0.Bump),0)
def Qea (N:Nat) (a0:THeap) (a1:THeader):Option (THeap×Int×Int):=bnd (Qaw N a0) fun y1=>bif (!y1) then some ((THeap.mk (TConf.mk 0 0) [] [] 0 0),0,1) else bnd (QcW N a0.Conf a1) fun y2=>bif (!y2) then some ((THeap.mk (TConf.mk 0 0) [] [] 0 0),0,1) else bnd (QbE N a1) fun y3=>bnd (QdE N a0.Conf y3) fun y4=>bnd (QdS N a0 y3) fun y5=>jn (fun (x7:Int) (x8:Bool) (x9:Int) (x10:Int) (x11:List Int) (x12:List TPage) (x13:Int) (x14:Int)=>bif (!x8) then some ((THeap.mk (TConf.mk 0 0) [] [] 0 0),0,3) else bnd (Qel N (THeap.mk (TConf.mk x9 x10) x11 x12 x13 x14) x7 a1) fun y15=>some (y15.1,x7,0)) fun j1=>bif (decide (y4>0)) then (bnd (QdT N a0 y3 y4) fun y6=>j1 y6.2.1 y6.2.2 y6.1.Conf.PageWords y6.1.Conf.Pages y6.1.Words y6.1.Pages y6.1.Space y6.1.Bump) else j1 y5.2.1 y5.2.2 y5.1.Conf.PageWords y5.1.Conf.Pages y5.1.Words y5.1.Pages y5.1.Space y5.1.Bump
def QdU (N:Nat) (a0:TEnv) (a1:THeader):Option (TEnv×Int×Int):=bnd (Qc4 N a0) fun y1=>bif (!y1) then some ((TEnv.mk (THeap.mk (TConf.mk 0 0) [] [] 0 0) (TLocals.mk [] [] []) (TTable.mk []) (TTable.mk []) [] []),0,19) else bnd (Qea N a0.Heap a1) fun y2=>jn (fun (x5:Int) (x6:Int) (x7:Int) (x8:Int) (x9:List Int) (x10:List TPage) (x11:Int) (x12:Int) (x13:List TSlot) (x14:List TScope) (x15:List Int) (x16:List TEntry) (x17:List TEntry) (x18:List TPin) (x19:List Int) (x20:Int) (x21:Int) (x22:List Int) (x23:List TPage) (x24:Int) (x25:Int)=>bif (x6 != 0) then some ((TEnv.mk (THeap.mk (TConf.mk 0 0) [] [] 0 0) (TLocals.mk [] [] []) (TTable.mk []) (TTable.mk []) [] []),0,x6) else some ((TEnv.mk (THeap.mk (TConf.mk x20 x21) x22 x23 x24 x25) (TLocals.mk x13 x14 x15) (TTable.mk x16) (TTable.mk x17) x18 x19),x5,0)) fun j1=>bif (y2.2.2==3) then (bnd (Qcb N a0) fun y3=>bif (y3.2.2 != 0) then some ((TEnv.mk (THeap.mk (TConf.mk 0 0) [] [] 0 0) (TLocals.mk [] [] []) (TTable.mk []) (TTable.mk []) [] []),0,y3.2.2) else bnd (Qea N y3.1.Heap a1) fun y4=>j1 y4.2.1 y4.2.2 y3.1.Heap.Conf.PageWords y3.1.Heap.Conf.Pages y3.1.Heap.Words y3.1.Heap.Pages y3.1.Heap.Space y3.1.Heap.Bump y3.1.Locals.Slots y3.1.Locals.Scopes y3.1.Locals.Issued y3.1.Globals.Entries y3.1.Weaks.Entries y3.1.Pins y3.1.Roots y4.1.Conf.PageWords y4.1.Conf.Pages y4.1.Words y4.1.Pages y4.1.Space y4.1.Bump) else j1 y2.2.1 y2.2.2 a0.Heap.Conf.PageWords a0.Heap.Conf.Pages a0.Heap.Words a0.Heap.Pages a0.Heap.Space a0.Heap.Bump a0.Locals.Slots a0.Locals.Scopes a0.Locals.Issued a0.Globals.Entries a0.Weaks.Entries a0.Pins a0.Roots y2.1.Conf.PageWords y2.1.Conf.Pages y2.1.Words y2.1.Pages y2.1.Space y2.1.Bump
def QbU (N:Nat) (a0:TEnv) (a1:Int):Option (TEnv×Int×Int):=bif (a1==0) then some (a0,0,0) else bnd (Qc2 N a0.Locals a1) fun y1=>bif (y1.2.2.2 != 0) then (bnd (Qab N y1.2.2.2) fun y2=>some (y2.1,y2.2.1,y2.2.2)) else bnd (Qa5 N (THandle.mk 1 y1.2.1 y1.2.2.1)) fun y3=>some ((TEnv.mk a0.Heap y1.1 a0.Globals a0.Weaks a0.Pins a0.Roots),y3.1,0)
def Qdu (N:Nat) (a0:TEnv) (a1:Int) (a2:Int) (a3:Int):Option (TEnv×Int×Int):=bif (decide (((a0.Pins.length:Nat):Int)>0)) then (bnd (Qab N 15) fun y1=>some (y1.1,y1.2.1,y1.2.2)) else bnd (Qbo N a1 a2 a3) fun y2=>jn (fun (_:Unit)=>bnd (Qab N 1) fun y4=>some (y4.1,y4.2.1,y4.2.2)) fun j1=>bif (!y2.2) then j1 () else bnd (QcW N a0.Heap.Conf y2.1) fun y3=>bif (!y3) then j1 () else bnd (Qc2 N a0.Locals 1) fun y5=>bif (y5.2.2.2 != 0) then (bnd (Qab N y5.2.2.2) fun y6=>some (y6.1,y6.2.1,y6.2.2)) else bnd (QdU N a0 y2.1) fun y7=>bif (y7.2.2 != 0) then (bnd (Qab N y7.2.2) fun y8=>some (y8.1,y8.2.1,y8.2.2)) else bnd (QbU N y7.1 y7.2.1) fun y9=>some (y9.1,y9.2.1,y9.2.2)
def QaH (N:Nat) (a0:TEnv) (a1:Int):Option (Int×Int):=bnd (Qc4 N a0) fun y1=>bif (!y1) then some (0,19) else bif (a1==0) then some (0,0) else bnd (Qbh N a1) fun y2=>bif (y2.2 != 0) then some (0,y2.2) else bif (y2.1.Tag==1) then (bnd (QdF N a0.Locals y2.1.Index y2.1.Stamp) fun y3=>some (y3.1,y3.2)) else bif (y2.1.Tag==2) then (bnd (Qcv N a0.Globals y2.1.Index y2.1.Stamp) fun y4=>some (y4.1,y4.2)) else bnd (Qcv N a0.Weaks y2.1.Index y2.1.Stamp) fun y5=>some (y5.1,y5.2)
def QbV (N:Nat) (a0:TEnv) (a1:Int):Option (Int×Int):=bnd (QaH N a0 a1) fun y1=>bif (y1.2==0) then (bif (y1.1==0) then some (0,5) else some (y1.1,y1.2)) else some (y1.1,y1.2)
def Qc8 (N:Nat) (a0:TEnv) (a1:Int) (a2:Int) (a3:Bool):Option (Int×Int×Int):=bnd (QbV N a0 a1) fun y1=>bif (y1.2 != 0) then some (0,0,y1.2) else bnd (Qcx N a0.Heap y1.1) fun y2=>bif (decide (a2>=(wU y2.1.Length))) then some (0,0,2) else bnd (Qbm N y2.1 (wI a2)) fun y3=>bif (!(y3==a3)) then some (0,0,4) else some (y1.1,(wI a2),0)
def Qc9 (N:Nat) (a0:THeap) (a1:Int) (a2:Int):Option (Int×Int):=bnd (Qcx N a0 a1) fun y1=>bif (y1.2 != 0) then some (0,y1.2) else bif (decide (a2<0)) then some (0,2) else bif (decide (a2>=y1.1.Length)) then some (0,2) else bnd (Qbs N a0.Words (wU ((wU (a1+1))+(wU a2)))) fun y2=>some (y2.1,y2.2)
def QbP (N:Nat) (a0:THeap) (a1:Int) (a2:Int) (a3:Int):Option (THeap×Int):=bnd (Qc9 N a0 a1 a2) fun y1=>bif (y1.2 != 0) then some ((THeap.mk (TConf.mk 0 0) [] [] 0 0),y1.2) else bnd (Qct N a0.Words (wU ((wU (a1+1))+(wU a2))) a3) fun y2=>some ((THeap.mk a0.Conf y2.1 a0.Pages a0.Space a0.Bump),0)
def QdV (N:Nat) (a0:TEnv) (a1:Int) (a2:Int) (a3:Int) (a4:Int):Option (TEnv×Int×Int):=jn (fun (x3:Int) (x4:Int) (x5:Int)=>bif (x5 != 0) then (bnd (Qab N x5) fun y6=>some (y6.1,y6.2.1,y6.2.2)) else bnd (Qc9 N a0.Heap x3 x4) fun y7=>bif (a1==6) then some (a0,y7.1,0) else bif (a1==8) then (bnd (QbU N a0 y7.1) fun y8=>some (y8.1,y8.2.1,y8.2.2)) else jn (fun (x11:Int)=>bnd (QbP N a0.Heap x3 x4 x11) fun y12=>some ((TEnv.mk y12.1 a0.Locals a0.Globals a0.Weaks a0.Pins a0.Roots),0,0)) fun j2=>bif (a1==9) then (bnd (QaH N a0 a4) fun y9=>bif (y9.2 != 0) then (bnd (Qab N y9.2) fun y10=>some (y10.1,y10.2.1,y10.2.2)) else j2 y9.1) else j2 a4) fun j1=>bif (a1==8) then (bnd (Qc8 N a0 a2 a3 true) fun y1=>j1 y1.1 y1.2.1 y1.2.2) else bnd (Qc8 N a0 a2 a3 (a1==9)) fun y2=>j1 y2.1 y2.2.1 y2.2.2
def QdW (N:Nat) (a0:TEnv) (a1:Int) (a2:Int) (a3:Int):Option (TEnv×Int×Int):=jn (fun (x1:Bool)=>bif x1 then (bnd (QbV N a0 a2) fun y2=>bif (y2.2 != 0) then (bnd (Qab N y2.2) fun y3=>some (y3.1,y3.2.1,y3.2.2)) else bnd (Qcx N a0.Heap y2.1) fun y4=>bif (a1==4) then some (a0,(wU y4.1.Length),0) else some (a0,(wU y4.1.Kind),0)) else bif (a1==10) then (bnd (QaH N a0 a2) fun y5=>bif (y5.2 != 0) then (bnd (Qab N y5.2) fun y6=>some (y6.1,y6.2.1,y6.2.2)) else bnd (QaH N a0 a3) fun y7=>bif (y7.2 != 0) then (bnd (Qab N y7.2) fun y8=>some (y8.1,y8.2.1,y8.2.2)) else bif (y5.1==y7.1) then some (a0,1,0) else some (a0,0,0)) else bnd (QaH N a0 a2) fun y9=>bif (y9.2 != 0) then (bnd (Qab N y9.2) fun y10=>some (y10.1,y10.2.1,y10.2.2)) else bnd (QbU N a0 y9.1) fun y11=>some (y11.1,y11.2.1,y11.2.2)) fun j1=>bif (a1==4) then j1 true else j1 (a1==5)
def QcL (N:Nat) (a0:TEnv) (a1:Int) (a2:Int):Option (TEnv×Int×Int):=bnd (QbV N a0 a2) fun y1=>bif (y1.2 != 0) then (bnd (Qab N y1.2) fun y2=>some (y2.1,y2.2.1,y2.2.2)) else jn (fun (x3:Int) (x4:List TEntry)=>bnd (Qbx N (TTable.mk x4) y1.1) fun y5=>bif (y5.2.2.2 != 0) then (bnd (Qab N y5.2.2.2) fun y6=>some (y6.1,y6.2.1,y6.2.2)) else jn (fun (x7:List TEntry) (x8:List TEntry)=>bnd (Qa5 N (THandle.mk x3 y5.2.1 y5.2.2.1)) fun y9=>some ((TEnv.mk a0.Heap a0.Locals (TTable.mk x7) (TTable.mk x8) a0.Pins a0.Roots),y9.1,0)) fun j2=>bif (a1==15) then j2 a0.Globals.Entries y5.1.Entries else j2 y5.1.Entries a0.Weaks.Entries) fun j1=>bif (a1==15) then j1 3 a0.Weaks.Entries else j1 2 a0.Globals.Entries
def Qdv (N:Nat) (a0:TEnv) (a1:Int) (a2:Int):Option (TEnv×Int×Int):=bif (a2==0) then (bnd (Qab N 5) fun y1=>some (y1.1,y1.2.1,y1.2.2)) else bnd (QaH N a0 a2) fun y2=>bif (y2.2 != 0) then (bnd (Qab N y2.2) fun y3=>some (y3.1,y3.2.1,y3.2.2)) else bnd (Qbh N a2) fun y4=>jn (fun (_:Unit)=>bif (a1==12) then (bnd (Qcw N a0.Locals y4.1.Index y4.1.Stamp) fun y6=>some ((TEnv.mk a0.Heap y6.1 a0.Globals a0.Weaks a0.Pins a0.Roots),0,0)) else bif (a1==14) then (bnd (QbA N a0.Globals y4.1.Index y4.1.Stamp) fun y7=>some ((TEnv.mk a0.Heap a0.Locals y7.1 a0.Weaks a0.Pins a0.Roots),0,0)) else bnd (QbA N a0.Weaks y4.1.Index y4.1.Stamp) fun y8=>some ((TEnv.mk a0.Heap a0.Locals a0.Globals y8.1 a0.Pins a0.Roots),0,0)) fun j2=>jn (fun (_:Unit)=>bnd (Qab N 4) fun y5=>some (y5.1,y5.2.1,y5.2.2)) fun j1=>bif (a1==12) then (bif (y4.1.Tag != 1) then j1 () else bif (a1==14) then (bif (y4.1.Tag != 2) then j1 () else bif (a1==16) then (bif (y4.1.Tag != 3) then j1 () else j2 ()) else j2 ()) else bif (a1==16) then (bif (y4.1.Tag != 3) then j1 () else j2 ()) else j2 ()) else bif (a1==14) then (bif (y4.1.Tag != 2) then j1 () else bif (a1==16) then (bif (y4.1.Tag != 3) then j1 () else j2 ()) else j2 ()) else bif (a1==16) then (bif (y4.1.Tag != 3) then j1 () else j2 ()) else j2 ()
def Qdw (N:Nat) (a0:TEnv) (a1:Int) (a2:Int):Option (TEnv×Int×Int):=bif (a1==17) then (bif (decide (a2>64)) then (bnd (Qab N 1) fun y1=>some (y1.1,y1.2.1,y1.2.2)) else bnd (QcX N a0.Locals (wI a2)) fun y2=>bif (y2.2 != 0) then (bnd (Qab N y2.2) fun y3=>some (y3.1,y3.2.1,y3.2.2)) else some ((TEnv.mk a0.Heap y2.1 a0.Globals a0.Weaks a0.Pins a0.Roots),0,0)) else bnd (QaH N a0 a2) fun y4=>bif (y4.2 != 0) then (bnd (Qab N y4.2) fun y5=>some (y5.1,y5.2.1,y5.2.2)) else bnd (QdG N a0.Locals) fun y6=>bif (y6.2 != 0) then (bnd (Qab N y6.2) fun y7=>some (y7.1,y7.2.1,y7.2.2)) else bnd (QbU N (TEnv.mk a0.Heap y6.1 a0.Globals a0.Weaks a0.Pins a0.Roots) y4.1) fun y8=>some (y8.1,y8.2.1,y8.2.2)
def QbW (N:Nat) (a0:THeap) (a1:Int) (a2:Int):Option THeap:=grd (a0.Pages.length*32<=140737488355328) <| bnd (Qef N a0 a1) fun y1=>bnd (getI a0.Pages y1) fun p2=>bnd (getI a0.Pages y1) fun p3=>some (THeap.mk a0.Conf a0.Words (a0.Pages.set y1.toNat (TPage.mk p3.Kind p3.Space p3.Used (wI (p2.Pins+a2)))) a0.Space a0.Bump)
def QcM (N:Nat) (a0:THeap) (a1:List TPin) (a2:Int):Option (THeap×List TPin×Int):=bnd (QdO N a0 a1) fun y1=>bif (!y1) then some ((THeap.mk (TConf.mk 0 0) [] [] 0 0),[],19) else bif (a2==0) then some ((THeap.mk (TConf.mk 0 0) [] [] 0 0),[],5) else bnd (Qfd N a1 a2) fun y2=>bif (decide (y2<0)) then some ((THeap.mk (TConf.mk 0 0) [] [] 0 0),[],12) else grd (a1.length*16<=140737488355328) <| bnd (getI a1 y2) fun p3=>bnd (getI a1 y2) fun p4=>bnd (getI (a1.set y2.toNat (TPin.mk p4.Ref (wI (p3.Count-1)))) y2) fun p5=>bif (p5.Count==0) then (grd (0<=0∧0<=y2∧y2<=((a1.length:Nat):Int)) <| grd (0<=(wI (y2+1))∧(wI (y2+1))<=((a1.length:Nat):Int)∧((a1.length:Nat):Int)<=((a1.length:Nat):Int)) <| grd (y2.toNat≠a1.length∧(y2.toNat+(a1.length-(wI (y2+1)).toNat))<=a1.length) <| bnd (QbW N a0 a2 (-1)) fun y7=>some (y7,(((((a1.set y2.toNat (TPin.mk p4.Ref (wI (p3.Count-1)))).take y2.toNat)++(((a1.set y2.toNat (TPin.mk p4.Ref (wI (p3.Count-1)))).drop (wI (y2+1)).toNat).take (a1.length-(wI (y2+1)).toNat)))++((a1.set y2.toNat (TPin.mk p4.Ref (wI (p3.Count-1)))).drop (y2.toNat+(a1.length-(wI (y2+1)).toNat)))).take (y2.toNat+(a1.length-(wI (y2+1)).toNat))),0)) else bnd (QbW N a0 a2 (-1)) fun y8=>some (y8,(a1.set y2.toNat (TPin.mk p4.Ref (wI (p3.Count-1)))),0)
def Qdj (N:Nat) (a0:THeap) (a1:Int):Option Bool:=bnd (Qa7 N a0) fun y1=>bnd (QbM N y1.1 a1) fun y2=>some y2
def Qbj (N:Nat) (a0:THeap) (a1:Int):Nat->Int->Int->Option Int
 | 0,_,_=>none
 | n+1,v3,v4 =>
  bif (decide (v4<((a0.Pages.length:Nat):Int))) then (bnd (getI a0.Pages v4) fun p5 =>
   bif (p5.Kind==1) then (bnd (getI a0.Pages v4) fun p6 =>
    bif (decide (p6.Pins>0)) then Qbj N a0 a1 n (wI (v3+1)) (wI (v4+1))
    else Qbj N a0 a1 n v3 (wI (v4+1)))
   else Qbj N a0 a1 n v3 (wI (v4+1)))
  else some v3
def Qcc (N:Nat) (a0:THeap) (a1:Int):Option Bool:=bnd (QdI N a0) fun y1=>bif (!y1) then some false else bnd (Qdj N a0 a1) fun y2=>bif (!y2) then some false else bnd (Qbj N a0 a1 N 0 0) fun y7=>bnd (Qef N a0 a1) fun y8=>bnd (getI a0.Pages y8) fun p9=>bif (p9.Kind==1) then (bif (p9.Pins==0) then some (decide (y7>=(wI (a0.Conf.Pages.tdiv 4)))) else some false) else some false
def QeK (N:Nat) (a0:THeap) (a1:List TPin) (a2:Int):Option (THeap×List TPin×Int×Int):=bnd (QdO N a0 a1) fun y1=>bif (!y1) then some ((THeap.mk (TConf.mk 0 0) [] [] 0 0),[],0,19) else bif (a2==0) then some ((THeap.mk (TConf.mk 0 0) [] [] 0 0),[],0,5) else bnd (Qdj N a0 a2) fun y2=>bif (!y2) then some ((THeap.mk (TConf.mk 0 0) [] [] 0 0),[],0,1) else bnd (Qfd N a1 a2) fun y3=>jn (fun (_:Unit)=>grd (a1.length*16<=140737488355328) <| jn (fun (x11:List TPin)=>bnd (QbW N a0 a2 1) fun y12=>some (y12,x11,(wU (a2+1)),0)) fun j2=>bif (decide (y3>=0)) then (bnd (getI a1 y3) fun p9=>bnd (getI a1 y3) fun p10=>j2 (a1.set y3.toNat (TPin.mk p10.Ref (wI (p9.Count+1))))) else grd ((a1.length+1)*16<=140737488355328) <| j2 (a1++[(TPin.mk a2 1)])) fun j1=>bif (decide (y3>=0)) then (bnd (getI a1 y3) fun p4=>bif (p4.Count==1000) then some ((THeap.mk (TConf.mk 0 0) [] [] 0 0),[],0,18) else bif (decide (y3<0)) then (bif (((a1.length:Nat):Int)==64) then some ((THeap.mk (TConf.mk 0 0) [] [] 0 0),[],0,18) else bnd (Qcc N a0 a2) fun y5=>bif y5 then some ((THeap.mk (TConf.mk 0 0) [] [] 0 0),[],0,18) else j1 ()) else bnd (Qcc N a0 a2) fun y6=>bif y6 then some ((THeap.mk (TConf.mk 0 0) [] [] 0 0),[],0,18) else j1 ()) else bif (decide (y3<0)) then (bif (((a1.length:Nat):Int)==64) then some ((THeap.mk (TConf.mk 0 0) [] [] 0 0),[],0,18) else bnd (Qcc N a0 a2) fun y7=>bif y7 then some ((THeap.mk (TConf.mk 0 0) [] [] 0 0),[],0,18) else j1 ()) else bnd (Qcc N a0 a2) fun y8=>bif y8 then some ((THeap.mk (TConf.mk 0 0) [] [] 0 0),[],0,18) else j1 ()
def Qem (N:Nat) (a0:TEnv) (a1:Int) (a2:Int):Option (TEnv×Int×Int):=bnd (QbV N a0 a2) fun y1=>bif (y1.2 != 0) then (bnd (Qab N y1.2) fun y2=>some (y2.1,y2.2.1,y2.2.2)) else bif (a1==20) then (bnd (QcM N a0.Heap a0.Pins y1.1) fun y3=>bif (y3.2.2 != 0) then (bnd (Qab N y3.2.2) fun y4=>some (y4.1,y4.2.1,y4.2.2)) else some ((TEnv.mk y3.1 a0.Locals a0.Globals a0.Weaks y3.2.1 a0.Roots),0,0)) else bnd (QeK N a0.Heap a0.Pins y1.1) fun y5=>bif (y5.2.2.2 != 0) then (bnd (Qab N y5.2.2.2) fun y6=>some (y6.1,y6.2.1,y6.2.2)) else some ((TEnv.mk y5.1 a0.Locals a0.Globals a0.Weaks y5.2.1 a0.Roots),y5.2.2.1,0)
def Qen (N:Nat) (a0:TEnv) (a1:Int) (a2:Int) (a3:Int) (a4:Int):Option (TEnv×Int×Int):=bnd (Qc4 N a0) fun y1=>bif (!y1) then (bnd (Qab N 19) fun y2=>some (y2.1,y2.2.1,y2.2.2)) else jn (fun (x4:Bool)=>bif x4 then (bnd (Qdu N a0 a1 a2 a3) fun y5=>some (y5.1,y5.2.1,y5.2.2)) else jn (fun (x8:Bool)=>bif x8 then (bnd (QdV N a0 a1 a2 a3 a4) fun y9=>some (y9.1,y9.2.1,y9.2.2)) else jn (fun (x12:Bool)=>bif x12 then (bnd (QdW N a0 a1 a2 a3) fun y13=>some (y13.1,y13.2.1,y13.2.2)) else jn (fun (x14:Bool)=>bif x14 then (bnd (QcL N a0 a1 a2) fun y15=>some (y15.1,y15.2.1,y15.2.2)) else jn (fun (x17:Bool)=>bif x17 then (bnd (Qdv N a0 a1 a2) fun y18=>some (y18.1,y18.2.1,y18.2.2)) else jn (fun (x19:Bool)=>bif x19 then (bnd (Qdw N a0 a1 a2) fun y20=>some (y20.1,y20.2.1,y20.2.2)) else jn (fun (x21:Bool)=>bif x21 then (bnd (Qem N a0 a1 a2) fun y22=>some (y22.1,y22.2.1,y22.2.2)) else bnd (Qab N 1) fun y23=>some (y23.1,y23.2.1,y23.2.2)) fun j13=>bif (a1==19) then j13 true else j13 (a1==20)) fun j12=>bif (a1==17) then j12 true else j12 (a1==18)) fun j11=>bif (a1==12) then j11 true else jn (fun (x16:Bool)=>j11 x16) fun j10=>bif (a1==14) then j10 true else j10 (a1==16)) fun j9=>bif (a1==13) then j9 true else j9 (a1==15)) fun j8=>bif (a1==4) then j8 true else jn (fun (x11:Bool)=>j8 x11) fun j7=>bif (a1==5) then j7 true else jn (fun (x10:Bool)=>j7 x10) fun j6=>bif (a1==10) then j6 true else j6 (a1==11)) fun j5=>bif (a1==6) then j5 true else jn (fun (x7:Bool)=>j5 x7) fun j4=>bif (a1==7) then j4 true else jn (fun (x6:Bool)=>j4 x6) fun j3=>bif (a1==8) then j3 true else j3 (a1==9)) fun j2=>bif (a1==1) then j2 true else jn (fun (x3:Bool)=>j2 x3) fun j1=>bif (a1==2) then j1 true else j1 (a1==3)
def Qb2 (N:Nat) (a0:TPair) (a1:TDeed):Option (TPair×Int×Int):=bif (a1.Op==0) then (bnd (Qcb N a0.Env) fun y1=>jn (fun (x3:Int) (x4:Int) (x5:List Int) (x6:List TPage) (x7:Int) (x8:Int) (x9:List TSlot) (x10:List TScope) (x11:List Int) (x12:List TEntry) (x13:List TEntry) (x14:List TPin) (x15:List Int) (x16:Int) (x17:Int) (x18:List TThing) (x19:List TSlot) (x20:List TScope) (x21:List Int) (x22:List TEntry) (x23:List TEntry) (x24:List TMark) (x25:List Int)=>some ((TPair.mk (TEnv.mk (THeap.mk (TConf.mk x3 x4) x5 x6 x7 x8) (TLocals.mk x9 x10 x11) (TTable.mk x12) (TTable.mk x13) x14 x15) (TWorld.mk (TConf.mk x16 x17) x18 (TLocals.mk x19 x20 x21) (TTable.mk x22) (TTable.mk x23) x24 x25) a0.Words),0,0)) fun j1=>bif (y1.2.2==0) then (bnd (Qa4 N a0.World) fun y2=>j1 y1.1.Heap.Conf.PageWords y1.1.Heap.Conf.Pages y1.1.Heap.Words y1.1.Heap.Pages y1.1.Heap.Space y1.1.Heap.Bump y1.1.Locals.Slots y1.1.Locals.Scopes y1.1.Locals.Issued y1.1.Globals.Entries y1.1.Weaks.Entries y1.1.Pins y1.1.Roots y2.1.Conf.PageWords y2.1.Conf.Pages y2.1.Things y2.1.Locals.Slots y2.1.Locals.Scopes y2.1.Locals.Issued y2.1.Globals.Entries y2.1.Weaks.Entries y2.1.Marks y2.1.Roots) else j1 a0.Env.Heap.Conf.PageWords a0.Env.Heap.Conf.Pages a0.Env.Heap.Words a0.Env.Heap.Pages a0.Env.Heap.Space a0.Env.Heap.Bump a0.Env.Locals.Slots a0.Env.Locals.Scopes a0.Env.Locals.Issued a0.Env.Globals.Entries a0.Env.Weaks.Entries a0.Env.Pins a0.Env.Roots a0.World.Conf.PageWords a0.World.Conf.Pages a0.World.Things a0.World.Locals.Slots a0.World.Locals.Scopes a0.World.Locals.Issued a0.World.Globals.Entries a0.World.Weaks.Entries a0.World.Marks a0.World.Roots) else bnd (Qen N a0.Env a1.Op a1.A a1.B a1.C) fun y26=>bnd (QcG N a0.Env y26.1 a1.Op y26.2.1 y26.2.2) fun y27=>bnd (Qed N a0.World a1.Op a1.A a1.B a1.C y27) fun y28=>jn (fun (x29:Int) (x30:Int) (x31:List TThing) (x32:List TSlot) (x33:List TScope) (x34:List Int) (x35:List TEntry) (x36:List TEntry) (x37:List TMark) (x38:List Int)=>bif (y26.2.2==0) then (bif (y26.2.1 != 0) then (grd (a0.Words.length*8<=140737488355328) <| grd ((a0.Words.length+1)*8<=140737488355328) <| some ((TPair.mk y26.1 (TWorld.mk (TConf.mk x29 x30) x31 (TLocals.mk x32 x33 x34) (TTable.mk x35) (TTable.mk x36) x37 x38) (a0.Words++[y26.2.1])),y26.2.1,y26.2.2)) else some ((TPair.mk y26.1 (TWorld.mk (TConf.mk x29 x30) x31 (TLocals.mk x32 x33 x34) (TTable.mk x35) (TTable.mk x36) x37 x38) a0.Words),y26.2.1,y26.2.2)) else some ((TPair.mk a0.Env (TWorld.mk (TConf.mk x29 x30) x31 (TLocals.mk x32 x33 x34) (TTable.mk x35) (TTable.mk x36) x37 x38) a0.Words),y26.2.1,y26.2.2)) fun j2=>bif (y28.2.2==0) then j2 y28.1.Conf.PageWords y28.1.Conf.Pages y28.1.Things y28.1.Locals.Slots y28.1.Locals.Scopes y28.1.Locals.Issued y28.1.Globals.Entries y28.1.Weaks.Entries y28.1.Marks y28.1.Roots else j2 a0.World.Conf.PageWords a0.World.Conf.Pages a0.World.Things a0.World.Locals.Slots a0.World.Locals.Scopes a0.World.Locals.Issued a0.World.Globals.Entries a0.World.Weaks.Entries a0.World.Marks a0.World.Roots
def Qd3 (N:Nat) (a1:Int):Nat->Int->(List Int)->Int->Int->Int->(List Int)->(List TPage)->Int->Int->(List TSlot)->(List TScope)->(List Int)->(List TEntry)->(List TEntry)->(List TPin)->(List Int)->Int->Int->(List TThing)->(List TSlot)->(List TScope)->(List Int)->(List TEntry)->(List TEntry)->(List TMark)->(List Int)->(List Int)->Option (Int×Int×List Int×List TPage×Int×Int×List TSlot×List TScope×List Int×List TEntry×List TEntry×List TPin×List Int×Int×Int×List TThing×List TSlot×List TScope×List Int×List TEntry×List TEntry×List TMark×List Int×List Int)
 | 0,_,_,_,_,_,_,_,_,_,_,_,_,_,_,_,_,_,_,_,_,_,_,_,_,_,_,_=>none
 | n+1,v2,v3,v4,v5,v6,v7,v8,v9,v10,v11,v12,v13,v14,v15,v16,v17,v18,v19,v20,v21,v22,v23,v24,v25,v26,v27,v28 =>
  bif (decide (v2<a1)) then (bnd (QeP N (TTape.mk v3 v4)) fun y29 =>
   bif (!y29) then (bnd (QbJ N (TPair.mk (TEnv.mk (THeap.mk (TConf.mk v5 v6) v7 v8 v9 v10) (TLocals.mk v11 v12 v13) (TTable.mk v14) (TTable.mk v15) v16 v17) (TWorld.mk (TConf.mk v18 v19) v20 (TLocals.mk v21 v22 v23) (TTable.mk v24) (TTable.mk v25) v26 v27) v28) (TTape.mk v3 v4)) fun y30 =>
    bnd (Qb2 N (TPair.mk (TEnv.mk (THeap.mk (TConf.mk v5 v6) v7 v8 v9 v10) (TLocals.mk v11 v12 v13) (TTable.mk v14) (TTable.mk v15) v16 v17) (TWorld.mk (TConf.mk v18 v19) v20 (TLocals.mk v21 v22 v23) (TTable.mk v24) (TTable.mk v25) v26 v27) v28) y30.1) fun y31 =>
    Qd3 N a1 n (wI (v2+1)) y30.2.L y30.2.at_ y31.1.Env.Heap.Conf.PageWords y31.1.Env.Heap.Conf.Pages y31.1.Env.Heap.Words y31.1.Env.Heap.Pages y31.1.Env.Heap.Space y31.1.Env.Heap.Bump y31.1.Env.Locals.Slots y31.1.Env.Locals.Scopes y31.1.Env.Locals.Issued y31.1.Env.Globals.Entries y31.1.Env.Weaks.Entries y31.1.Env.Pins y31.1.Env.Roots y31.1.World.Conf.PageWords y31.1.World.Conf.Pages y31.1.World.Things y31.1.World.Locals.Slots y31.1.World.Locals.Scopes y31.1.World.Locals.Issued y31.1.World.Globals.Entries y31.1.World.Weaks.Entries y31.1.World.Marks y31.1.World.Roots y31.1.Words)
   else some (v5,v6,v7,v8,v9,v10,v11,v12,v13,v14,v15,v16,v17,v18,v19,v20,v21,v22,v23,v24,v25,v26,v27,v28))
  else some (v5,v6,v7,v8,v9,v10,v11,v12,v13,v14,v15,v16,v17,v18,v19,v20,v21,v22,v23,v24,v25,v26,v27,v28)
def Qfj (N:Nat) (a0:List Int) (a1:Int):Option TPair:=bnd (Qbv N (TTape.mk a0 0)) fun y1=>bnd (Qd3 N a1 N 0 y1.2.L y1.2.at_ y1.1.Env.Heap.Conf.PageWords y1.1.Env.Heap.Conf.Pages y1.1.Env.Heap.Words y1.1.Env.Heap.Pages y1.1.Env.Heap.Space y1.1.Env.Heap.Bump y1.1.Env.Locals.Slots y1.1.Env.Locals.Scopes y1.1.Env.Locals.Issued y1.1.Env.Globals.Entries y1.1.Env.Weaks.Entries y1.1.Env.Pins y1.1.Env.Roots y1.1.World.Conf.PageWords y1.1.World.Conf.Pages y1.1.World.Things y1.1.World.Locals.Slots y1.1.World.Locals.Scopes y1.1.World.Locals.Issued y1.1.World.Globals.Entries y1.1.World.Weaks.Entries y1.1.World.Marks y1.1.World.Roots y1.1.Words) fun y32=>some (TPair.mk (TEnv.mk (THeap.mk (TConf.mk y32.1 y32.2.1) y32.2.2.1 y32.2.2.2.1 y32.2.2.2.2.1 y32.2.2.2.2.2.1) (TLocals.mk y32.2.2.2.2.2.2.1 y32.2.2.2.2.2.2.2.1 y32.2.2.2.2.2.2.2.2.1) (TTable.mk y32.2.2.2.2.2.2.2.2.2.1) (TTable.mk y32.2.2.2.2.2.2.2.2.2.2.1) y32.2.2.2.2.2.2.2.2.2.2.2.1 y32.2.2.2.2.2.2.2.2.2.2.2.2.1) (TWorld.mk (TConf.mk y32.2.2.2.2.2.2.2.2.2.2.2.2.2.1 y32.2.2.2.2.2.2.2.2.2.2.2.2.2.2.1) y32.2.2.2.2.2.2.2.2.2.2.2.2.2.2.2.1 (TLocals.mk y32.2.2.2.2.2.2.2.2.2.2.2.2.2.2.2.2.1 y32.2.2.2.2.2.2.2.2.2.2.2.2.2.2.2.2.2.1 y32.2.2.2.2.2.2.2.2.2.2.2.2.2.2.2.2.2.2.1) (TTable.mk y32.2.2.2.2.2.2.2.2.2.2.2.2.2.2.2.2.2.2.2.1) (TTable.mk y32.2.2.2.2.2.2.2.2.2.2.2.2.2.2.2.2.2.2.2.2.1) y32.2.2.2.2.2.2.2.2.2.2.2.2.2.2.2.2.2.2.2.2.2.1 y32.2.2.2.2.2.2.2.2.2.2.2.2.2.2.2.2.2.2.2.2.2.2.1) y32.2.2.2.2.2.2.2.2.2.2.2.2.2.2.2.2.2.2.2.2.2.2.2)
def Qeo (N:Nat) (a0:TWorld) (a1:TTape):Option (TWorld×TTape):=bnd (Qaa N a1 6) fun y1=>bif (y1.1==0) then (grd (a0.Roots.length*8<=140737488355328) <| bnd (Qaa N y1.2 9) fun y2=>grd ((a0.Roots.length+1)*8<=140737488355328) <| some ((TWorld.mk a0.Conf a0.Things a0.Locals a0.Globals a0.Weaks a0.Marks (a0.Roots++[(wU y2.1)])),y2.2)) else bif (y1.1==1) then (bif (decide (((a0.Things.length:Nat):Int)>0)) then (grd (a0.Things.length*48<=140737488355328) <| bnd (Qaa N y1.2 ((a0.Things.length:Nat):Int)) fun y3=>bnd (Qaa N y3.2 5) fun y4=>bnd (getI a0.Things y3.1) fun p5=>some ((TWorld.mk a0.Conf (a0.Things.set y3.1.toNat (TThing.mk (THeader.mk y4.1 p5.Header.Length p5.Header.Map) p5.Fields)) a0.Locals a0.Globals a0.Weaks a0.Marks a0.Roots),y4.2)) else some (a0,y1.2)) else bif (y1.1==2) then (grd (a0.Marks.length*24<=140737488355328) <| bnd (Qaa N y1.2 6) fun y6=>bnd (Qaa N y6.2 3) fun y7=>bnd (Qaa N y7.2 3) fun y8=>grd ((a0.Marks.length+1)*24<=140737488355328) <| some ((TWorld.mk a0.Conf a0.Things a0.Locals a0.Globals a0.Weaks (a0.Marks++[(TMark.mk (wU y6.1) y7.1 (wU ((wU y8.1)*9223372036854775807)))]) a0.Roots),y8.2)) else bif (y1.1==3) then (grd (a0.Weaks.Entries.length*24<=140737488355328) <| bnd (Qaa N y1.2 9) fun y9=>grd ((a0.Weaks.Entries.length+1)*24<=140737488355328) <| some ((TWorld.mk a0.Conf a0.Things a0.Locals a0.Globals (TTable.mk (a0.Weaks.Entries++[(TEntry.mk 1 (wU y9.1) true)])) a0.Marks a0.Roots),y9.2)) else bif (y1.1==4) then (bnd (Qaa N y1.2 80) fun y10=>some ((TWorld.mk (TConf.mk a0.Conf.PageWords y10.1) a0.Things a0.Locals a0.Globals a0.Weaks a0.Marks a0.Roots),y10.2)) else bif (decide (((a0.Things.length:Nat):Int)>0)) then (grd (0<=0∧0<=(wI (((a0.Things.length:Nat):Int)-1))∧(wI (((a0.Things.length:Nat):Int)-1))<=((a0.Things.length:Nat):Int)) <| some ((TWorld.mk a0.Conf (a0.Things.take (wI (((a0.Things.length:Nat):Int)-1)).toNat) a0.Locals a0.Globals a0.Weaks a0.Marks a0.Roots),y1.2)) else some (a0,y1.2)
def QbQ (N:Nat) (a0:TWorld):Nat->Int->Option (Ex Bool Unit)
 | 0,_=>none
 | n+1,v1 =>
  bif (decide (v1<((a0.Things.length:Nat):Int))) then (bnd (getI a0.Things v1) fun p2 =>
   bif (decide (((p2.Fields.length:Nat):Int)>300)) then some (.ret false)
   else QbQ N a0 n (wI (v1+1)))
  else some (.nxt ())
def QdK (N:Nat) (a0:TWorld):Option Bool:=bnd (QbQ N a0 N 0) fun e=>exK e (fun r=>some r) fun y3=>bif (decide (((a0.Things.length:Nat):Int)<=100)) then (bif (decide (((a0.Locals.Slots.length:Nat):Int)<=200)) then (bif (decide (((a0.Locals.Scopes.length:Nat):Int)<=100)) then (bif (decide (((a0.Locals.Issued.length:Nat):Int)<=5000)) then (bif (decide (((a0.Globals.Entries.length:Nat):Int)<=200)) then (bif (decide (((a0.Weaks.Entries.length:Nat):Int)<=200)) then (bif (decide (((a0.Marks.length:Nat):Int)<=100)) then some (decide (((a0.Roots.length:Nat):Int)<=100)) else some false) else some false) else some false) else some false) else some false) else some false) else some false
def QeL (N:Nat) (a0:TWorld) (a1:List Int) (a2:List Int):Option (List TWorld):=bnd (Qfj N a1 60) fun y1=>bnd (Qeo N y1.World (TTape.mk a2 0)) fun y2=>bnd (QdK N a0) fun y3=>bif y3 then some [y1.World,y2.1,a0] else some [y1.World,y2.1]
def Qdk (N:Nat) (a0:TWorld):Nat->Int->(List TThing)->Option (List TThing)
 | 0,_,_=>none
 | n+1,v1,v2 =>
  bif (decide (v1<((a0.Things.length:Nat):Int))) then (bnd (getI a0.Things v1) fun p3 =>
   bnd (getI a0.Things v1) fun p4 =>
   grd ((v2.length+1)*48<=140737488355328) <|
   Qdk N a0 n (wI (v1+1)) (v2++[(TThing.mk p3.Header p4.Fields)]))
  else some v2
def Qdl (N:Nat) (a0:TWorld) (y5:List TThing):Nat->Int->(List TMark)->Option (List TMark)
 | 0,_,_=>none
 | n+1,v6,v7 =>
  bif (decide (v6<((a0.Marks.length:Nat):Int))) then (bnd (getI a0.Marks v6) fun p8 =>
   bnd (getI a0.Marks v6) fun p9 =>
   bnd (getI a0.Marks v6) fun p10 =>
   grd ((v7.length+1)*24<=140737488355328) <|
   Qdl N a0 y5 n (wI (v6+1)) (v7++[(TMark.mk p8.Id p9.Count p10.Base)]))
  else some v7
def QdX (N:Nat) (a0:TWorld):Option TWorld:=bnd (Qdk N a0 N 0 []) fun y5=>bnd (Qdl N a0 y5 N 0 []) fun y11=>some (TWorld.mk a0.Conf y5 a0.Locals a0.Globals a0.Weaks y11 a0.Roots)
def QcN (N:Nat) (a0:List Int) (a1:List Int):Nat->Int->Option (Ex Bool Unit)
 | 0,_=>none
 | n+1,v1 =>
  bif (decide (v1<((a0.length:Nat):Int))) then (bnd (getI a0 v1) fun p2 =>
   bnd (getI a1 v1) fun p3 =>
   bif (p2 != p3) then some (.ret false)
   else QcN N a0 a1 n (wI (v1+1)))
  else some (.nxt ())
def QeU (N:Nat) (a0:List Int) (a1:List Int):Option Bool:=bif (((a0.length:Nat):Int) != ((a1.length:Nat):Int)) then some false else bnd (QcN N a0 a1 N 0) fun e=>exK e (fun r=>some r) fun y4=>some true
def QcO (N:Nat) (a0:TLocals) (a1:TLocals):Nat->Int->Option (Ex Bool Unit)
 | 0,_=>none
 | n+1,v1 =>
  bif (decide (v1<((a0.Slots.length:Nat):Int))) then (bnd (getI a0.Slots v1) fun p2 =>
   bnd (getI a1.Slots v1) fun p3 =>
   bif (!((p2.Stamp==p3.Stamp)&&((p2.Ref==p3.Ref)&&(p2.Live==p3.Live)))) then some (.ret false)
   else QcO N a0 a1 n (wI (v1+1)))
  else some (.nxt ())
def QcP (N:Nat) (a0:TLocals) (a1:TLocals):Nat->Int->Option (Ex Bool Unit)
 | 0,_=>none
 | n+1,v5 =>
  bif (decide (v5<((a0.Scopes.length:Nat):Int))) then (bnd (getI a0.Scopes v5) fun p6 =>
   bnd (getI a1.Scopes v5) fun p7 =>
   bif (!((p6.From==p7.From)&&((p6.Cap==p7.Cap)&&(p6.Base==p7.Base)))) then some (.ret false)
   else QcP N a0 a1 n (wI (v5+1)))
  else some (.nxt ())
def QcQ (N:Nat) (a0:TLocals) (a1:TLocals):Nat->Int->Option (Ex Bool Unit)
 | 0,_=>none
 | n+1,v9 =>
  bif (decide (v9<((a0.Issued.length:Nat):Int))) then (bnd (getI a0.Issued v9) fun p10 =>
   bnd (getI a1.Issued v9) fun p11 =>
   bif (p10 != p11) then some (.ret false)
   else QcQ N a0 a1 n (wI (v9+1)))
  else some (.nxt ())
def Qfq (N:Nat) (a0:TLocals) (a1:TLocals):Option Bool:=bif (((a0.Slots.length:Nat):Int) != ((a1.Slots.length:Nat):Int)) then some false else bif (((a0.Scopes.length:Nat):Int) != ((a1.Scopes.length:Nat):Int)) then some false else bif (((a0.Issued.length:Nat):Int) != ((a1.Issued.length:Nat):Int)) then some false else bnd (QcO N a0 a1 N 0) fun e=>exK e (fun r=>some r) fun y4=>bnd (QcP N a0 a1 N 0) fun e=>exK e (fun r=>some r) fun y8=>bnd (QcQ N a0 a1 N 0) fun e=>exK e (fun r=>some r) fun y12=>some true
def QcR (N:Nat) (a0:TTable) (a1:TTable):Nat->Int->Option (Ex Bool Unit)
 | 0,_=>none
 | n+1,v1 =>
  bif (decide (v1<((a0.Entries.length:Nat):Int))) then (bnd (getI a0.Entries v1) fun p2 =>
   bnd (getI a1.Entries v1) fun p3 =>
   bif (!((p2.Gen==p3.Gen)&&((p2.Ref==p3.Ref)&&(p2.Live==p3.Live)))) then some (.ret false)
   else QcR N a0 a1 n (wI (v1+1)))
  else some (.nxt ())
def QeV (N:Nat) (a0:TTable) (a1:TTable):Option Bool:=bif (((a0.Entries.length:Nat):Int) != ((a1.Entries.length:Nat):Int)) then some false else bnd (QcR N a0 a1 N 0) fun e=>exK e (fun r=>some r) fun y4=>some true
def QcS (N:Nat) (a0:TWorld) (a1:TWorld):Nat->Int->Option (Ex Bool Unit)
 | 0,_=>none
 | n+1,v5 =>
  bif (decide (v5<((a0.Things.length:Nat):Int))) then (bnd (getI a0.Things v5) fun p6 =>
   bnd (getI a1.Things v5) fun p7 =>
   bif (!((p6.Header.Kind==p7.Header.Kind)&&((p6.Header.Length==p7.Header.Length)&&(p6.Header.Map==p7.Header.Map)))) then some (.ret false)
   else bnd (getI a0.Things v5) fun p8 =>
   bnd (getI a1.Things v5) fun p9 =>
   bnd (QeU N p8.Fields p9.Fields) fun y10 =>
   bif (!y10) then some (.ret false)
   else QcS N a0 a1 n (wI (v5+1)))
  else some (.nxt ())
def QcT (N:Nat) (a0:TWorld) (a1:TWorld):Nat->Int->Option (Ex Bool Unit)
 | 0,_=>none
 | n+1,v12 =>
  bif (decide (v12<((a0.Marks.length:Nat):Int))) then (bnd (getI a0.Marks v12) fun p13 =>
   bnd (getI a1.Marks v12) fun p14 =>
   bif (!((p13.Id==p14.Id)&&((p13.Count==p14.Count)&&(p13.Base==p14.Base)))) then some (.ret false)
   else QcT N a0 a1 n (wI (v12+1)))
  else some (.nxt ())
def QeW (N:Nat) (a0:TWorld) (a1:TWorld):Option Bool:=bif (!((a0.Conf.PageWords==a1.Conf.PageWords)&&(a0.Conf.Pages==a1.Conf.Pages))) then some false else bif (((a0.Things.length:Nat):Int) != ((a1.Things.length:Nat):Int)) then some false else bif (((a0.Marks.length:Nat):Int) != ((a1.Marks.length:Nat):Int)) then some false else bnd (Qfq N a0.Locals a1.Locals) fun y1=>bif (!y1) then some false else bnd (QeV N a0.Globals a1.Globals) fun y2=>bif (!y2) then some false else bnd (QeV N a0.Weaks a1.Weaks) fun y3=>bif (!y3) then some false else bnd (QeU N a0.Roots a1.Roots) fun y4=>bif (!y4) then some false else bnd (QcS N a0 a1 N 0) fun e=>exK e (fun r=>some r) fun y11=>bnd (QcT N a0 a1 N 0) fun e=>exK e (fun r=>some r) fun y15=>some true
def Qcd (N:Nat) (a0:TWorld):Nat->Int->(List TThing)->Option (List TThing)
 | 0,_,_=>none
 | n+1,v1,v2 =>
  bif (decide (v1<((a0.Things.length:Nat):Int))) then (bnd (getI a0.Things v1) fun p3 =>
   bnd (getI a0.Things v1) fun p4 =>
   grd ((v2.length+1)*48<=140737488355328) <|
   Qcd N a0 n (wI (v1+1)) (v2++[(TThing.mk p3.Header p4.Fields)]))
  else some v2
def Qce (N:Nat) (a0:TWorld) (y5:List TThing):Nat->Int->(List TMark)->Option (List TMark)
 | 0,_,_=>none
 | n+1,v6,v7 =>
  bif (decide (v6<((a0.Marks.length:Nat):Int))) then (bnd (getI a0.Marks v6) fun p8 =>
   bnd (getI a0.Marks v6) fun p9 =>
   bnd (getI a0.Marks v6) fun p10 =>
   grd ((v7.length+1)*24<=140737488355328) <|
   Qce N a0 y5 n (wI (v6+1)) (v7++[(TMark.mk p8.Id p9.Count p10.Base)]))
  else some v7
def QcY (N:Nat) (a0:TWorld):Option TWorld:=bnd (Qcd N a0 N 0 []) fun y5=>bnd (Qce N a0 y5 N 0 []) fun y11=>some (TWorld.mk a0.Conf y5 a0.Locals a0.Globals a0.Weaks y11 a0.Roots)
def Qbd (N:Nat) (a0:TConf):Option Bool:=bif (decide (a0.PageWords>=16)) then (bif (decide (a0.PageWords<=64)) then (bif ((a0.PageWords.tmod 4)==0) then (bif (decide (a0.Pages>=8)) then some (decide (a0.Pages<=64)) else some false) else some false) else some false) else some false
def QaP (N:Nat) (a1:Int):Option (List Int):=bif (decide (a1<0)) then none else bif (decide ((wI (a1-(wI 0)))>0)) then (grd (0=0∧0=0) <| grd (0<=(wI (a1-(wI 0)))∧(wI (a1-(wI 0))).toNat*8<=140737488355328) <| grd ((wI (a1-(wI 0))).toNat*8<=140737488355328) <| grd (0<=0∧0<=0∧0<=(((wI (a1-(wI 0))).toNat:Nat):Int)) <| some ((List.replicate (wI (a1-(wI 0))).toNat 0).take 0)) else some []
def Qat (N:Nat) (a0:List (List Int)):Nat->Int->Int->Option Int
 | 0,_,_=>none
 | n+1,v1,v2 =>
  bif (decide (v2<((a0.length:Nat):Int))) then (bnd (getI a0 v2) fun p3 =>
   bif (decide ((wI (v1+((p3.length:Nat):Int)))<0)) then none
   else Qat N a0 n (wI (v1+((p3.length:Nat):Int))) (wI (v2+1)))
  else some v1
def Qau (N:Nat) (a0:List (List Int)):Nat->Int->(List Int)->Option (List Int)
 | 0,_,_=>none
 | n+1,v6,v7 =>
  bif (decide (v6<((a0.length:Nat):Int))) then (bnd (getI a0 v6) fun p8 =>
   grd ((v7.length+p8.length)*8<=140737488355328) <|
   Qau N a0 n (wI (v6+1)) (v7++p8))
  else some v7
def Qar (N:Nat) (a0:List (List Int)):Option (List Int):=bnd (Qat N a0 N 0 0) fun y4=>bnd (QaP N y4) fun y5=>bnd (Qau N a0 N 0 y5) fun y9=>some y9
def Qap (N:Nat) (a0:Tframes):Nat->Int->Int->Option (Ex Bool Unit)
 | 0,_,_=>none
 | n+1,v1,v2 =>
  bif (decide (v2<((a0.Locals.Scopes.length:Nat):Int))) then (bnd (getI a0.Locals.Scopes v2) fun p3 =>
   bif (v2==0) then (bif (p3.From != 0) then some (.ret false)
    else bif (!p3.Base) then some (.ret false)
    else bif (decide (p3.From<v1)) then some (.ret false)
    else bif (decide (p3.From>((a0.Locals.Slots.length:Nat):Int))) then some (.ret false)
    else bif (decide (p3.Cap<0)) then some (.ret false)
    else bif (decide (p3.Cap>64)) then some (.ret false)
    else Qap N a0 n p3.From (wI (v2+1)))
   else bif (decide (p3.From<v1)) then some (.ret false)
   else bif (decide (p3.From>((a0.Locals.Slots.length:Nat):Int))) then some (.ret false)
   else bif (decide (p3.Cap<0)) then some (.ret false)
   else bif (decide (p3.Cap>64)) then some (.ret false)
   else Qap N a0 n p3.From (wI (v2+1)))
  else some (.nxt ())
def Qcf (N:Nat) (a0:Tframes):Option Bool:=jn (fun (_:Unit)=>bnd (Qap N a0 N 0 0) fun e=>exK e (fun r=>some r) fun y4=>some true) fun j1=>bif (decide (((a0.Locals.Scopes.length:Nat):Int)>64)) then some false else bif (((a0.Locals.Scopes.length:Nat):Int)==0) then (bif (decide (((a0.Locals.Slots.length:Nat):Int)>0)) then some false else j1 ()) else j1 ()
def Qav (N:Nat) (a0:Tframes):Nat->Int->Int->Option (Ex Bool Unit)
 | 0,_,_=>none
 | n+1,v1,v2 =>
  bif (decide (v2<((a0.Locals.Slots.length:Nat):Int))) then (bnd (getI a0.Locals.Slots v2) fun p3 =>
   bif (decide (p3.Stamp<=v1)) then some (.ret false)
   else bif (decide (p3.Stamp>((a0.Locals.Issued.length:Nat):Int))) then some (.ret false)
   else bnd (getI a0.Locals.Issued (wI (p3.Stamp-1))) fun p4 =>
   bif (p4 != v2) then some (.ret false)
   else bif (p3.Live==(p3.Ref==0)) then some (.ret false)
   else Qav N a0 n p3.Stamp (wI (v2+1)))
  else some (.nxt ())
def Qb3 (N:Nat) (a0:Tframes):Option Bool:=bnd (Qav N a0 N 0 0) fun e=>exK e (fun r=>some r) fun y5=>some true
def Qcz (N:Nat) (a0:Tframes) (a1:Int):Option (List TSlot):=bif (decide ((wI (a1+1))<((a0.Locals.Scopes.length:Nat):Int))) then (bnd (getI a0.Locals.Scopes a1) fun p1=>bnd (getI a0.Locals.Scopes (wI (a1+1))) fun p2=>grd (0<=p1.From∧p1.From<=p2.From∧p2.From<=((a0.Locals.Slots.length:Nat):Int)) <| some ((a0.Locals.Slots.drop p1.From.toNat).take (p2.From.toNat-p1.From.toNat))) else bnd (getI a0.Locals.Scopes a1) fun p3=>grd (0<=p3.From∧p3.From<=((a0.Locals.Slots.length:Nat):Int)∧((a0.Locals.Slots.length:Nat):Int)<=((a0.Locals.Slots.length:Nat):Int)) <| some (a0.Locals.Slots.drop p3.From.toNat)
def Qa2 (N:Nat) (y1:List TSlot):Nat->Int->Int->Option Int
 | 0,_,_=>none
 | n+1,v2,v3 =>
  bif (decide (v3<((y1.length:Nat):Int))) then (bnd (getI y1 v3) fun p4 =>
   bif p4.Live then Qa2 N y1 n (wI (v2+1)) (wI (v3+1))
   else Qa2 N y1 n v2 (wI (v3+1)))
  else some v2
def Qb6 (N:Nat) (a0:Tframes) (a1:Int):Option Int:=bnd (Qcz N a0 a1) fun y1=>bnd (Qa2 N y1 N 0 0) fun y5=>some y5
def Qeu (N:Nat) (a0:Int):Option Bool:=bif (decide (a0<0)) then some true else some (decide (a0>=4096))
def Qam (N:Nat) (a0:List Int):Nat->Int->Option (Ex Int Unit)
 | 0,_=>none
 | n+1,v1 =>
  bif (decide (v1<((a0.length:Nat):Int))) then (bnd (getI a0 v1) fun p2 =>
   bnd (Qeu N p2) fun y3 =>
   bif y3 then some (.ret v1)
   else Qam N a0 n (wI (v1+1)))
  else some (.nxt ())
def Qa9 (N:Nat) (a0:List Int):Option Int:=bnd (Qam N a0 N 0) fun e=>exK e (fun r=>some r) fun y4=>some (-1)
def QaS (N:Nat) (a0:List Int):Option Bool:=bnd (Qa9 N a0) fun y1=>some (decide (y1>=0))
def Qcp (N:Nat) (a0:TLocals):Nat->Int->Option (Ex Bool Unit)
 | 0,_=>none
 | n+1,v4 =>
  bif (decide (v4<((a0.Scopes.length:Nat):Int))) then (bnd (getI a0.Scopes v4) fun p5 =>
   bnd (Qb6 N (Tframes.mk a0) v4) fun y6 =>
   bif (decide (y6>p5.Cap)) then some (.ret false)
   else Qcp N a0 n (wI (v4+1)))
  else some (.nxt ())
def Qda (N:Nat) (a0:TLocals):Option Bool:=bif (decide (((a0.Issued.length:Nat):Int)>4096)) then some false else bnd (QaS N a0.Issued) fun y1=>bif y1 then some false else bnd (Qcf N (Tframes.mk a0)) fun y2=>bif (!y2) then some false else bnd (Qb3 N (Tframes.mk a0)) fun y3=>bif (!y3) then some false else bnd (Qcp N a0 N 0) fun e=>exK e (fun r=>some r) fun y7=>some true
def QcU (N:Nat) (a0:TLocals):Nat->Int->(List Int)->Option (List Int)
 | 0,_,_=>none
 | n+1,v2,v3 =>
  bif (decide (v2<((a0.Slots.length:Nat):Int))) then (bnd (getI a0.Slots v2) fun p4 =>
   bif p4.Live then (grd ((v3.length+1)*8<=140737488355328) <|
    QcU N a0 n (wI (v2+1)) (v3++[p4.Ref]))
   else QcU N a0 n (wI (v2+1)) v3)
  else some v3
def QeX (N:Nat) (a0:TLocals):Option (List Int):=bnd (Qda N a0) fun y1=>bif (!y1) then some [] else bnd (QcU N a0 N 0 []) fun y5=>some y5
def Qev (N:Nat) (a0:TEntry):Option Bool:=bif (decide (a0.Gen<1)) then some true else bif (decide (a0.Gen>4294967295)) then some true else bif (!a0.Live) then some (a0.Ref != 0) else some false
def Qaf (N:Nat) (a0:List TEntry):Nat->Int->Option (Ex Int Unit)
 | 0,_=>none
 | n+1,v1 =>
  bif (decide (v1<((a0.length:Nat):Int))) then (bnd (getI a0 v1) fun p2 =>
   bnd (Qev N p2) fun y3 =>
   bif y3 then some (.ret v1)
   else Qaf N a0 n (wI (v1+1)))
  else some (.nxt ())
def Qas (N:Nat) (a0:List TEntry):Option Int:=bnd (Qaf N a0 N 0) fun e=>exK e (fun r=>some r) fun y4=>some (-1)
def Qan (N:Nat) (a0:List TEntry):Option Bool:=bnd (Qas N a0) fun y1=>some (decide (y1>=0))
def Qdb (N:Nat) (a0:TTable):Option Bool:=bif (decide (((a0.Entries.length:Nat):Int)<=64)) then (bnd (Qan N a0.Entries) fun y1=>some (!y1)) else some false
def QcV (N:Nat) (a0:TTable):Nat->Int->(List Int)->Option (List Int)
 | 0,_,_=>none
 | n+1,v2,v3 =>
  bif (decide (v2<((a0.Entries.length:Nat):Int))) then (bnd (getI a0.Entries v2) fun p4 =>
   bif p4.Live then (grd ((v3.length+1)*8<=140737488355328) <|
    QcV N a0 n (wI (v2+1)) (v3++[p4.Ref]))
   else QcV N a0 n (wI (v2+1)) v3)
  else some v3
def QdL (N:Nat) (a0:TTable):Option (List Int):=bnd (Qdb N a0) fun y1=>bif (!y1) then some [] else bnd (QcV N a0 N 0 []) fun y5=>some y5
def Qax (N:Nat) (a0:List Int) (a1:Int):Nat->Int->Option (Ex Int Unit)
 | 0,_=>none
 | n+1,v1 =>
  bif (decide (v1<((a0.length:Nat):Int))) then (bnd (getI a0 v1) fun p2 =>
   bif (a1==p2) then some (.ret v1)
   else Qax N a0 a1 n (wI (v1+1)))
  else some (.nxt ())
def QbH (N:Nat) (a0:List Int) (a1:Int):Option Int:=bnd (Qax N a0 a1 N 0) fun e=>exK e (fun r=>some r) fun y3=>some (-1)
def QaQ (N:Nat) (a0:List Int) (a1:Int):Option Bool:=bnd (QbH N a0 a1) fun y1=>some (decide (y1>=0))
def Qd4 (N:Nat) (a0:Int):Nat->Int->Int->Option Int
 | 0,_,_=>none
 | n+1,v1,v2 =>
  bif (decide (v2<(if 64<(if a0<0 then 0 else a0) then 64 else (if a0<0 then 0 else a0)))) then Qd4 N a0 n (bOr .u64 (sShl .u64 v1 1) 1) (wI (v2+1))
  else some v1
def QdM (N:Nat) (a0:Int):Option Int:=bnd (Qd4 N a0 N 0 0) fun y3=>some y3
def QcA (N:Nat) (a0:THeader):Option Bool:=bif (decide (a0.Kind<0)) then some false else bif (decide (a0.Kind>3)) then some false else bif (decide (a0.Length<0)) then some false else bif (decide (a0.Length>255)) then some false else bif (a0.Kind==1) then (jn (fun (x2:Bool)=>some x2) fun j1=>bif (decide (a0.Length<=32)) then (bnd (QdM N a0.Length) fun y1=>j1 (decide ((wU a0.Map)<=y1))) else j1 false) else some ((a0.Kind==a0.Kind)&&((a0.Length==a0.Length)&&(a0.Map==0)))
def QeA (N:Nat) (a0:THeader):Option Int:=bnd (QcA N a0) fun y1=>bif (!y1) then some 0 else some (wI (a0.Length+1))
def Qd5 (N:Nat) (a0:THeader) (a1:Int):Option Bool:=bnd (QcA N a0) fun y1=>bif (!y1) then some false else bif (decide (a1<0)) then some false else bif (decide (a1>=a0.Length)) then some false else bif (a0.Kind==2) then some true else bif (a0.Kind==1) then (grd (0<=a1) <| some ((bAnd .u32 (sShr .u32 a0.Map a1) 1)==1)) else some false
def Qbk (N:Nat) (a0:THeader) (y1:Int):Nat->Int->(List Int)->Option (List Int)
 | 0,_,_=>none
 | n+1,v2,v3 =>
  bif (decide (v2<y1)) then (bnd (Qd5 N a0 v2) fun y4 =>
   bif y4 then (grd ((v3.length+1)*8<=140737488355328) <|
    Qbk N a0 y1 n (wI (v2+1)) (v3++[v2]))
   else Qbk N a0 y1 n (wI (v2+1)) v3)
  else some v3
def Qbg (N:Nat) (a0:THeader):Option (List Int):=bnd (QeA N a0) fun y1=>bnd (Qbk N a0 y1 N 0 []) fun y5=>some y5
def QcD (N:Nat) (a0:Int) (a1:TWorld):Option Bool:=some (decide (a0>(wU ((a1.Things.length:Nat):Int))))
def Qah (N:Nat) (a0:List Int) (c0:TWorld):Nat->Int->Option (Ex Int Unit)
 | 0,_=>none
 | n+1,v1 =>
  bif (decide (v1<((a0.length:Nat):Int))) then (bnd (getI a0 v1) fun p2 =>
   bnd (QcD N p2 c0) fun y3 =>
   bif y3 then some (.ret v1)
   else Qah N a0 c0 n (wI (v1+1)))
  else some (.nxt ())
def QaE (N:Nat) (a0:List Int) (c0:TWorld):Option Int:=bnd (Qah N a0 c0 N 0) fun e=>exK e (fun r=>some r) fun y4=>some (-1)
def Qay (N:Nat) (a0:List Int) (c0:TWorld):Option Bool:=bnd (QaE N a0 c0) fun y1=>some (decide (y1>=0))
def Qbu (N:Nat) (a0:TWorld) (a1:List Int):Option Bool:=bnd (Qay N a1 a0) fun y1=>some (!y1)
def Qcu (N:Nat) (a0:Int) (a1:TWorld) (a2:TThing):Option Bool:=bnd (getI a2.Fields a0) fun p1=>bnd (Qbu N a1 [p1]) fun y2=>some (!y2)
def Qaj (N:Nat) (a0:List Int) (c0:TWorld) (c1:TThing):Nat->Int->Option (Ex Int Unit)
 | 0,_=>none
 | n+1,v1 =>
  bif (decide (v1<((a0.length:Nat):Int))) then (bnd (getI a0 v1) fun p2 =>
   bnd (Qcu N p2 c0 c1) fun y3 =>
   bif y3 then some (.ret v1)
   else Qaj N a0 c0 c1 n (wI (v1+1)))
  else some (.nxt ())
def Qa3 (N:Nat) (a0:List Int) (c0:TWorld) (c1:TThing):Option Int:=bnd (Qaj N a0 c0 c1 N 0) fun e=>exK e (fun r=>some r) fun y4=>some (-1)
def QaO (N:Nat) (a0:List Int) (c0:TWorld) (c1:TThing):Option Bool:=bnd (Qa3 N a0 c0 c1) fun y1=>some (decide (y1>=0))
def QcB (N:Nat) (a0:TWorld) (a1:TThing):Option Bool:=bnd (QcA N a1.Header) fun y1=>bif (!y1) then some false else bif (a1.Header.Kind==0) then some false else bif (((a1.Fields.length:Nat):Int) != a1.Header.Length) then some false else bnd (Qbg N a1.Header) fun y2=>bnd (QaO N y2 a0 a1) fun y3=>some (!y3)
def QcZ (N:Nat) (a0:TMark) (a1:Int):Option Bool:=some (a0.Id==a1)
def Qad (N:Nat) (a0:List TMark) (c0:Int):Nat->Int->Option (Ex Int Unit)
 | 0,_=>none
 | n+1,v1 =>
  bif (decide (v1<((a0.length:Nat):Int))) then (bnd (getI a0 v1) fun p2 =>
   bnd (QcZ N p2 c0) fun y3 =>
   bif y3 then some (.ret v1)
   else Qad N a0 c0 n (wI (v1+1)))
  else some (.nxt ())
def Qaq (N:Nat) (a0:List TMark) (c0:Int):Option Int:=bnd (Qad N a0 c0 N 0) fun e=>exK e (fun r=>some r) fun y4=>some (-1)
def Qdx (N:Nat) (a0:TWorld) (a1:Int):Option Int:=bnd (Qaq N a0.Marks a1) fun y1=>some y1
def QaZ (N:Nat) (a0:TWorld):Nat->Int->Option (Ex Bool Unit)
 | 0,_=>none
 | n+1,v1 =>
  bif (decide (v1<((a0.Marks.length:Nat):Int))) then (bnd (getI a0.Marks v1) fun p2 =>
   bif (p2.Id==0) then some (.ret false)
   else bnd (Qbu N a0 [p2.Id]) fun y3 =>
   bif (!y3) then some (.ret false)
   else bif (decide (p2.Count<1)) then some (.ret false)
   else bif (decide (p2.Count>1000)) then some (.ret false)
   else bnd (Qdx N a0 p2.Id) fun y4 =>
   bif (y4 != v1) then some (.ret false)
   else QaZ N a0 n (wI (v1+1)))
  else some (.nxt ())
def QcC (N:Nat) (a0:TWorld):Option Bool:=bnd (QaZ N a0 N 0) fun e=>exK e (fun r=>some r) fun y5=>some (decide (((a0.Marks.length:Nat):Int)<=64))
def Qcq (N:Nat) (a0:TWorld):Nat->Int->Option (Ex Bool Unit)
 | 0,_=>none
 | n+1,v7 =>
  bif (decide (v7<((a0.Things.length:Nat):Int))) then (bnd (getI a0.Things v7) fun p8 =>
   bnd (QcB N a0 p8) fun y9 =>
   bif (!y9) then some (.ret false)
   else Qcq N a0 n (wI (v7+1)))
  else some (.nxt ())
def Qdc (N:Nat) (a0:TWorld):Option Bool:=bnd (Qbd N a0.Conf) fun y1=>bif (!y1) then some false else bnd (Qda N a0.Locals) fun y2=>bif (!y2) then some false else bnd (Qdb N a0.Globals) fun y3=>bif (!y3) then some false else bnd (Qdb N a0.Weaks) fun y4=>bif (!y4) then some false else bnd (QdL N a0.Globals) fun y5=>bnd (QaQ N y5 0) fun y6=>bif y6 then some false else bnd (Qcq N a0 N 0) fun e=>exK e (fun r=>some r) fun y10=>bnd (QeX N a0.Locals) fun y11=>bnd (QdL N a0.Globals) fun y12=>bnd (QdL N a0.Weaks) fun y13=>bnd (Qar N [a0.Roots,y11,y12,y13]) fun y14=>bnd (Qbu N a0 y14) fun y15=>bif y15 then (bnd (QcC N a0) fun y16=>some y16) else some false
def rchOK (N:Nat) (a0:TWorld) (l:List Int):Bool :=
 (decide (l.length<=140737488355328)&&l.all fun x=>decide (0<=x∧x<=a0.Things.length))&&a0.Things.all fun t=>match Qbg N t.Header,Qcs N t with
  | some ps,some ks=>(decide (ps.length<=140737488355328)&&ps.all fun i=>decide (0<=i)&&decide (i<t.Fields.length)&&decide (0<=t.Fields.getD i.toNat 0)&&decide (t.Fields.getD i.toNat 0<=a0.Things.length))&&(ks==ps.map fun i=>t.Fields.getD i.toNat 0)
  | _,_=>false
def Qdm (N:Nat) (a0:TWorld):Option (List Bool):=bnd (Qdc N a0) fun y1=>bif (!y1) then some [] else bnd (QeX N a0.Locals) fun y2=>bnd (QdL N a0.Globals) fun y3=>bnd (Qar N [a0.Roots,y2,y3]) fun y4=>grd (rchOK N a0 (y4++a0.Marks.map (·.Id))=true) <| bnd (Qai N a0 N 0 (List.replicate a0.Things.length false) (y4++a0.Marks.map (·.Id))) fun r=>some r
def QaK (N:Nat) (a0:List TThing):Option (List TThing):=some a0
def QaI (N:Nat) (a0:List Int):Option (List Int):=some a0
def QaL (N:Nat) (a0:List TSlot):Option (List TSlot):=some a0
def QaC (N:Nat) (a0:List TScope):Option (List TScope):=some a0
def Qb4 (N:Nat) (a0:List Int):Option (List Int):=some a0
def Qfc (N:Nat) (a0:TLocals):Option TLocals:=bnd (QaL N a0.Slots) fun y1=>bnd (QaC N a0.Scopes) fun y2=>bnd (Qb4 N a0.Issued) fun y3=>some (TLocals.mk y1 y2 y3)
def QaD (N:Nat) (a0:List TEntry):Option (List TEntry):=some a0
def Qd6 (N:Nat) (a0:TTable):Option TTable:=bnd (QaD N a0.Entries) fun y1=>some (TTable.mk y1)
def QaT (N:Nat) (a0:List TMark):Option (List TMark):=some a0
def Qdn (N:Nat) (a0:TWorld) (y1:List TThing):Nat->Int->(List TThing)->Option (List TThing)
 | 0,_,_=>none
 | n+1,v2,v3 =>
  bif (decide (v2<((y1.length:Nat):Int))) then (bnd (getI v3 v2) fun p4 =>
   bnd (QaI N p4.Fields) fun y5 =>
   bnd (getI v3 v2) fun p6 =>
   Qdn N a0 y1 n (wI (v2+1)) (v3.set v2.toNat (TThing.mk p6.Header y5)))
  else some v3
def QeB (N:Nat) (a0:TWorld):Option TWorld:=bnd (QaK N a0.Things) fun y1=>grd (y1.length<=140737488355328) <| bnd (Qdn N a0 y1 N 0 y1) fun y7=>bnd (Qfc N a0.Locals) fun y8=>bnd (Qd6 N a0.Globals) fun y9=>bnd (Qd6 N a0.Weaks) fun y10=>bnd (QaT N a0.Marks) fun y11=>bnd (QaI N a0.Roots) fun y12=>some (TWorld.mk a0.Conf y7 y8 y9 y10 y11 y12)
def QaU (N:Nat) (y2:List Bool) (y3:TWorld):Nat->Int->(List TEntry)->Option (List TEntry)
 | 0,_,_=>none
 | n+1,v4,v5 =>
  bif (decide (v4<((y3.Weaks.Entries.length:Nat):Int))) then (bnd (getI v5 v4) fun p6 =>
   bif p6.Live then (bif (p6.Ref != 0) then (bnd (getI y2 (wU (p6.Ref-1))) fun p7 =>
       bif (!p7) then (bnd (getI v5 v4) fun p8 =>
        QaU N y2 y3 n (wI (v4+1)) (v5.set v4.toNat (TEntry.mk p8.Gen 0 p8.Live)))
       else QaU N y2 y3 n (wI (v4+1)) v5)
    else QaU N y2 y3 n (wI (v4+1)) v5)
   else QaU N y2 y3 n (wI (v4+1)) v5)
  else some v5
def Qcr (N:Nat) (a0:TWorld):Option (TWorld×Int):=bnd (Qdc N a0) fun y1=>bif (!y1) then some ((TWorld.mk (TConf.mk 0 0) [] (TLocals.mk [] [] []) (TTable.mk []) (TTable.mk []) [] []),19) else bnd (Qdm N a0) fun y2=>bnd (QeB N a0) fun y3=>grd (y3.Weaks.Entries.length<=140737488355328) <| bnd (QaU N y2 y3 N 0 y3.Weaks.Entries) fun y9=>some ((TWorld.mk y3.Conf y3.Things y3.Locals y3.Globals (TTable.mk y9) y3.Marks y3.Roots),0)
def Qgq (N:Nat) (a0:TLocals):Option TLocals:=bnd (QaL N a0.Slots) fun y1=>bnd (QaC N a0.Scopes) fun y2=>bnd (Qb4 N a0.Issued) fun y3=>some (TLocals.mk y1 y2 y3)
def QeM (N:Nat) (a0:TLocals) (a1:Int):Option (TLocals×Int×Int×Int):=bnd (Qda N a0) fun y1=>bif (!y1) then some ((TLocals.mk [] [] []),0,0,1) else bif (a1==0) then some ((TLocals.mk [] [] []),0,0,1) else bif (decide ((wI (((a0.Scopes.length:Nat):Int)-1))<0)) then some ((TLocals.mk [] [] []),0,0,9) else bnd (Qb6 N (Tframes.mk a0) (wI (((a0.Scopes.length:Nat):Int)-1))) fun y2=>bnd (getI a0.Scopes (wI (((a0.Scopes.length:Nat):Int)-1))) fun p3=>bif (decide (y2>=p3.Cap)) then some ((TLocals.mk [] [] []),0,0,10) else bif (decide (((a0.Issued.length:Nat):Int)>=4096)) then some ((TLocals.mk [] [] []),0,0,18) else bnd (Qgq N a0) fun y4=>grd (y4.Slots.length<=140737488355328) <| grd (y4.Issued.length<=140737488355328) <| grd ((y4.Slots.length+1)*24<=140737488355328) <| grd ((y4.Issued.length+1)*8<=140737488355328) <| some ((TLocals.mk (y4.Slots++[(TSlot.mk (wI (((y4.Issued.length:Nat):Int)+1)) a1 true)]) y4.Scopes (y4.Issued++[((y4.Slots.length:Nat):Int)])),((y4.Slots.length:Nat):Int),(wI (((y4.Issued.length:Nat):Int)+1)),0)
def Qgr (N:Nat) (a0:TLocals) (a1:Int):Option Int:=bif (a1==0) then some 0 else bnd (QeM N a0 a1) fun y1=>some y1.2.2.2
def Qfr (N:Nat) (a0:TConf):Option Int:=bnd (Qbd N a0) fun y1=>bif (!y1) then some 0 else some (wI (a0.PageWords.tdiv 4))
def QgR (N:Nat) (a0:TConf) (a1:Int):Option Int:=bnd (Qbd N a0) fun y1=>bif (!y1) then some (-1) else bif (decide (a1<1)) then some (-1) else bif (decide (a1>(wI (4*a0.PageWords)))) then some (-1) else bnd (Qfr N a0) fun y2=>bif (decide (a1<=y2)) then some 0 else grd (a0.PageWords≠0) <| some (wI ((wI ((wI (a1+a0.PageWords))-1)).tdiv a0.PageWords))
def QgB (N:Nat) (a0:TConf) (a1:THeader):Option Bool:=bnd (QcA N a1) fun y1=>bif y1 then (bif (a1.Kind != 0) then (bnd (QeA N a1) fun y2=>bnd (QgR N a0 y2) fun y3=>some (decide (y3>=0))) else some false) else some false
def Qe4 (N:Nat) (a0:Tasked) (a1:Int):Option Int:=jn (fun (x2:Bool) (x3:Int)=>bnd (Qgr N a0.World.Locals 1) fun y4=>bif (decide (((a0.World.Marks.length:Nat):Int)>0)) then some 15 else bif (!x2) then some 1 else bnd (QgB N a0.World.Conf (THeader.mk a1 (wI (if 2147483647<a0.a then 2147483647 else a0.a)) x3)) fun y5=>bif (!y5) then some 1 else bif (y4 != 0) then some y4 else bif a0.failed then some 3 else some 0) fun j2=>bif (a1==1) then (jn (fun (x1:Bool)=>j2 x1 (wW (if 4294967295<a0.b then 4294967295 else a0.b))) fun j1=>bif (decide (a0.a<=2147483647)) then j1 (decide (a0.b<=4294967295)) else j1 false) else j2 (decide (a0.a<=2147483647)) 0
def QfK (N:Nat) (a0:Tasked):Option Int:=bnd (Qe4 N a0 3) fun y1=>some y1
def QfL (N:Nat) (a0:TWorld) (a1:Int) (a2:Int) (a3:Int) (a4:Int) (a5:Bool):Option Int:=bnd (Qdc N a0) fun y1=>bif (!y1) then some 19 else bif (a1==3) then QfK N ⟨a0,a2,a3,a4,a5⟩ else none
def QeY (N:Nat) (a0:Int) (a1:List Int):Nat->Int->Int->Option (Ex (List Int×Int) Unit)
 | 0,_,_=>none
 | n+1,v1,v2 =>
  bif (decide (v2<((a1.length:Nat):Int))) then (bnd (getI a1 v2) fun p3 =>
   bif (decide (p3<1)) then some (.ret ([],1))
   else bif (decide (p3>v1)) then some (.ret ([],1))
   else QeY N a0 a1 n (wI (v1-p3)) (wI (v2+1)))
  else some (.nxt ())
def QeZ (N:Nat) (a1:List Int):Nat->Int->Int->(List Int)->Option (Int×List Int)
 | 0,_,_,_=>none
 | n+1,v5,v6,v7 =>
  bif (decide (v6<((a1.length:Nat):Int))) then (bnd (getI a1 v6) fun p8 =>
   bnd (QdM N p8) fun y9 =>
   grd ((v7.length+1)*8<=140737488355328) <|
   grd (0<=p8) <|
   QeZ N a1 n (sShr .u64 v5 p8) (wI (v6+1)) (v7++[(bAnd .u64 v5 y9)]))
  else some (v5,v7)
def Qgs (N:Nat) (a0:Int) (a1:List Int):Option (List Int×Int):=bnd (QeY N a0 a1 N 64 0) fun e=>exK e (fun r=>some r) fun y4=>bnd (QeZ N a1 N a0 0 []) fun y10=>bif (y10.1 != 0) then some ([],2) else some (y10.2,0)
def Qfs (N:Nat) (a0:THandle):Option Bool:=bif (decide (a0.Tag<1)) then some false else bif (decide (a0.Tag>3)) then some false else bif (decide (a0.Index<0)) then some false else bif (decide (a0.Stamp<1)) then some false else bnd (QdM N 16) fun y1=>bif (decide ((wU a0.Index)<=y1)) then (bnd (QdM N 32) fun y2=>some (decide ((wU a0.Stamp)<=y2))) else some false
def QfM (N:Nat) (a0:Int):Option (THandle×Int):=bif (a0==0) then some ((THandle.mk 0 0 0),5) else bnd (Qgs N a0 [2,16,32]) fun y1=>bif (y1.2 != 0) then some ((THandle.mk 0 0 0),6) else bnd (getI y1.1 0) fun p2=>bnd (getI y1.1 1) fun p3=>bnd (getI y1.1 2) fun p4=>bnd (Qfs N (THandle.mk (wI p2) (wI p3) (wI p4))) fun y5=>bif (!y5) then some ((THandle.mk 0 0 0),6) else some ((THandle.mk (wI p2) (wI p3) (wI p4)),0)
def QgS (N:Nat) (a0:TLocals) (a1:Int) (a2:Int):Option (Int×Int):=bnd (Qda N a0) fun y1=>bif (!y1) then some (0,1) else bif (decide (a2<1)) then some (0,6) else bif (decide (a2>((a0.Issued.length:Nat):Int))) then some (0,6) else bnd (getI a0.Issued (wI (a2-1))) fun p2=>bif (p2 != a1) then some (0,6) else bif (decide (a1>=((a0.Slots.length:Nat):Int))) then some (0,7) else bnd (getI a0.Slots a1) fun p3=>bif (p3.Stamp != a2) then some (0,7) else bnd (getI a0.Slots a1) fun p4=>bif (!p4.Live) then some (0,8) else bnd (getI a0.Slots a1) fun p5=>some (p5.Ref,0)
def Qgt (N:Nat) (a0:TTable) (a1:Int) (a2:Int):Option Int:=bnd (Qdb N a0) fun y1=>bif (!y1) then some 1 else bif (decide (a1<0)) then some 6 else bif (decide (a1>=((a0.Entries.length:Nat):Int))) then some 6 else bif (decide (a2<1)) then some 6 else bnd (getI a0.Entries a1) fun p2=>bif (decide (a2>p2.Gen)) then some 6 else bnd (getI a0.Entries a1) fun p3=>bif (decide (a2<p3.Gen)) then some 8 else bnd (getI a0.Entries a1) fun p4=>bif (!p4.Live) then some 8 else some 0
def Qgk (N:Nat) (a0:TTable) (a1:Int) (a2:Int):Option (Int×Int):=bnd (Qgt N a0 a1 a2) fun y1=>bif (y1 != 0) then some (0,y1) else bnd (getI a0.Entries a1) fun p2=>some (p2.Ref,0)
def Qep (N:Nat) (a0:TWorld) (a1:Int):Option (Int×Int):=bnd (QfM N a1) fun y1=>bif (y1.2==5) then some (0,0) else bif (y1.2 != 0) then some (0,y1.2) else bif (y1.1.Tag==1) then (bnd (QgS N a0.Locals y1.1.Index y1.1.Stamp) fun y2=>some (y2.1,y2.2)) else bif (y1.1.Tag==2) then (bnd (Qgk N a0.Globals y1.1.Index y1.1.Stamp) fun y3=>some (y3.1,y3.2)) else bnd (Qgk N a0.Weaks y1.1.Index y1.1.Stamp) fun y4=>some (y4.1,y4.2)
def QfN (N:Nat) (a0:TWorld) (a1:Int):Option (Int×Int):=bnd (Qdc N a0) fun y1=>bif (!y1) then some (0,19) else bnd (Qep N a0 a1) fun y2=>some (y2.1,y2.2)
def QgT (N:Nat) (a0:Int) (a1:Int):Option Bool:=bnd (QdM N a1) fun y1=>some ((bAndNot .u64 a0 y1)==0)
def Qft (N:Nat) (a0:List TField):Nat->Int->Int->Option (Ex (Int×Int) Unit)
 | 0,_,_=>none
 | n+1,v1,v2 =>
  bif (decide (v2<((a0.length:Nat):Int))) then (bnd (getI a0 v2) fun p3 =>
   bif (decide (p3.Width<1)) then some (.ret (0,1))
   else bif (decide (p3.Width>v1)) then some (.ret (0,1))
   else Qft N a0 n (wI (v1-p3.Width)) (wI (v2+1)))
  else some (.nxt ())
def Qfu (N:Nat) (a0:List TField):Nat->Int->Int->Int->Option (Ex (Int×Int) Int)
 | 0,_,_,_=>none
 | n+1,v5,v6,v7 =>
  bif (decide (v7<((a0.length:Nat):Int))) then (bnd (getI a0 v7) fun p8 =>
   bnd (QgT N p8.Value p8.Width) fun y9 =>
   bif (!y9) then some (.ret (0,2))
   else grd (0<=v6) <|
   Qfu N a0 n (bOr .u64 v5 (sShl .u64 p8.Value v6)) (wI (v6+p8.Width)) (wI (v7+1)))
  else some (.nxt v5)
def QgU (N:Nat) (a0:List TField):Option (Int×Int):=bnd (Qft N a0 N 64 0) fun e=>exK e (fun r=>some r) fun y4=>bnd (Qfu N a0 N 0 0 0) fun e=>exK e (fun r=>some r) fun y10=>some (y10,0)
def QdC (N:Nat) (a0:THandle):Option (Int×Int):=bnd (Qfs N a0) fun y1=>bif (!y1) then some (0,1) else bnd (QgU N [(TField.mk 2 (wU a0.Tag)),(TField.mk 16 (wU a0.Index)),(TField.mk 32 (wU a0.Stamp))]) fun y2=>some (y2.1,y2.2)
def Qgu (N:Nat) (a0:TWorld) (a1:Int) (a2:Int) (a3:Int) (a4:Int) (a5:TFact):Option (TWorld×Int×Int):=bif (a1==3) then (bnd (QfL N a0 3 a2 a3 a4 a5.Failed) fun y1=>bif (y1 != 0) then some ((TWorld.mk (TConf.mk 0 0) [] (TLocals.mk [] [] []) (TTable.mk []) (TTable.mk []) [] []),0,y1) else bnd (QfN N a0 a2) fun y2=>bnd (QeB N a0) fun y3=>bif (y2.1 != 0) then (bnd (getI y3.Things (wU (y2.1-1))) fun p4=>bif a5.Collected then (bnd (Qcr N y3) fun y9=>bif (y9.2 != 0) then (bif (y9.2 != 0) then some ((TWorld.mk (TConf.mk 0 0) [] (TLocals.mk [] [] []) (TTable.mk []) (TTable.mk []) [] []),0,y9.2) else some (y3,0,0)) else grd (0<=(wI a2)∧(wI a2).toNat*8<=140737488355328) <| grd ((y9.1.Things.length+1)*48<=140737488355328) <| grd ((y9.1.Things.length+1)<=140737488355328) <| jn (fun (x23:Int) (x24:Int) (x25:List TSlot) (x26:List TScope) (x27:List Int)=>bif (x24 != 0) then some ((TWorld.mk (TConf.mk 0 0) [] (TLocals.mk [] [] []) (TTable.mk []) (TTable.mk []) [] []),0,x24) else some ((TWorld.mk y9.1.Conf (y9.1.Things++[(TThing.mk (THeader.mk 3 (wI a2) 0) (List.replicate (wI a2).toNat 0))]) (TLocals.mk x25 x26 x27) y9.1.Globals y9.1.Weaks y9.1.Marks y9.1.Roots),x23,0)) fun j1=>bif ((wU (((y9.1.Things.length+1):Nat):Int))==0) then j1 0 0 y9.1.Locals.Slots y9.1.Locals.Scopes y9.1.Locals.Issued else bnd (QeM N y9.1.Locals (wU (((y9.1.Things.length+1):Nat):Int))) fun y21=>bif (y21.2.2.2 != 0) then j1 0 y21.2.2.2 y9.1.Locals.Slots y9.1.Locals.Scopes y9.1.Locals.Issued else bnd (QdC N (THandle.mk 1 y21.2.1 y21.2.2.1)) fun y22=>j1 y22.1 y22.2 y21.1.Slots y21.1.Scopes y21.1.Issued) else grd (0<=(wI a2)∧(wI a2).toNat*8<=140737488355328) <| grd ((y3.Things.length+1)*48<=140737488355328) <| grd ((y3.Things.length+1)<=140737488355328) <| jn (fun (x30:Int) (x31:Int) (x32:List TSlot) (x33:List TScope) (x34:List Int)=>bif (x31 != 0) then some ((TWorld.mk (TConf.mk 0 0) [] (TLocals.mk [] [] []) (TTable.mk []) (TTable.mk []) [] []),0,x31) else some ((TWorld.mk y3.Conf (y3.Things++[(TThing.mk (THeader.mk 3 (wI a2) 0) (List.replicate (wI a2).toNat 0))]) (TLocals.mk x32 x33 x34) y3.Globals y3.Weaks y3.Marks y3.Roots),x30,0)) fun j2=>bif ((wU (((y3.Things.length+1):Nat):Int))==0) then j2 0 0 y3.Locals.Slots y3.Locals.Scopes y3.Locals.Issued else bnd (QeM N y3.Locals (wU (((y3.Things.length+1):Nat):Int))) fun y28=>bif (y28.2.2.2 != 0) then j2 0 y28.2.2.2 y3.Locals.Slots y3.Locals.Scopes y3.Locals.Issued else bnd (QdC N (THandle.mk 1 y28.2.1 y28.2.2.1)) fun y29=>j2 y29.1 y29.2 y28.1.Slots y28.1.Scopes y28.1.Issued) else bif a5.Collected then (bnd (Qcr N y3) fun y49=>bif (y49.2 != 0) then (bif (y49.2 != 0) then some ((TWorld.mk (TConf.mk 0 0) [] (TLocals.mk [] [] []) (TTable.mk []) (TTable.mk []) [] []),0,y49.2) else some (y3,0,0)) else grd (0<=(wI a2)∧(wI a2).toNat*8<=140737488355328) <| grd ((y49.1.Things.length+1)*48<=140737488355328) <| grd ((y49.1.Things.length+1)<=140737488355328) <| jn (fun (x63:Int) (x64:Int) (x65:List TSlot) (x66:List TScope) (x67:List Int)=>bif (x64 != 0) then some ((TWorld.mk (TConf.mk 0 0) [] (TLocals.mk [] [] []) (TTable.mk []) (TTable.mk []) [] []),0,x64) else some ((TWorld.mk y49.1.Conf (y49.1.Things++[(TThing.mk (THeader.mk 3 (wI a2) 0) (List.replicate (wI a2).toNat 0))]) (TLocals.mk x65 x66 x67) y49.1.Globals y49.1.Weaks y49.1.Marks y49.1.Roots),x63,0)) fun j3=>bif ((wU (((y49.1.Things.length+1):Nat):Int))==0) then j3 0 0 y49.1.Locals.Slots y49.1.Locals.Scopes y49.1.Locals.Issued else bnd (QeM N y49.1.Locals (wU (((y49.1.Things.length+1):Nat):Int))) fun y61=>bif (y61.2.2.2 != 0) then j3 0 y61.2.2.2 y49.1.Locals.Slots y49.1.Locals.Scopes y49.1.Locals.Issued else bnd (QdC N (THandle.mk 1 y61.2.1 y61.2.2.1)) fun y62=>j3 y62.1 y62.2 y61.1.Slots y61.1.Scopes y61.1.Issued) else grd (0<=(wI a2)∧(wI a2).toNat*8<=140737488355328) <| grd ((y3.Things.length+1)*48<=140737488355328) <| grd ((y3.Things.length+1)<=140737488355328) <| jn (fun (x70:Int) (x71:Int) (x72:List TSlot) (x73:List TScope) (x74:List Int)=>bif (x71 != 0) then some ((TWorld.mk (TConf.mk 0 0) [] (TLocals.mk [] [] []) (TTable.mk []) (TTable.mk []) [] []),0,x71) else some ((TWorld.mk y3.Conf (y3.Things++[(TThing.mk (THeader.mk 3 (wI a2) 0) (List.replicate (wI a2).toNat 0))]) (TLocals.mk x72 x73 x74) y3.Globals y3.Weaks y3.Marks y3.Roots),x70,0)) fun j4=>bif ((wU (((y3.Things.length+1):Nat):Int))==0) then j4 0 0 y3.Locals.Slots y3.Locals.Scopes y3.Locals.Issued else bnd (QeM N y3.Locals (wU (((y3.Things.length+1):Nat):Int))) fun y68=>bif (y68.2.2.2 != 0) then j4 0 y68.2.2.2 y3.Locals.Slots y3.Locals.Scopes y3.Locals.Issued else bnd (QdC N (THandle.mk 1 y68.2.1 y68.2.2.1)) fun y69=>j4 y69.1 y69.2 y68.1.Slots y68.1.Scopes y68.1.Issued) else none
def QfH (N:Nat):Option Bool:=bnd (Qfj N [] 0) fun y1=>bnd (QdX N y1.World) fun y2=>bnd (Qgu N y2 3 3 0 0 (TFact.mk false false 0)) fun y3=>bif (y3.2.2==0) then (bif (y3.2.1==262145) then (bif (((y3.1.Things.length:Nat):Int)==1) then (bnd (getI y3.1.Things 0) fun p4=>some (((p4.Fields.length:Nat):Int)==3)) else some false) else some false) else some false
def Qfv (N:Nat) (a0:TConf):Option (TWorld×Int):=bnd (Qbd N a0) fun y1=>bif (!y1) then some ((TWorld.mk (TConf.mk 0 0) [] (TLocals.mk [] [] []) (TTable.mk []) (TTable.mk []) [] []),1) else some ((TWorld.mk a0 [] (TLocals.mk [] [] []) (TTable.mk []) (TTable.mk []) [] []),0)
def Qaz (N:Nat) (y5:List TWorld) (y9:List Bool) (v6:Int) (p7:TWorld) (y10:List Bool):Nat->Int->Option (Ex Bool Unit)
 | 0,_=>none
 | n+1,v11 =>
  bif (decide (v11<((y9.length:Nat):Int))) then (bnd (getI y9 v11) fun p12 =>
   bnd (getI y10 v11) fun p13 =>
   bif (!(p12==p13)) then some (.ret false)
   else Qaz N y5 y9 v6 p7 y10 n (wI (v11+1)))
  else some (.nxt ())
def QaA (N:Nat) (y5:List TWorld):Nat->Int->Option (Ex Bool Unit)
 | 0,_=>none
 | n+1,v6 =>
  bif (decide (v6<((y5.length:Nat):Int))) then (bnd (getI y5 v6) fun p7 =>
   bnd (QdX N p7) fun y8 =>
   bnd (Qdm N y8) fun y9 =>
   bnd (Qb8 N p7) fun y10 =>
   bif (((y9.length:Nat):Int) != ((y10.length:Nat):Int)) then some (.ret false)
   else bnd (Qaz N y5 y9 v6 p7 y10 N 0) fun e=>exK e (fun r=>some (.ret r)) fun y14 =>
   bnd (QdX N p7) fun y15 =>
   bnd (Qcr N y15) fun y16 =>
   bnd (Qa4 N p7) fun y17 =>
   bif (y16.2 != y17.2) then some (.ret false)
   else bnd (QcY N y16.1) fun y18 =>
   bnd (QeW N y18 y17.1) fun y19 =>
   bif (!y19) then some (.ret false)
   else QaA N y5 n (wI (v6+1)))
  else some (.nxt ())
def Qcg (N:Nat) (a0:TWorld) (a1:List Int) (a2:List Int) (a3:TConf):Option Bool:=bnd (Qfv N a3) fun y1=>bnd (Qc0 N a3) fun y2=>bif (y1.2 != y2.2) then some false else bnd (QcY N y1.1) fun y3=>bnd (QeW N y3 y2.1) fun y4=>bif (!y4) then some false else bnd (QeL N a0 a1 a2) fun y5=>bnd (QaA N y5 N 0) fun e=>exK e (fun r=>some r) fun y20=>bnd (QfH N ) fun y21=>some y21
end Go.Sx
