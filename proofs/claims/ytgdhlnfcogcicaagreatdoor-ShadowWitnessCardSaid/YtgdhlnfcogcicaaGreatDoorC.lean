import Derived.KernelRfl
import Derived.Test.YtgdhlnfcogcicaaGreatDoorA
set_option linter.all false
namespace Go.Sx
structure TConf where
 PageWords:Int
 Pages:Int
structure TPage where
 Kind:Int
 Space:Int
 Used:Int
 Pins:Int
structure THeap where
 Conf:TConf
 Words:List Int
 Pages:List TPage
 Space:Int
 Bump:Int
structure TSlot where
 Stamp:Int
 Ref:Int
 Live:Bool
structure TScope where
 From:Int
 Cap:Int
 Base:Bool
structure TLocals where
 Slots:List TSlot
 Scopes:List TScope
 Issued:List Int
structure TEntry where
 Gen:Int
 Ref:Int
 Live:Bool
structure TTable where
 Entries:List TEntry
structure TPin where
 Ref:Int
 Count:Int
structure TEnv where
 Heap:THeap
 Locals:TLocals
 Globals:TTable
 Weaks:TTable
 Pins:List TPin
 Roots:List Int
structure TFact where
 Failed:Bool
 Collected:Bool
 Base:Int
structure THeader where
 Kind:Int
 Length:Int
 Map:Int
structure TThing where
 Header:THeader
 Fields:List Int
structure TMark where
 Id:Int
 Count:Int
 Base:Int
structure TWorld where
 Conf:TConf
 Things:List TThing
 Locals:TLocals
 Globals:TTable
 Weaks:TTable
 Marks:List TMark
 Roots:List Int
structure TPair where
 Env:TEnv
 World:TWorld
 Words:List Int
structure TTape where
 L:List Int
 at_:Int
structure THandle where
 Tag:Int
 Index:Int
 Stamp:Int
structure Tframes where
 Locals:TLocals
structure TField where
 Width:Int
 Value:Int
structure Tasked where
 World:TWorld
 a:Int
 b:Int
 c:Int
 failed:Bool
def ref04_ValidConf (N:Nat) (a0:TConf):Option Bool:=bif (decide (a0.PageWords>=16)) then (bif (decide (a0.PageWords<=64)) then (bif ((a0.PageWords.tmod 4)==0) then (bif (decide (a0.Pages>=8)) then some (decide (a0.Pages<=64)) else some false) else some false) else some false) else some false
def ref21_New (N:Nat) (a0:TConf):Option (TWorld×Int):=bnd (ref04_ValidConf N a0) fun y1=>bif (!y1) then some ((TWorld.mk (TConf.mk 0 0) [] (TLocals.mk [] [] []) (TTable.mk []) (TTable.mk []) [] []),1) else some ((TWorld.mk a0 [] (TLocals.mk [] [] []) (TTable.mk []) (TTable.mk []) [] []),0)
def made_Tape_Next (N:Nat) (a0:TTape) (a1:Int):Option (Int×TTape):=bif (decide (a1<1)) then some (0,a0) else jn (fun (x2:Int)=>grd (a1≠0) <| grd (a1≠0) <| some (((wI ((x2.tmod a1)+a1)).tmod a1),(TTape.mk a0.L (wI (a0.at_+1))))) fun j1=>bif (decide (a0.at_<((a0.L.length:Nat):Int))) then (bnd (getI a0.L a0.at_) fun p1=>j1 p1) else j1 (wI ((wI (a0.at_*7))+3))
def made_Tape_Conf (N:Nat) (a0:TTape):Option (TConf×TTape):=bnd (made_Tape_Next N a0 4) fun y1=>bnd (getI [16,16,20,32] y1.1) fun p2=>bnd (made_Tape_Next N y1.2 5) fun y3=>bnd (getI [8,12,16,20,24] y3.1) fun p4=>some ((TConf.mk p2 p4),y3.2)
def ref04_New (N:Nat) (a0:TConf):Option (THeap×Int):=bnd (ref04_ValidConf N a0) fun y1=>bif (!y1) then some ((THeap.mk (TConf.mk 0 0) [] [] 0 0),1) else grd (0<=(wI (a0.Pages*a0.PageWords))∧(wI (a0.Pages*a0.PageWords)).toNat*8<=140737488355328) <| grd (0<=a0.Pages∧a0.Pages.toNat*32<=140737488355328) <| some ((THeap.mk a0 (List.replicate (wI (a0.Pages*a0.PageWords)).toNat 0) (List.replicate a0.Pages.toNat (TPage.mk 0 0 0 0)) 0 (-1)),0)
def ref18_New (N:Nat) (a0:TConf):Option (TEnv×Int):=bnd (ref04_New N a0) fun y1=>some ((TEnv.mk y1.1 (TLocals.mk [] [] []) (TTable.mk []) (TTable.mk []) [] []),y1.2)
def made_Tape_Start (N:Nat) (a0:TTape):Option (TPair×TTape):=bnd (made_Tape_Conf N a0) fun y1=>bnd (ref18_New N y1.1) fun y2=>bnd (ref21_New N y1.1) fun y3=>bnd (made_Tape_Next N y1.2 40) fun y4=>some ((TPair.mk (TEnv.mk y2.1.Heap (TLocals.mk y2.1.Locals.Slots [(TScope.mk 0 (wI (4+y4.1)) true)] y2.1.Locals.Issued) y2.1.Globals y2.1.Weaks y2.1.Pins y2.1.Roots) (TWorld.mk y3.1.Conf y3.1.Things (TLocals.mk y3.1.Locals.Slots [(TScope.mk 0 (wI (4+y4.1)) true)] y3.1.Locals.Issued) y3.1.Globals y3.1.Weaks y3.1.Marks y3.1.Roots) [0]),y4.2)
def made_Tape_Done (N:Nat) (a0:TTape):Option Bool:=some (decide (a0.at_>=((a0.L.length:Nat):Int)))
def made_Play_l1 (N:Nat) (a1:Int) (y1:TPair×TTape):Nat->Option Unit
 | 0=>none
 | n+1 =>
  bif (decide (0<a1)) then (bnd (made_Tape_Done N y1.2) fun y2 =>
   bif (!y2) then none
   else some ())
  else some ()
def made_Play (N:Nat) (a0:List Int) (a1:Int):Option TPair:=bnd (made_Tape_Start N (TTape.mk a0 0)) fun y1=>bnd (made_Play_l1 N a1 y1 N ) fun y3=>some y1.1
def page_ValidConf (N:Nat) (a0:TConf):Option Bool:=bif (decide (a0.PageWords>=16)) then (bif (decide (a0.PageWords<=64)) then (bif ((a0.PageWords.tmod 4)==0) then (bif (decide (a0.Pages>=8)) then some (decide (a0.Pages<=64)) else some false) else some false) else some false) else some false
def slices_Grow_uint64_uint64_nil (N:Nat) (a1:Int):Option (List Int):=bif (decide (a1<0)) then none else bif (decide ((wI (a1-(wI 0)))>0)) then (grd (0=0∧0=0) <| grd (0<=(wI (a1-(wI 0)))∧(wI (a1-(wI 0))).toNat*8<=140737488355328) <| grd ((wI (a1-(wI 0))).toNat*8<=140737488355328) <| grd (0<=0∧0<=0∧0<=(((wI (a1-(wI 0))).toNat:Nat):Int)) <| some ((List.replicate (wI (a1-(wI 0))).toNat 0).take 0)) else some []
def slices_Concat_uint64_uint64_l1 (N:Nat) (a0:List (List Int)):Nat->Int->Int->Option Int
 | 0,_,_=>none
 | n+1,v1,v2 =>
  bif (decide (v2<((a0.length:Nat):Int))) then (bnd (getI a0 v2) fun p3 =>
   bif (decide ((wI (v1+((p3.length:Nat):Int)))<0)) then none
   else slices_Concat_uint64_uint64_l1 N a0 n (wI (v1+((p3.length:Nat):Int))) (wI (v2+1)))
  else some v1
def slices_Concat_uint64_uint64_l2 (N:Nat) (a0:List (List Int)):Nat->Int->(List Int)->Option (List Int)
 | 0,_,_=>none
 | n+1,v6,v7 =>
  bif (decide (v6<((a0.length:Nat):Int))) then (bnd (getI a0 v6) fun p8 =>
   grd ((v7.length+p8.length)*8<=140737488355328) <|
   slices_Concat_uint64_uint64_l2 N a0 n (wI (v6+1)) (v7++p8))
  else some v7
def slices_Concat_uint64_uint64 (N:Nat) (a0:List (List Int)):Option (List Int):=bnd (slices_Concat_uint64_uint64_l1 N a0 N 0 0) fun y4=>bnd (slices_Grow_uint64_uint64_nil N y4) fun y5=>bnd (slices_Concat_uint64_uint64_l2 N a0 N 0 y5) fun y9=>some y9
def scope_frames_nested_l1 (N:Nat) (a0:Tframes):Nat->Int->Int->Option (Ex Bool Unit)
 | 0,_,_=>none
 | n+1,v1,v2 =>
  bif (decide (v2<((a0.Locals.Scopes.length:Nat):Int))) then (bnd (getI a0.Locals.Scopes v2) fun p3 =>
   bif (v2==0) then (bif (p3.From != 0) then some (.ret false)
    else bif (!p3.Base) then some (.ret false)
    else bif (decide (p3.From<v1)) then some (.ret false)
    else bif (decide (p3.From>((a0.Locals.Slots.length:Nat):Int))) then some (.ret false)
    else bif (decide (p3.Cap<0)) then some (.ret false)
    else bif (decide (p3.Cap>64)) then some (.ret false)
    else scope_frames_nested_l1 N a0 n p3.From (wI (v2+1)))
   else bif (decide (p3.From<v1)) then some (.ret false)
   else bif (decide (p3.From>((a0.Locals.Slots.length:Nat):Int))) then some (.ret false)
   else bif (decide (p3.Cap<0)) then some (.ret false)
   else bif (decide (p3.Cap>64)) then some (.ret false)
   else scope_frames_nested_l1 N a0 n p3.From (wI (v2+1)))
  else some (.nxt ())
def scope_frames_nested (N:Nat) (a0:Tframes):Option Bool:=jn (fun (_:Unit)=>bnd (scope_frames_nested_l1 N a0 N 0 0) fun e=>exK e (fun r=>some r) fun y4=>some true) fun j1=>bif (decide (((a0.Locals.Scopes.length:Nat):Int)>64)) then some false else bif (((a0.Locals.Scopes.length:Nat):Int)==0) then (bif (decide (((a0.Locals.Slots.length:Nat):Int)>0)) then some false else j1 ()) else j1 ()
def scope_frames_stamped_l1 (N:Nat) (a0:Tframes):Nat->Int->Int->Option (Ex Bool Unit)
 | 0,_,_=>none
 | n+1,v1,v2 =>
  bif (decide (v2<((a0.Locals.Slots.length:Nat):Int))) then (bnd (getI a0.Locals.Slots v2) fun p3 =>
   bif (decide (p3.Stamp<=v1)) then some (.ret false)
   else bif (decide (p3.Stamp>((a0.Locals.Issued.length:Nat):Int))) then some (.ret false)
   else bnd (getI a0.Locals.Issued (wI (p3.Stamp-1))) fun p4 =>
   bif (p4 != v2) then some (.ret false)
   else bif (p3.Live==(p3.Ref==0)) then some (.ret false)
   else scope_frames_stamped_l1 N a0 n p3.Stamp (wI (v2+1)))
  else some (.nxt ())
def scope_frames_stamped (N:Nat) (a0:Tframes):Option Bool:=bnd (scope_frames_stamped_l1 N a0 N 0 0) fun e=>exK e (fun r=>some r) fun y5=>some true
def scope_frames_slots (N:Nat) (a0:Tframes) (a1:Int):Option (List TSlot):=bif (decide ((wI (a1+1))<((a0.Locals.Scopes.length:Nat):Int))) then (bnd (getI a0.Locals.Scopes a1) fun p1=>bnd (getI a0.Locals.Scopes (wI (a1+1))) fun p2=>grd (0<=p1.From∧p1.From<=p2.From∧p2.From<=((a0.Locals.Slots.length:Nat):Int)) <| some ((a0.Locals.Slots.drop p1.From.toNat).take (p2.From.toNat-p1.From.toNat))) else bnd (getI a0.Locals.Scopes a1) fun p3=>grd (0<=p3.From∧p3.From<=((a0.Locals.Slots.length:Nat):Int)∧((a0.Locals.Slots.length:Nat):Int)<=((a0.Locals.Slots.length:Nat):Int)) <| some (a0.Locals.Slots.drop p3.From.toNat)
def scope_frames_live_l1 (N:Nat) (y1:List TSlot):Nat->Int->Int->Option Int
 | 0,_,_=>none
 | n+1,v2,v3 =>
  bif (decide (v3<((y1.length:Nat):Int))) then (bnd (getI y1 v3) fun p4 =>
   bif p4.Live then scope_frames_live_l1 N y1 n (wI (v2+1)) (wI (v3+1))
   else scope_frames_live_l1 N y1 n v2 (wI (v3+1)))
  else some v2
def scope_frames_live (N:Nat) (a0:Tframes) (a1:Int):Option Int:=bnd (scope_frames_slots N a0 a1) fun y1=>bnd (scope_frames_live_l1 N y1 N 0 0) fun y5=>some y5
def scope_Valid_1 (N:Nat) (a0:Int):Option Bool:=bif (decide (a0<0)) then some true else some (decide (a0>=4096))
def slices_IndexFunc_int_int_Valid1_l1 (N:Nat) (a0:List Int):Nat->Int->Option (Ex Int Unit)
 | 0,_=>none
 | n+1,v1 =>
  bif (decide (v1<((a0.length:Nat):Int))) then (bnd (getI a0 v1) fun p2 =>
   bnd (scope_Valid_1 N p2) fun y3 =>
   bif y3 then some (.ret v1)
   else slices_IndexFunc_int_int_Valid1_l1 N a0 n (wI (v1+1)))
  else some (.nxt ())
def slices_IndexFunc_int_int_Valid1 (N:Nat) (a0:List Int):Option Int:=bnd (slices_IndexFunc_int_int_Valid1_l1 N a0 N 0) fun e=>exK e (fun r=>some r) fun y4=>some (-1)
def slices_ContainsFunc_int_int_Valid1 (N:Nat) (a0:List Int):Option Bool:=bnd (slices_IndexFunc_int_int_Valid1 N a0) fun y1=>some (decide (y1>=0))
def scope_Valid_l1 (N:Nat) (a0:TLocals):Nat->Int->Option (Ex Bool Unit)
 | 0,_=>none
 | n+1,v4 =>
  bif (decide (v4<((a0.Scopes.length:Nat):Int))) then (bnd (getI a0.Scopes v4) fun p5 =>
   bnd (scope_frames_live N (Tframes.mk a0) v4) fun y6 =>
   bif (decide (y6>p5.Cap)) then some (.ret false)
   else scope_Valid_l1 N a0 n (wI (v4+1)))
  else some (.nxt ())
def scope_Valid (N:Nat) (a0:TLocals):Option Bool:=bif (decide (((a0.Issued.length:Nat):Int)>4096)) then some false else bnd (slices_ContainsFunc_int_int_Valid1 N a0.Issued) fun y1=>bif y1 then some false else bnd (scope_frames_nested N (Tframes.mk a0)) fun y2=>bif (!y2) then some false else bnd (scope_frames_stamped N (Tframes.mk a0)) fun y3=>bif (!y3) then some false else bnd (scope_Valid_l1 N a0 N 0) fun e=>exK e (fun r=>some r) fun y7=>some true
def scope_Refs_l1 (N:Nat) (a0:TLocals):Nat->Int->(List Int)->Option (List Int)
 | 0,_,_=>none
 | n+1,v2,v3 =>
  bif (decide (v2<((a0.Slots.length:Nat):Int))) then (bnd (getI a0.Slots v2) fun p4 =>
   bif p4.Live then (grd ((v3.length+1)*8<=140737488355328) <|
    scope_Refs_l1 N a0 n (wI (v2+1)) (v3++[p4.Ref]))
   else scope_Refs_l1 N a0 n (wI (v2+1)) v3)
  else some v3
def scope_Refs (N:Nat) (a0:TLocals):Option (List Int):=bnd (scope_Valid N a0) fun y1=>bif (!y1) then some [] else bnd (scope_Refs_l1 N a0 N 0 []) fun y5=>some y5
def slots_Valid_1 (N:Nat) (a0:TEntry):Option Bool:=bif (decide (a0.Gen<1)) then some true else bif (decide (a0.Gen>4294967295)) then some true else bif (!a0.Live) then some (a0.Ref != 0) else some false
def slices_IndexFunc_api_Entry_api_Entry_Valid1_l1 (N:Nat) (a0:List TEntry):Nat->Int->Option (Ex Int Unit)
 | 0,_=>none
 | n+1,v1 =>
  bif (decide (v1<((a0.length:Nat):Int))) then (bnd (getI a0 v1) fun p2 =>
   bnd (slots_Valid_1 N p2) fun y3 =>
   bif y3 then some (.ret v1)
   else slices_IndexFunc_api_Entry_api_Entry_Valid1_l1 N a0 n (wI (v1+1)))
  else some (.nxt ())
def slices_IndexFunc_api_Entry_api_Entry_Valid1 (N:Nat) (a0:List TEntry):Option Int:=bnd (slices_IndexFunc_api_Entry_api_Entry_Valid1_l1 N a0 N 0) fun e=>exK e (fun r=>some r) fun y4=>some (-1)
def slices_ContainsFunc_api_Entry_api_Entry_Valid1 (N:Nat) (a0:List TEntry):Option Bool:=bnd (slices_IndexFunc_api_Entry_api_Entry_Valid1 N a0) fun y1=>some (decide (y1>=0))
def slots_Valid (N:Nat) (a0:TTable):Option Bool:=bif (decide (((a0.Entries.length:Nat):Int)<=64)) then (bnd (slices_ContainsFunc_api_Entry_api_Entry_Valid1 N a0.Entries) fun y1=>some (!y1)) else some false
def slots_Refs_l1 (N:Nat) (a0:TTable):Nat->Int->(List Int)->Option (List Int)
 | 0,_,_=>none
 | n+1,v2,v3 =>
  bif (decide (v2<((a0.Entries.length:Nat):Int))) then (bnd (getI a0.Entries v2) fun p4 =>
   bif p4.Live then (grd ((v3.length+1)*8<=140737488355328) <|
    slots_Refs_l1 N a0 n (wI (v2+1)) (v3++[p4.Ref]))
   else slots_Refs_l1 N a0 n (wI (v2+1)) v3)
  else some v3
def slots_Refs (N:Nat) (a0:TTable):Option (List Int):=bnd (slots_Valid N a0) fun y1=>bif (!y1) then some [] else bnd (slots_Refs_l1 N a0 N 0 []) fun y5=>some y5
def slices_Index_uint64_uint64_l1 (N:Nat) (a0:List Int) (a1:Int):Nat->Int->Option (Ex Int Unit)
 | 0,_=>none
 | n+1,v1 =>
  bif (decide (v1<((a0.length:Nat):Int))) then (bnd (getI a0 v1) fun p2 =>
   bif (a1==p2) then some (.ret v1)
   else slices_Index_uint64_uint64_l1 N a0 a1 n (wI (v1+1)))
  else some (.nxt ())
def slices_Index_uint64_uint64 (N:Nat) (a0:List Int) (a1:Int):Option Int:=bnd (slices_Index_uint64_uint64_l1 N a0 a1 N 0) fun e=>exK e (fun r=>some r) fun y3=>some (-1)
def slices_Contains_uint64_uint64 (N:Nat) (a0:List Int) (a1:Int):Option Bool:=bnd (slices_Index_uint64_uint64 N a0 a1) fun y1=>some (decide (y1>=0))
def bits_Ones_l1 (N:Nat) (a0:Int):Nat->Int->Int->Option Int
 | 0,_,_=>none
 | n+1,v1,v2 =>
  bif (decide (v2<(if 64<(if a0<0 then 0 else a0) then 64 else (if a0<0 then 0 else a0)))) then bits_Ones_l1 N a0 n (bOr .u64 (sShl .u64 v1 1) 1) (wI (v2+1))
  else some v1
def bits_Ones (N:Nat) (a0:Int):Option Int:=bnd (bits_Ones_l1 N a0 N 0 0) fun y3=>some y3
def header_Valid (N:Nat) (a0:THeader):Option Bool:=bif (decide (a0.Kind<0)) then some false else bif (decide (a0.Kind>3)) then some false else bif (decide (a0.Length<0)) then some false else bif (decide (a0.Length>255)) then some false else bif (a0.Kind==1) then (jn (fun (x2:Bool)=>some x2) fun j1=>bif (decide (a0.Length<=32)) then (bnd (bits_Ones N a0.Length) fun y1=>j1 (decide ((wU a0.Map)<=y1))) else j1 false) else some ((a0.Kind==a0.Kind)&&((a0.Length==a0.Length)&&(a0.Map==0)))
def header_Size (N:Nat) (a0:THeader):Option Int:=bnd (header_Valid N a0) fun y1=>bif (!y1) then some 0 else some (wI (a0.Length+1))
def header_Pointer (N:Nat) (a0:THeader) (a1:Int):Option Bool:=bnd (header_Valid N a0) fun y1=>bif (!y1) then some false else bif (decide (a1<0)) then some false else bif (decide (a1>=a0.Length)) then some false else bif (a0.Kind==2) then some true else bif (a0.Kind==1) then (grd (0<=a1) <| some ((bAnd .u32 (sShr .u32 a0.Map a1) 1)==1)) else some false
def header_Pointers_l1 (N:Nat) (a0:THeader) (y1:Int):Nat->Int->(List Int)->Option (List Int)
 | 0,_,_=>none
 | n+1,v2,v3 =>
  bif (decide (v2<y1)) then (bnd (header_Pointer N a0 v2) fun y4 =>
   bif y4 then (grd ((v3.length+1)*8<=140737488355328) <|
    header_Pointers_l1 N a0 y1 n (wI (v2+1)) (v3++[v2]))
   else header_Pointers_l1 N a0 y1 n (wI (v2+1)) v3)
  else some v3
def header_Pointers (N:Nat) (a0:THeader):Option (List Int):=bnd (header_Size N a0) fun y1=>bnd (header_Pointers_l1 N a0 y1 N 0 []) fun y5=>some y5
def rules_World_known_1_2 (N:Nat) (a0:Int) (a1:TWorld):Option Bool:=some (decide (a0>(wU ((a1.Things.length:Nat):Int))))
def slices_IndexFunc_uint64_uint64_known1_l1 (N:Nat) (a0:List Int) (c0:TWorld):Nat->Int->Option (Ex Int Unit)
 | 0,_=>none
 | n+1,v1 =>
  bif (decide (v1<((a0.length:Nat):Int))) then (bnd (getI a0 v1) fun p2 =>
   bnd (rules_World_known_1_2 N p2 c0) fun y3 =>
   bif y3 then some (.ret v1)
   else slices_IndexFunc_uint64_uint64_known1_l1 N a0 c0 n (wI (v1+1)))
  else some (.nxt ())
def slices_IndexFunc_uint64_uint64_known1 (N:Nat) (a0:List Int) (c0:TWorld):Option Int:=bnd (slices_IndexFunc_uint64_uint64_known1_l1 N a0 c0 N 0) fun e=>exK e (fun r=>some r) fun y4=>some (-1)
def slices_ContainsFunc_uint64_uint64_known1 (N:Nat) (a0:List Int) (c0:TWorld):Option Bool:=bnd (slices_IndexFunc_uint64_uint64_known1 N a0 c0) fun y1=>some (decide (y1>=0))
def rules_World_known (N:Nat) (a0:TWorld) (a1:List Int):Option Bool:=bnd (slices_ContainsFunc_uint64_uint64_known1 N a1 a0) fun y1=>some (!y1)
def rules_World_formed_1_2 (N:Nat) (a0:Int) (a1:TWorld) (a2:TThing):Option Bool:=bnd (getI a2.Fields a0) fun p1=>bnd (rules_World_known N a1 [p1]) fun y2=>some (!y2)
def slices_IndexFunc_int_int_formed1_l1 (N:Nat) (a0:List Int) (c0:TWorld) (c1:TThing):Nat->Int->Option (Ex Int Unit)
 | 0,_=>none
 | n+1,v1 =>
  bif (decide (v1<((a0.length:Nat):Int))) then (bnd (getI a0 v1) fun p2 =>
   bnd (rules_World_formed_1_2 N p2 c0 c1) fun y3 =>
   bif y3 then some (.ret v1)
   else slices_IndexFunc_int_int_formed1_l1 N a0 c0 c1 n (wI (v1+1)))
  else some (.nxt ())
def slices_IndexFunc_int_int_formed1 (N:Nat) (a0:List Int) (c0:TWorld) (c1:TThing):Option Int:=bnd (slices_IndexFunc_int_int_formed1_l1 N a0 c0 c1 N 0) fun e=>exK e (fun r=>some r) fun y4=>some (-1)
def slices_ContainsFunc_int_int_formed1 (N:Nat) (a0:List Int) (c0:TWorld) (c1:TThing):Option Bool:=bnd (slices_IndexFunc_int_int_formed1 N a0 c0 c1) fun y1=>some (decide (y1>=0))
def rules_World_formed (N:Nat) (a0:TWorld) (a1:TThing):Option Bool:=bnd (header_Valid N a1.Header) fun y1=>bif (!y1) then some false else bif (a1.Header.Kind==0) then some false else bif (((a1.Fields.length:Nat):Int) != a1.Header.Length) then some false else bnd (header_Pointers N a1.Header) fun y2=>bnd (slices_ContainsFunc_int_int_formed1 N y2 a0 a1) fun y3=>some (!y3)
def rules_World_mark_1_2 (N:Nat) (a0:TMark) (a1:Int):Option Bool:=some (a0.Id==a1)
def slices_IndexFunc_rules_Mark_rules_Mark_mark1_l1 (N:Nat) (a0:List TMark) (c0:Int):Nat->Int->Option (Ex Int Unit)
 | 0,_=>none
 | n+1,v1 =>
  bif (decide (v1<((a0.length:Nat):Int))) then (bnd (getI a0 v1) fun p2 =>
   bnd (rules_World_mark_1_2 N p2 c0) fun y3 =>
   bif y3 then some (.ret v1)
   else slices_IndexFunc_rules_Mark_rules_Mark_mark1_l1 N a0 c0 n (wI (v1+1)))
  else some (.nxt ())
def slices_IndexFunc_rules_Mark_rules_Mark_mark1 (N:Nat) (a0:List TMark) (c0:Int):Option Int:=bnd (slices_IndexFunc_rules_Mark_rules_Mark_mark1_l1 N a0 c0 N 0) fun e=>exK e (fun r=>some r) fun y4=>some (-1)
def rules_World_mark (N:Nat) (a0:TWorld) (a1:Int):Option Int:=bnd (slices_IndexFunc_rules_Mark_rules_Mark_mark1 N a0.Marks a1) fun y1=>some y1
def rules_World_marked_l1 (N:Nat) (a0:TWorld):Nat->Int->Option (Ex Bool Unit)
 | 0,_=>none
 | n+1,v1 =>
  bif (decide (v1<((a0.Marks.length:Nat):Int))) then (bnd (getI a0.Marks v1) fun p2 =>
   bif (p2.Id==0) then some (.ret false)
   else bnd (rules_World_known N a0 [p2.Id]) fun y3 =>
   bif (!y3) then some (.ret false)
   else bif (decide (p2.Count<1)) then some (.ret false)
   else bif (decide (p2.Count>1000)) then some (.ret false)
   else bnd (rules_World_mark N a0 p2.Id) fun y4 =>
   bif (y4 != v1) then some (.ret false)
   else rules_World_marked_l1 N a0 n (wI (v1+1)))
  else some (.nxt ())
def rules_World_marked (N:Nat) (a0:TWorld):Option Bool:=bnd (rules_World_marked_l1 N a0 N 0) fun e=>exK e (fun r=>some r) fun y5=>some (decide (((a0.Marks.length:Nat):Int)<=64))
def rules_Valid_l1 (N:Nat) (a0:TWorld):Nat->Int->Option (Ex Bool Unit)
 | 0,_=>none
 | n+1,v7 =>
  bif (decide (v7<((a0.Things.length:Nat):Int))) then (bnd (getI a0.Things v7) fun p8 =>
   bnd (rules_World_formed N a0 p8) fun y9 =>
   bif (!y9) then some (.ret false)
   else rules_Valid_l1 N a0 n (wI (v7+1)))
  else some (.nxt ())
def rules_Valid (N:Nat) (a0:TWorld):Option Bool:=bnd (page_ValidConf N a0.Conf) fun y1=>bif (!y1) then some false else bnd (scope_Valid N a0.Locals) fun y2=>bif (!y2) then some false else bnd (slots_Valid N a0.Globals) fun y3=>bif (!y3) then some false else bnd (slots_Valid N a0.Weaks) fun y4=>bif (!y4) then some false else bnd (slots_Refs N a0.Globals) fun y5=>bnd (slices_Contains_uint64_uint64 N y5 0) fun y6=>bif y6 then some false else bnd (rules_Valid_l1 N a0 N 0) fun e=>exK e (fun r=>some r) fun y10=>bnd (scope_Refs N a0.Locals) fun y11=>bnd (slots_Refs N a0.Globals) fun y12=>bnd (slots_Refs N a0.Weaks) fun y13=>bnd (slices_Concat_uint64_uint64 N [a0.Roots,y11,y12,y13]) fun y14=>bnd (rules_World_known N a0 y14) fun y15=>bif y15 then (bnd (rules_World_marked N a0) fun y16=>some y16) else some false
def slices_Clone_api_Slot_api_Slot (N:Nat) (a0:List TSlot):Option (List TSlot):=some a0
def slices_Clone_api_Scope_api_Scope (N:Nat) (a0:List TScope):Option (List TScope):=some a0
def slices_Clone_int_int (N:Nat) (a0:List Int):Option (List Int):=some a0
def scope_clone (N:Nat) (a0:TLocals):Option TLocals:=bnd (slices_Clone_api_Slot_api_Slot N a0.Slots) fun y1=>bnd (slices_Clone_api_Scope_api_Scope N a0.Scopes) fun y2=>bnd (slices_Clone_int_int N a0.Issued) fun y3=>some (TLocals.mk y1 y2 y3)
def scope_New (N:Nat) (a0:TLocals) (a1:Int):Option (TLocals×Int×Int×Int):=bnd (scope_Valid N a0) fun y1=>bif (!y1) then some ((TLocals.mk [] [] []),0,0,1) else bif (a1==0) then some ((TLocals.mk [] [] []),0,0,1) else bif (decide ((wI (((a0.Scopes.length:Nat):Int)-1))<0)) then some ((TLocals.mk [] [] []),0,0,9) else bnd (scope_frames_live N (Tframes.mk a0) (wI (((a0.Scopes.length:Nat):Int)-1))) fun y2=>bnd (getI a0.Scopes (wI (((a0.Scopes.length:Nat):Int)-1))) fun p3=>bif (decide (y2>=p3.Cap)) then some ((TLocals.mk [] [] []),0,0,10) else bif (decide (((a0.Issued.length:Nat):Int)>=4096)) then some ((TLocals.mk [] [] []),0,0,18) else bnd (scope_clone N a0) fun y4=>grd (y4.Slots.length<=140737488355328) <| grd (y4.Issued.length<=140737488355328) <| grd ((y4.Slots.length+1)*24<=140737488355328) <| grd ((y4.Issued.length+1)*8<=140737488355328) <| some ((TLocals.mk (y4.Slots++[(TSlot.mk (wI (((y4.Issued.length:Nat):Int)+1)) a1 true)]) y4.Scopes (y4.Issued++[((y4.Slots.length:Nat):Int)])),((y4.Slots.length:Nat):Int),(wI (((y4.Issued.length:Nat):Int)+1)),0)
def rules_local (N:Nat) (a0:TLocals) (a1:Int):Option Int:=bif (a1==0) then some 0 else bnd (scope_New N a0 a1) fun y1=>some y1.2.2.2
def page_SmallWords (N:Nat) (a0:TConf):Option Int:=bnd (page_ValidConf N a0) fun y1=>bif (!y1) then some 0 else some (wI (a0.PageWords.tdiv 4))
def page_Need (N:Nat) (a0:TConf) (a1:Int):Option Int:=bnd (page_ValidConf N a0) fun y1=>bif (!y1) then some (-1) else bif (decide (a1<1)) then some (-1) else bif (decide (a1>(wI (4*a0.PageWords)))) then some (-1) else bnd (page_SmallWords N a0) fun y2=>bif (decide (a1<=y2)) then some 0 else grd (a0.PageWords≠0) <| some (wI ((wI ((wI (a1+a0.PageWords))-1)).tdiv a0.PageWords))
def alloc_Asks (N:Nat) (a0:TConf) (a1:THeader):Option Bool:=bnd (header_Valid N a1) fun y1=>bif y1 then (bif (a1.Kind != 0) then (bnd (header_Size N a1) fun y2=>bnd (page_Need N a0 y2) fun y3=>some (decide (y3>=0))) else some false) else some false
def rules_asked_fresh (N:Nat) (a0:Tasked) (a1:Int):Option Int:=jn (fun (x2:Bool) (x3:Int)=>bnd (rules_local N a0.World.Locals 1) fun y4=>bif (decide (((a0.World.Marks.length:Nat):Int)>0)) then some 15 else bif (!x2) then some 1 else bnd (alloc_Asks N a0.World.Conf (THeader.mk a1 (wI (if 2147483647<a0.a then 2147483647 else a0.a)) x3)) fun y5=>bif (!y5) then some 1 else bif (y4 != 0) then some y4 else bif a0.failed then some 3 else some 0) fun j2=>bif (a1==1) then (jn (fun (x1:Bool)=>j2 x1 (wW (if 4294967295<a0.b then 4294967295 else a0.b))) fun j1=>bif (decide (a0.a<=2147483647)) then j1 (decide (a0.b<=4294967295)) else j1 false) else j2 (decide (a0.a<=2147483647)) 0
def rules_table_5 (N:Nat) (a0:Tasked):Option Int:=bnd (rules_asked_fresh N a0 3) fun y1=>some y1
def rules_Verdict (N:Nat) (a0:TWorld) (a1:Int) (a2:Int) (a3:Int) (a4:Int) (a5:Bool):Option Int:=bnd (rules_Valid N a0) fun y1=>bif (!y1) then some 19 else bif (a1==3) then rules_table_5 N ⟨a0,a2,a3,a4,a5⟩ else none
def bits_Unpack_l1 (N:Nat) (a0:Int) (a1:List Int):Nat->Int->Int->Option (Ex (List Int×Int) Unit)
 | 0,_,_=>none
 | n+1,v1,v2 =>
  bif (decide (v2<((a1.length:Nat):Int))) then (bnd (getI a1 v2) fun p3 =>
   bif (decide (p3<1)) then some (.ret ([],1))
   else bif (decide (p3>v1)) then some (.ret ([],1))
   else bits_Unpack_l1 N a0 a1 n (wI (v1-p3)) (wI (v2+1)))
  else some (.nxt ())
def bits_Unpack_l2 (N:Nat) (a1:List Int):Nat->Int->Int->(List Int)->Option (Int×List Int)
 | 0,_,_,_=>none
 | n+1,v5,v6,v7 =>
  bif (decide (v6<((a1.length:Nat):Int))) then (bnd (getI a1 v6) fun p8 =>
   bnd (bits_Ones N p8) fun y9 =>
   grd ((v7.length+1)*8<=140737488355328) <|
   grd (0<=p8) <|
   bits_Unpack_l2 N a1 n (sShr .u64 v5 p8) (wI (v6+1)) (v7++[(bAnd .u64 v5 y9)]))
  else some (v5,v7)
def bits_Unpack (N:Nat) (a0:Int) (a1:List Int):Option (List Int×Int):=bnd (bits_Unpack_l1 N a0 a1 N 64 0) fun e=>exK e (fun r=>some r) fun y4=>bnd (bits_Unpack_l2 N a1 N a0 0 []) fun y10=>bif (y10.1 != 0) then some ([],2) else some (y10.2,0)
def handle_Valid (N:Nat) (a0:THandle):Option Bool:=bif (decide (a0.Tag<1)) then some false else bif (decide (a0.Tag>3)) then some false else bif (decide (a0.Index<0)) then some false else bif (decide (a0.Stamp<1)) then some false else bnd (bits_Ones N 16) fun y1=>bif (decide ((wU a0.Index)<=y1)) then (bnd (bits_Ones N 32) fun y2=>some (decide ((wU a0.Stamp)<=y2))) else some false
def handle_Decode (N:Nat) (a0:Int):Option (THandle×Int):=bif (a0==0) then some ((THandle.mk 0 0 0),5) else bnd (bits_Unpack N a0 [2,16,32]) fun y1=>bif (y1.2 != 0) then some ((THandle.mk 0 0 0),6) else bnd (getI y1.1 0) fun p2=>bnd (getI y1.1 1) fun p3=>bnd (getI y1.1 2) fun p4=>bnd (handle_Valid N (THandle.mk (wI p2) (wI p3) (wI p4))) fun y5=>bif (!y5) then some ((THandle.mk 0 0 0),6) else some ((THandle.mk (wI p2) (wI p3) (wI p4)),0)
def scope_Get (N:Nat) (a0:TLocals) (a1:Int) (a2:Int):Option (Int×Int):=bnd (scope_Valid N a0) fun y1=>bif (!y1) then some (0,1) else bif (decide (a2<1)) then some (0,6) else bif (decide (a2>((a0.Issued.length:Nat):Int))) then some (0,6) else bnd (getI a0.Issued (wI (a2-1))) fun p2=>bif (p2 != a1) then some (0,6) else bif (decide (a1>=((a0.Slots.length:Nat):Int))) then some (0,7) else bnd (getI a0.Slots a1) fun p3=>bif (p3.Stamp != a2) then some (0,7) else bnd (getI a0.Slots a1) fun p4=>bif (!p4.Live) then some (0,8) else bnd (getI a0.Slots a1) fun p5=>some (p5.Ref,0)
def slots_check (N:Nat) (a0:TTable) (a1:Int) (a2:Int):Option Int:=bnd (slots_Valid N a0) fun y1=>bif (!y1) then some 1 else bif (decide (a1<0)) then some 6 else bif (decide (a1>=((a0.Entries.length:Nat):Int))) then some 6 else bif (decide (a2<1)) then some 6 else bnd (getI a0.Entries a1) fun p2=>bif (decide (a2>p2.Gen)) then some 6 else bnd (getI a0.Entries a1) fun p3=>bif (decide (a2<p3.Gen)) then some 8 else bnd (getI a0.Entries a1) fun p4=>bif (!p4.Live) then some 8 else some 0
def slots_Get (N:Nat) (a0:TTable) (a1:Int) (a2:Int):Option (Int×Int):=bnd (slots_check N a0 a1 a2) fun y1=>bif (y1 != 0) then some (0,y1) else bnd (getI a0.Entries a1) fun p2=>some (p2.Ref,0)
def rules_World_resolved (N:Nat) (a0:TWorld) (a1:Int):Option (Int×Int):=bnd (handle_Decode N a1) fun y1=>bif (y1.2==5) then some (0,0) else bif (y1.2 != 0) then some (0,y1.2) else bif (y1.1.Tag==1) then (bnd (scope_Get N a0.Locals y1.1.Index y1.1.Stamp) fun y2=>some (y2.1,y2.2)) else bif (y1.1.Tag==2) then (bnd (slots_Get N a0.Globals y1.1.Index y1.1.Stamp) fun y3=>some (y3.1,y3.2)) else bnd (slots_Get N a0.Weaks y1.1.Index y1.1.Stamp) fun y4=>some (y4.1,y4.2)
def rules_Resolve (N:Nat) (a0:TWorld) (a1:Int):Option (Int×Int):=bnd (rules_Valid N a0) fun y1=>bif (!y1) then some (0,19) else bnd (rules_World_resolved N a0 a1) fun y2=>some (y2.1,y2.2)
def slices_Clone_rules_Thing_rules_Thing (N:Nat) (a0:List TThing):Option (List TThing):=some a0
def slices_Clone_uint64_uint64 (N:Nat) (a0:List Int):Option (List Int):=some a0
def copies_Locals (N:Nat) (a0:TLocals):Option TLocals:=bnd (slices_Clone_api_Slot_api_Slot N a0.Slots) fun y1=>bnd (slices_Clone_api_Scope_api_Scope N a0.Scopes) fun y2=>bnd (slices_Clone_int_int N a0.Issued) fun y3=>some (TLocals.mk y1 y2 y3)
def slices_Clone_api_Entry_api_Entry (N:Nat) (a0:List TEntry):Option (List TEntry):=some a0
def copies_Table (N:Nat) (a0:TTable):Option TTable:=bnd (slices_Clone_api_Entry_api_Entry N a0.Entries) fun y1=>some (TTable.mk y1)
def slices_Clone_rules_Mark_rules_Mark (N:Nat) (a0:List TMark):Option (List TMark):=some a0
def worlds_Copy_l1 (N:Nat) (a0:TWorld) (y1:List TThing):Nat->Int->(List TThing)->Option (List TThing)
 | 0,_,_=>none
 | n+1,v2,v3 =>
  bif (decide (v2<((y1.length:Nat):Int))) then (bnd (getI v3 v2) fun p4 =>
   bnd (slices_Clone_uint64_uint64 N p4.Fields) fun y5 =>
   bnd (getI v3 v2) fun p6 =>
   worlds_Copy_l1 N a0 y1 n (wI (v2+1)) (v3.set v2.toNat (TThing.mk p6.Header y5)))
  else some v3
def worlds_Copy (N:Nat) (a0:TWorld):Option TWorld:=bnd (slices_Clone_rules_Thing_rules_Thing N a0.Things) fun y1=>grd (y1.length<=140737488355328) <| bnd (worlds_Copy_l1 N a0 y1 N 0 y1) fun y7=>bnd (copies_Locals N a0.Locals) fun y8=>bnd (copies_Table N a0.Globals) fun y9=>bnd (copies_Table N a0.Weaks) fun y10=>bnd (slices_Clone_rules_Mark_rules_Mark N a0.Marks) fun y11=>bnd (slices_Clone_uint64_uint64 N a0.Roots) fun y12=>some (TWorld.mk a0.Conf y7 y8 y9 y10 y11 y12)
def bits_fits (N:Nat) (a0:Int) (a1:Int):Option Bool:=bnd (bits_Ones N a1) fun y1=>some ((bAndNot .u64 a0 y1)==0)
def bits_Pack_l1 (N:Nat) (a0:List TField):Nat->Int->Int->Option (Ex (Int×Int) Unit)
 | 0,_,_=>none
 | n+1,v1,v2 =>
  bif (decide (v2<((a0.length:Nat):Int))) then (bnd (getI a0 v2) fun p3 =>
   bif (decide (p3.Width<1)) then some (.ret (0,1))
   else bif (decide (p3.Width>v1)) then some (.ret (0,1))
   else bits_Pack_l1 N a0 n (wI (v1-p3.Width)) (wI (v2+1)))
  else some (.nxt ())
def bits_Pack_l2 (N:Nat) (a0:List TField):Nat->Int->Int->Int->Option (Ex (Int×Int) Int)
 | 0,_,_,_=>none
 | n+1,v5,v6,v7 =>
  bif (decide (v7<((a0.length:Nat):Int))) then (bnd (getI a0 v7) fun p8 =>
   bnd (bits_fits N p8.Value p8.Width) fun y9 =>
   bif (!y9) then some (.ret (0,2))
   else grd (0<=v6) <|
   bits_Pack_l2 N a0 n (bOr .u64 v5 (sShl .u64 p8.Value v6)) (wI (v6+p8.Width)) (wI (v7+1)))
  else some (.nxt v5)
def bits_Pack (N:Nat) (a0:List TField):Option (Int×Int):=bnd (bits_Pack_l1 N a0 N 64 0) fun e=>exK e (fun r=>some r) fun y4=>bnd (bits_Pack_l2 N a0 N 0 0 0) fun e=>exK e (fun r=>some r) fun y10=>some (y10,0)
def handle_Encode (N:Nat) (a0:THandle):Option (Int×Int):=bnd (handle_Valid N a0) fun y1=>bif (!y1) then some (0,1) else bnd (bits_Pack N [(TField.mk 2 (wU a0.Tag)),(TField.mk 16 (wU a0.Index)),(TField.mk 32 (wU a0.Stamp))]) fun y2=>some (y2.1,y2.2)
def shadow_Call (N:Nat) (a0:TWorld) (a1:Int) (a2:Int) (a3:Int) (a4:Int) (a5:TFact):Option (TWorld×Int×Int):=bif (a1==3) then (bnd (rules_Verdict N a0 3 a2 a3 a4 a5.Failed) fun y1=>bif (y1 != 0) then some ((TWorld.mk (TConf.mk 0 0) [] (TLocals.mk [] [] []) (TTable.mk []) (TTable.mk []) [] []),0,y1) else bnd (rules_Resolve N a0 a2) fun y2=>bnd (worlds_Copy N a0) fun y3=>jn (fun (x23:Int) (x24:Int) (x25:List TSlot) (x26:List TScope) (x27:List Int)=>bif (x24 != 0) then some ((TWorld.mk (TConf.mk 0 0) [] (TLocals.mk [] [] []) (TTable.mk []) (TTable.mk []) [] []),0,x24) else some ((TWorld.mk y3.Conf (y3.Things++[(TThing.mk (THeader.mk 3 (wI a2) 0) (List.replicate (wI a2).toNat 0))]) (TLocals.mk x25 x26 x27) y3.Globals y3.Weaks y3.Marks y3.Roots),x23,0)) fun j3=>bif (y2.1 != 0) then (bnd (getI y3.Things (wU (y2.1-1))) fun p4=>bif a5.Collected then none else grd (0<=(wI a2)∧(wI a2).toNat*8<=140737488355328) <| grd ((y3.Things.length+1)*48<=140737488355328) <| grd ((y3.Things.length+1)<=140737488355328) <| jn (fun (x11:Int) (x12:Int) (x13:List TSlot) (x14:List TScope) (x15:List Int)=>j3 x11 x12 x13 x14 x15) fun j1=>bif ((wU (((y3.Things.length+1):Nat):Int))==0) then j1 0 0 y3.Locals.Slots y3.Locals.Scopes y3.Locals.Issued else bnd (scope_New N y3.Locals (wU (((y3.Things.length+1):Nat):Int))) fun y9=>bif (y9.2.2.2 != 0) then j1 0 y9.2.2.2 y3.Locals.Slots y3.Locals.Scopes y3.Locals.Issued else bnd (handle_Encode N (THandle.mk 1 y9.2.1 y9.2.2.1)) fun y10=>j1 y10.1 y10.2 y9.1.Slots y9.1.Scopes y9.1.Issued) else bif a5.Collected then none else grd (0<=(wI a2)∧(wI a2).toNat*8<=140737488355328) <| grd ((y3.Things.length+1)*48<=140737488355328) <| grd ((y3.Things.length+1)<=140737488355328) <| jn (fun (x18:Int) (x19:Int) (x20:List TSlot) (x21:List TScope) (x22:List Int)=>j3 x18 x19 x20 x21 x22) fun j2=>bif ((wU (((y3.Things.length+1):Nat):Int))==0) then j2 0 0 y3.Locals.Slots y3.Locals.Scopes y3.Locals.Issued else bnd (scope_New N y3.Locals (wU (((y3.Things.length+1):Nat):Int))) fun y16=>bif (y16.2.2.2 != 0) then j2 0 y16.2.2.2 y3.Locals.Slots y3.Locals.Scopes y3.Locals.Issued else bnd (handle_Encode N (THandle.mk 1 y16.2.1 y16.2.2.1)) fun y17=>j2 y17.1 y17.2 y16.1.Slots y16.1.Scopes y16.1.Issued) else none
def law21_given_l1 (N:Nat) (a0:TWorld):Nat->Int->(List TThing)->Option (List TThing)
 | 0,_,_=>none
 | n+1,v1,v2 =>
  bif (decide (v1<((a0.Things.length:Nat):Int))) then (bnd (getI a0.Things v1) fun p3 =>
   bnd (getI a0.Things v1) fun p4 =>
   grd ((v2.length+1)*48<=140737488355328) <|
   law21_given_l1 N a0 n (wI (v1+1)) (v2++[(TThing.mk p3.Header p4.Fields)]))
  else some v2
def law21_given_l2 (N:Nat) (a0:TWorld) (y5:List TThing):Nat->Int->(List TMark)->Option (List TMark)
 | 0,_,_=>none
 | n+1,v6,v7 =>
  bif (decide (v6<((a0.Marks.length:Nat):Int))) then (bnd (getI a0.Marks v6) fun p8 =>
   bnd (getI a0.Marks v6) fun p9 =>
   bnd (getI a0.Marks v6) fun p10 =>
   grd ((v7.length+1)*24<=140737488355328) <|
   law21_given_l2 N a0 y5 n (wI (v6+1)) (v7++[(TMark.mk p8.Id p9.Count p10.Base)]))
  else some v7
def law21_given (N:Nat) (a0:TWorld):Option TWorld:=bnd (law21_given_l1 N a0 N 0 []) fun y5=>bnd (law21_given_l2 N a0 y5 N 0 []) fun y11=>some (TWorld.mk a0.Conf y5 a0.Locals a0.Globals a0.Weaks y11 a0.Roots)
def law21_awake (N:Nat):Option Bool:=bnd (made_Play N [] 0) fun y1=>bnd (law21_given N y1.World) fun y2=>bnd (shadow_Call N y2 3 3 0 0 (TFact.mk false false 0)) fun y3=>bif (y3.2.2==0) then (bif (y3.2.1==262145) then (bif (((y3.1.Things.length:Nat):Int)==1) then (bnd (getI y3.1.Things 0) fun p4=>some (((p4.Fields.length:Nat):Int)==3)) else some false) else some false) else some false
def made_Light (N:Nat) (a0:THeap):Option Bool:=bif (decide (((a0.Words.length:Nat):Int)<=5000)) then some (decide (((a0.Pages.length:Nat):Int)<=100)) else some false
def made_LightEnv (N:Nat) (a0:TEnv):Option Bool:=bnd (made_Light N a0.Heap) fun y1=>bif y1 then (bif (decide (((a0.Locals.Slots.length:Nat):Int)<=200)) then (bif (decide (((a0.Locals.Scopes.length:Nat):Int)<=100)) then (bif (decide (((a0.Locals.Issued.length:Nat):Int)<=5000)) then (bif (decide (((a0.Globals.Entries.length:Nat):Int)<=200)) then (bif (decide (((a0.Weaks.Entries.length:Nat):Int)<=200)) then (bif (decide (((a0.Pins.length:Nat):Int)<=100)) then some (decide (((a0.Roots.length:Nat):Int)<=100)) else some false) else some false) else some false) else some false) else some false) else some false) else some false
def shadow_Witness (N:Nat) (a0:TEnv) (a1:TEnv) (a2:Int) (a3:Int) (a4:Int):Option TFact:=jn (fun (x1:Bool)=>jn (fun (x2:Bool)=>bif (a4==0) then (bif (a2==19) then some (TFact.mk x1 x2 a3) else some (TFact.mk x1 x2 0)) else some (TFact.mk x1 x2 0)) fun j2=>bif (a4==0) then j2 (a0.Heap.Space != a1.Heap.Space) else j2 false) fun j1=>bif (a4==3) then j1 true else bif (a4==18) then j1 (a2==19) else j1 false
def ref21_Witness (N:Nat) (a0:TEnv) (a1:TEnv) (a2:Int) (a3:Int) (a4:Int):Option TFact:=jn (fun (x1:Bool)=>jn (fun (x2:Bool)=>bif (a2==19) then (bif (a4==0) then some (TFact.mk x1 x2 a3) else some (TFact.mk x1 x2 0)) else some (TFact.mk x1 x2 0)) fun j2=>bif (a4==0) then j2 (a0.Heap.Space != a1.Heap.Space) else j2 false) fun j1=>bif (a4==3) then j1 true else bif (a4==18) then j1 (a2==19) else j1 false
def law21_ShadowWitness (N:Nat) (a0:TEnv) (a1:TEnv) (a2:Int) (a3:Int) (a4:Int):Option Bool:=bnd (made_LightEnv N a0) fun y1=>bif (!y1) then some true else bnd (made_LightEnv N a1) fun y2=>bif (!y2) then some true else bnd (shadow_Witness N a0 a1 a2 a3 a4) fun y3=>bnd (ref21_Witness N a0 a1 a2 a3 a4) fun y4=>bnd (law21_awake N ) fun y5=>bif y5 then (bif (y3.Failed==y4.Failed) then (bif (y3.Collected==y4.Collected) then some (y3.Base==y4.Base) else some false) else some false) else some false
end Go.Sx
namespace Go.Sx
theorem awake_true:law21_awake 60=some true:=by kernel_rfl
theorem bndS {α β:Type} {y:α} {f:α->Option β}:bnd (some y) f=f y:=by unfold bnd;rfl
theorem jnS {κ α:Type} {k:κ} {f:κ->Option α}:jn k f=f k:=by unfold jn;rfl
theorem light_some (a:TEnv):∃ b,made_LightEnv 60 a=some b:=by
 unfold made_LightEnv made_Light
 cases h1:decide (((a.Heap.Words.length:Nat):Int)<=5000)<;>simp only[cond_true,cond_false,bndS]
 ·exact ⟨_,rfl⟩
 cases h2:decide (((a.Heap.Pages.length:Nat):Int)<=100)<;>simp only[cond_true,cond_false]
 ·exact ⟨_,rfl⟩
 cases h3:decide (((a.Locals.Slots.length:Nat):Int)<=200)<;>simp only[cond_true,cond_false]
 ·exact ⟨_,rfl⟩
 cases h4:decide (((a.Locals.Scopes.length:Nat):Int)<=100)<;>simp only[cond_true,cond_false]
 ·exact ⟨_,rfl⟩
 cases h5:decide (((a.Locals.Issued.length:Nat):Int)<=5000)<;>simp only[cond_true,cond_false]
 ·exact ⟨_,rfl⟩
 cases h6:decide (((a.Globals.Entries.length:Nat):Int)<=200)<;>simp only[cond_true,cond_false]
 ·exact ⟨_,rfl⟩
 cases h7:decide (((a.Weaks.Entries.length:Nat):Int)<=200)<;>simp only[cond_true,cond_false]
 ·exact ⟨_,rfl⟩
 cases h8:decide (((a.Pins.length:Nat):Int)<=100)<;>simp only[cond_true,cond_false]
 ·exact ⟨_,rfl⟩
 exact ⟨_,rfl⟩
theorem wit_eq (a b:TEnv) (op v e:Int):shadow_Witness 60 a b op v e=ref21_Witness 60 a b op v e∧∃ f,ref21_Witness 60 a b op v e=some f:=by
 unfold shadow_Witness ref21_Witness
 simp only[jnS]
 cases e==3<;>cases e==18<;>cases e==0<;>cases op==19<;>simp only[cond_true,cond_false,Option.some.injEq,true_and,exists_eq',and_self]
theorem shadowWitness_true (a0 a1:TEnv) (a2 a3 a4:Int):law21_ShadowWitness 60 a0 a1 a2 a3 a4=some true:=by
 unfold law21_ShadowWitness
 obtain ⟨b,hb⟩:=light_some a0
 rw[hb,bndS]
 cases b<;>simp only[Bool.not_false,Bool.not_true,cond_true,cond_false]
 obtain ⟨c,hc⟩:=light_some a1
 rw[hc,bndS]
 cases c<;>simp only[Bool.not_false,Bool.not_true,cond_true,cond_false]
 obtain ⟨h1,f,h2⟩:=wit_eq a0 a1 a2 a3 a4
 rw[h1,h2,bndS,bndS,awake_true,bndS]
 simp only[beq_self_eq_true,cond_true]
end Go.Sx
