import Derived.KernelRfl
import Derived.Test.YtgcneehkconghaaGreatDoorProg
import Derived.Test.YtgcneehkconghaaGreatDoorVR
import Derived.Test.YtgcneehkconghaaGreatDoorVI
set_option linter.all false
namespace Go.Sx
open Go.Proofs
theorem ty3:Xm Tryz.prog 3=some ⟨1,8,(.int .i64 0),.int .i64⟩:=by kernel_rfl
theorem Xgv:Tryz.prog.bytesOf 3=8:=by kernel_rfl
theorem ty4:Xm Tryz.prog 4=some ⟨1,1,(.bool false),.bool⟩:=by kernel_rfl
theorem Xos:Tryz.prog.bytesOf 4=1:=by kernel_rfl
theorem ty9:Xm Tryz.prog 9=some ⟨1,16,(.string (ByteArray.mk #[])),.str⟩:=by kernel_rfl
theorem Xps:Xm Tryz.prog 23=some ⟨2,16,(.agg #[(.int .i64 0),(.int .i64 0)]),.struct [(0,1,3),(1,1,3)]⟩:=by kernel_rfl
theorem XmT:Tryz.prog.bytesOf 23=16:=by kernel_rfl
theorem Xpt:Xm Tryz.prog 24=some ⟨1,24,(.slice none 0 0),.slice 39 1⟩:=by kernel_rfl
theorem XmU:Tryz.prog.bytesOf 24=24:=by kernel_rfl
theorem Xpu:Xm Tryz.prog 25=some ⟨1,24,(.slice none 0 0),.slice 175 4⟩:=by kernel_rfl
theorem Xpv:Xm Tryz.prog 27=some ⟨6,80,(.agg #[(.int .i64 0),(.int .i64 0),(.slice none 0 0),(.slice none 0 0),(.int .i64 0),(.int .i64 0)]),.struct [(0,2,23),(2,1,24),(3,1,25),(4,1,3),(5,1,3)]⟩:=by kernel_rfl
theorem XmV:Tryz.prog.bytesOf 27=80:=by kernel_rfl
theorem Xpw:Xm Tryz.prog 28=some ⟨1,24,(.slice none 0 0),.slice 115 3⟩:=by kernel_rfl
theorem Xpx:Xm Tryz.prog 29=some ⟨1,24,(.slice none 0 0),.slice 98 3⟩:=by kernel_rfl
theorem Xpy:Xm Tryz.prog 30=some ⟨1,24,(.slice none 0 0),.slice 3 1⟩:=by kernel_rfl
theorem Xpz:Xm Tryz.prog 32=some ⟨3,72,(.agg #[(.slice none 0 0),(.slice none 0 0),(.slice none 0 0)]),.struct [(0,1,28),(1,1,29),(2,1,30)]⟩:=by kernel_rfl
theorem XmW:Tryz.prog.bytesOf 32=72:=by kernel_rfl
theorem XpA:Xm Tryz.prog 33=some ⟨1,24,(.slice none 0 0),.slice 117 3⟩:=by kernel_rfl
theorem XpB:Xm Tryz.prog 35=some ⟨1,24,(.agg #[(.slice none 0 0)]),.struct [(0,1,33)]⟩:=by kernel_rfl
theorem XmX:Tryz.prog.bytesOf 35=24:=by kernel_rfl
theorem XpC:Xm Tryz.prog 36=some ⟨1,24,(.slice none 0 0),.slice 119 2⟩:=by kernel_rfl
theorem XpD:Xm Tryz.prog 38=some ⟨13,248,(.agg #[(.int .i64 0),(.int .i64 0),(.slice none 0 0),(.slice none 0 0),(.int .i64 0),(.int .i64 0),(.slice none 0 0),(.slice none 0 0),(.slice none 0 0),(.slice none 0 0),(.slice none 0 0),(.slice none 0 0),(.slice none 0 0)]),.struct [(0,6,27),(6,3,32),(9,1,35),(10,1,35),(11,1,36),(12,1,24)]⟩:=by kernel_rfl
theorem XmY:Tryz.prog.bytesOf 38=248:=by kernel_rfl
theorem XkU:Xm Tryz.prog 39=some ⟨1,8,(.int .u64 0),.int .u64⟩:=by kernel_rfl
theorem Xd5:Tryz.prog.bytesOf 39=8:=by kernel_rfl
theorem XqR:Xm Tryz.prog 40=some ⟨1,24,(.slice none 0 0),.slice 165 4⟩:=by kernel_rfl
theorem XqS:Xm Tryz.prog 41=some ⟨1,24,(.slice none 0 0),.slice 243 3⟩:=by kernel_rfl
theorem XqT:Xm Tryz.prog 43=some ⟨10,208,(.agg #[(.int .i64 0),(.int .i64 0),(.slice none 0 0),(.slice none 0 0),(.slice none 0 0),(.slice none 0 0),(.slice none 0 0),(.slice none 0 0),(.slice none 0 0),(.slice none 0 0)]),.struct [(0,2,23),(2,1,40),(3,3,32),(6,1,35),(7,1,35),(8,1,41),(9,1,24)]⟩:=by kernel_rfl
theorem XmZ:Tryz.prog.bytesOf 43=208:=by kernel_rfl
theorem XqU:Xm Tryz.prog 45=some ⟨24,480,(.agg #[(.int .i64 0),(.int .i64 0),(.slice none 0 0),(.slice none 0 0),(.int .i64 0),(.int .i64 0),(.slice none 0 0),(.slice none 0 0),(.slice none 0 0),(.slice none 0 0),(.slice none 0 0),(.slice none 0 0),(.slice none 0 0),(.int .i64 0),(.int .i64 0),(.slice none 0 0),(.slice none 0 0),(.slice none 0 0),(.slice none 0 0),(.slice none 0 0),(.slice none 0 0),(.slice none 0 0),(.slice none 0 0),(.slice none 0 0)]),.struct [(0,13,38),(13,10,43),(23,1,24)]⟩:=by kernel_rfl
theorem Xm0:Tryz.prog.bytesOf 45=480:=by kernel_rfl
theorem XqV:Xm Tryz.prog 47=some ⟨1,24,(.slice none 0 0),.slice 38 13⟩:=by kernel_rfl
theorem XqW:Xm Tryz.prog 49=some ⟨1,8,(.int .i64 0),.int .i64⟩:=by kernel_rfl
theorem XqX:Xm Tryz.prog 60=some ⟨2,32,(.agg #[(.slice none 0 0),(.int .i64 0)]),.struct [(0,1,30),(1,1,3)]⟩:=by kernel_rfl
theorem Xm1:Tryz.prog.bytesOf 60=32:=by kernel_rfl
theorem XqY:Xm Tryz.prog 65=some ⟨4,32,(.agg #[(.int .i64 0),(.int .u64 0),(.int .u64 0),(.int .u64 0)]),.struct [(0,1,3),(1,1,39),(2,1,39),(3,1,39)]⟩:=by kernel_rfl
theorem Xm2:Tryz.prog.bytesOf 65=32:=by kernel_rfl
theorem XqZ:Xm Tryz.prog 70=some ⟨3,24,(.agg #[(.int .i64 0),(.int .i64 0),(.int .i64 0)]),.struct [(0,1,3),(1,1,3),(2,1,3)]⟩:=by kernel_rfl
theorem Xm3:Tryz.prog.bytesOf 70=24:=by kernel_rfl
theorem Xq0:Xm Tryz.prog 78=some ⟨1,4,(.int .u32 0),.int .u32⟩:=by kernel_rfl
theorem Xq1:Xm Tryz.prog 80=some ⟨3,24,(.agg #[(.int .i64 0),(.int .i64 0),(.int .u32 0)]),.struct [(0,1,3),(1,1,3),(2,1,78)]⟩:=by kernel_rfl
theorem Xm4:Tryz.prog.bytesOf 80=24:=by kernel_rfl
theorem Xot:YC Tryz.prog 80=some [some .i64,some .i64,some .u32]:=by kernel_rfl
theorem XpE:Xm Tryz.prog 98=some ⟨3,24,(.agg #[(.int .i64 0),(.int .i64 0),(.bool false)]),.struct [(0,1,3),(1,1,3),(2,1,4)]⟩:=by kernel_rfl
theorem Xd6:Tryz.prog.bytesOf 98=24:=by kernel_rfl
theorem XpF:Xm Tryz.prog 100=some ⟨6,48,(.agg #[(.int .i64 0),(.int .i64 0),(.int .i64 0),(.int .i64 0),(.int .i64 0),(.int .i64 0)]),.struct [(0,1,3),(1,1,3),(2,1,3),(3,1,3),(4,1,3),(5,1,3)]⟩:=by kernel_rfl
theorem XkV:Tryz.prog.bytesOf 100=48:=by kernel_rfl
theorem XpG:Xm Tryz.prog 105=some ⟨3,16,(.agg #[(.bool false),(.bool false),(.int .u64 0)]),.struct [(0,1,4),(1,1,4),(2,1,39)]⟩:=by kernel_rfl
theorem XkW:Tryz.prog.bytesOf 105=16:=by kernel_rfl
theorem XpH:Xm Tryz.prog 109=some ⟨1,8,(.int .u64 0),.int .u64⟩:=by kernel_rfl
theorem XpI:Xm Tryz.prog 112=some ⟨8,128,(.agg #[(.int .i64 0),(.int .i64 0),(.slice none 0 0),(.slice none 0 0),(.int .i64 0),(.int .i64 0),(.slice none 0 0),(.slice none 0 0)]),.struct [(0,6,27),(6,1,24),(7,1,24)]⟩:=by kernel_rfl
theorem XkX:Tryz.prog.bytesOf 112=128:=by kernel_rfl
theorem Xnw:Xm Tryz.prog 115=some ⟨3,24,(.agg #[(.int .i64 0),(.int .u64 0),(.bool false)]),.struct [(0,1,3),(1,1,39),(2,1,4)]⟩:=by kernel_rfl
theorem Xci:Tryz.prog.bytesOf 115=24:=by kernel_rfl
theorem Xnx:Xm Tryz.prog 117=some ⟨3,24,(.agg #[(.int .i64 0),(.int .u64 0),(.bool false)]),.struct [(0,1,3),(1,1,39),(2,1,4)]⟩:=by kernel_rfl
theorem Xcj:Tryz.prog.bytesOf 117=24:=by kernel_rfl
theorem Xny:Xm Tryz.prog 119=some ⟨2,16,(.agg #[(.int .u64 0),(.int .i64 0)]),.struct [(0,1,39),(1,1,3)]⟩:=by kernel_rfl
theorem Xck:Tryz.prog.bytesOf 119=16:=by kernel_rfl
theorem XpJ:Xm Tryz.prog 131=some ⟨3,24,(.agg #[(.int .i64 0),(.int .i64 0),(.int .i64 0)]),.array 3 3 1⟩:=by kernel_rfl
theorem XpK:Xm Tryz.prog 155=some ⟨1,24,(.slice none 0 0),.slice 4 1⟩:=by kernel_rfl
theorem XpL:Xm Tryz.prog 165=some ⟨4,48,(.agg #[(.int .i64 0),(.int .i64 0),(.int .u32 0),(.slice none 0 0)]),.struct [(0,3,80),(3,1,24)]⟩:=by kernel_rfl
theorem XkY:Tryz.prog.bytesOf 165=48:=by kernel_rfl
theorem Xnz:Xm Tryz.prog 175=some ⟨4,32,(.agg #[(.int .i64 0),(.int .i64 0),(.int .i64 0),(.int .i64 0)]),.struct [(0,1,3),(1,1,3),(2,1,3),(3,1,3)]⟩:=by kernel_rfl
theorem Xcl:Tryz.prog.bytesOf 175=32:=by kernel_rfl
theorem Xm5:YC Tryz.prog 175=some [some .i64,some .i64,some .i64,some .i64]:=by kernel_rfl
theorem XpM:Xm Tryz.prog 177=some ⟨1,24,(.slice none 0 0),.slice 119 2⟩:=by kernel_rfl
theorem XpN:Xm Tryz.prog 180=some ⟨3,72,(.agg #[(.slice none 0 0),(.slice none 0 0),(.slice none 0 0)]),.struct [(0,3,32)]⟩:=by kernel_rfl
theorem XkZ:Tryz.prog.bytesOf 180=72:=by kernel_rfl
theorem XpO:Xm Tryz.prog 191=some ⟨1,24,(.slice none 0 0),.slice 24 1⟩:=by kernel_rfl
theorem XpP:Xm Tryz.prog 202=some ⟨2,16,(.agg #[(.int .i64 0),(.int .i64 0)]),.struct [(0,1,3),(1,1,3)]⟩:=by kernel_rfl
theorem Xk0:Tryz.prog.bytesOf 202=16:=by kernel_rfl
theorem XpQ:Xm Tryz.prog 232=some ⟨16,208,(.agg #[(.int .i64 0),(.int .i64 0),(.slice none 0 0),(.slice none 0 0),(.int .i64 0),(.int .i64 0),(.slice none 0 0),(.slice none 0 0),(.slice none 0 0),(.int .i64 0),(.int .i64 0),(.int .i64 0),(.int .i64 0),(.int .i64 0),(.int .i64 0),(.int .i64 0)]),.struct [(0,6,27),(6,1,24),(7,1,30),(8,1,24),(9,1,3),(10,6,100)]⟩:=by kernel_rfl
theorem Xk1:Tryz.prog.bytesOf 232=208:=by kernel_rfl
theorem XpR:Xm Tryz.prog 243=some ⟨3,24,(.agg #[(.int .u64 0),(.int .i64 0),(.int .u64 0)]),.struct [(0,1,39),(1,1,3),(2,1,39)]⟩:=by kernel_rfl
theorem Xk2:Tryz.prog.bytesOf 243=24:=by kernel_rfl
theorem XpS:Xm Tryz.prog 264=some ⟨3,24,(.agg #[(.int .i64 0),(.int .i64 0),(.int .u64 0)]),.struct [(0,1,3),(1,1,3),(2,1,39)]⟩:=by kernel_rfl
theorem Xk3:Tryz.prog.bytesOf 264=24:=by kernel_rfl
theorem Xm6:YC Tryz.prog 264=some [some .i64,some .i64,some .u64]:=by kernel_rfl
theorem XpT:Xm Tryz.prog 273=some ⟨1,24,(.slice none 0 0),.slice 279 4⟩:=by kernel_rfl
theorem XpU:Xm Tryz.prog 279=some ⟨4,32,(.agg #[(.int .u64 0),(.int .i64 0),(.int .i64 0),(.int .u32 0)]),.struct [(0,1,39),(1,3,80)]⟩:=by kernel_rfl
theorem Xk4:Tryz.prog.bytesOf 279=32:=by kernel_rfl
theorem XpV:Xm Tryz.prog 284=some ⟨3,24,(.agg #[(.int .i64 0),(.int .i64 0),(.int .u64 0)]),.struct [(0,1,3),(1,1,3),(2,1,39)]⟩:=by kernel_rfl
theorem Xk5:Tryz.prog.bytesOf 284=24:=by kernel_rfl
theorem Xm7:YC Tryz.prog 284=some [some .i64,some .i64,some .u64]:=by kernel_rfl
theorem XpW:Xm Tryz.prog 291=some ⟨1,8,(.agg #[(.int .i64 0)]),.struct [(0,1,3)]⟩:=by kernel_rfl
theorem XpX:Xm Tryz.prog 295=some ⟨1,8,(.agg #[(.int .i64 0)]),.struct [(0,1,3)]⟩:=by kernel_rfl
theorem XpY:Xm Tryz.prog 340=some ⟨1,8,.nilFunc,.other⟩:=by kernel_rfl
theorem XpZ:Xm Tryz.prog 341=some ⟨4,32,(.agg #[(.int .i64 0),(.int .i64 0),(.int .i64 0),(.int .i64 0)]),.struct [(0,1,3),(1,1,3),(2,1,3),(3,1,3)]⟩:=by kernel_rfl
theorem Xk6:Tryz.prog.bytesOf 341=32:=by kernel_rfl
theorem Xm8:YC Tryz.prog 341=some [some .i64,some .i64,some .i64,some .i64]:=by kernel_rfl
theorem Xp0:Xm Tryz.prog 342=some ⟨3,24,(.agg #[.nilFunc,.nilFunc,.nilFunc]),.array 3 340 1⟩:=by kernel_rfl
theorem Xp1:Xm Tryz.prog 349=some ⟨2,16,(.agg #[(.int .i64 0),(.int .u64 0)]),.struct [(0,1,3),(1,1,39)]⟩:=by kernel_rfl
theorem Xk7:Tryz.prog.bytesOf 349=16:=by kernel_rfl
theorem Xp2:Xm Tryz.prog 350=some ⟨1,24,(.slice none 0 0),.slice 349 2⟩:=by kernel_rfl
theorem Xp3:Xm Tryz.prog 382=some ⟨1,24,(.slice none 0 0),.slice 385 2⟩:=by kernel_rfl
theorem Xp4:Xm Tryz.prog 385=some ⟨2,16,(.agg #[(.int .i64 0),(.int .i64 0)]),.struct [(0,1,3),(1,1,3)]⟩:=by kernel_rfl
theorem Xk8:Tryz.prog.bytesOf 385=16:=by kernel_rfl
attribute [go_sem] ty3 ty4 ty9 Xps Xpt Xpu Xpv Xpw Xpx Xpy Xpz XpA XpB XpC XpD XkU XqR XqS XqT XqU XqV XqW XqX XqY XqZ Xq0 Xq1 Xot XpE XpF XpG XpH XpI Xnw Xnx Xny XpJ XpK XpL Xnz Xm5 XpM XpN XpO XpP XpQ XpR XpS Xm6 XpT XpU XpV Xm7 XpW XpX XpY XpZ Xm8 Xp0 Xp1 Xp2 Xp3 Xp4
end Go.Sx
namespace Go.Sx
attribute [go_sem] zWd zHp
def e3 (x:Int):List D:=[.v (.int .i64 x)]
def e60 (x:UU):List D:=[.isl 3 1 (x.L.map e3),.v (.int .i64 x.at_)]
def e23 (x:WT):List D:=[.v (.int .i64 x.PageWords),.v (.int .i64 x.Pages)]
def e39 (x:Int):List D:=[.v (.int .u64 x)]
def XG (x:Wv):List D:=[.v (.int .i64 x.Kind),.v (.int .i64 x.Space),.v (.int .i64 x.Used),.v (.int .i64 x.Pins)]
def e27 (x:Wn):List D:=[.v (.int .i64 x.Conf.PageWords),.v (.int .i64 x.Conf.Pages),.isl 39 1 (x.Words.map e39),.isl 175 4 (x.Pages.map XG),.v (.int .i64 x.Space),.v (.int .i64 x.Bump)]
def Zm (x:UX):List D:=[.v (.int .i64 x.Stamp),.v (.int .u64 x.Ref),.v (.bool x.Live)]
def e98 (x:U1):List D:=[.v (.int .i64 x.From),.v (.int .i64 x.Cap),.v (.bool x.Base)]
def Yz (x:Ub):List D:=[.v (.int .i64 x.Gen),.v (.int .u64 x.Ref),.v (.bool x.Live)]
def Zc (x:UN):List D:=[.v (.int .u64 x.Ref),.v (.int .i64 x.Count)]
def e38 (x:W6):List D:=[.v (.int .i64 x.Heap.Conf.PageWords),.v (.int .i64 x.Heap.Conf.Pages),.isl 39 1 (x.Heap.Words.map e39),.isl 175 4 (x.Heap.Pages.map XG),.v (.int .i64 x.Heap.Space),.v (.int .i64 x.Heap.Bump),.isl 115 3 (x.Locals.Slots.map Zm),.isl 98 3 (x.Locals.Scopes.map e98),.isl 3 1 (x.Locals.Issued.map e3),.isl 117 3 (x.Globals.Entries.map Yz),.isl 117 3 (x.Weaks.Entries.map Yz),.isl 119 2 (x.Pins.map Zc),.isl 39 1 (x.Roots.map e39)]
def XaB (x:Il):List D:=[.v (.int .i64 x.Header.Kind),.v (.int .i64 x.Header.Length),.v (.int .u32 x.Header.Map),.isl 39 1 (x.Fields.map e39)]
def Xcw (x:IA):List D:=[.v (.int .u64 x.Id),.v (.int .i64 x.Count),.v (.int .u64 x.Base)]
def e43 (x:WM):List D:=[.v (.int .i64 x.Conf.PageWords),.v (.int .i64 x.Conf.Pages),.isl 165 4 (x.Things.map XaB),.isl 115 3 (x.Locals.Slots.map Zm),.isl 98 3 (x.Locals.Scopes.map e98),.isl 3 1 (x.Locals.Issued.map e3),.isl 117 3 (x.Globals.Entries.map Yz),.isl 117 3 (x.Weaks.Entries.map Yz),.isl 243 3 (x.Marks.map Xcw),.isl 39 1 (x.Roots.map e39)]
def e45 (x:Ig):List D:=[.v (.int .i64 x.Env.Heap.Conf.PageWords),.v (.int .i64 x.Env.Heap.Conf.Pages),.isl 39 1 (x.Env.Heap.Words.map e39),.isl 175 4 (x.Env.Heap.Pages.map XG),.v (.int .i64 x.Env.Heap.Space),.v (.int .i64 x.Env.Heap.Bump),.isl 115 3 (x.Env.Locals.Slots.map Zm),.isl 98 3 (x.Env.Locals.Scopes.map e98),.isl 3 1 (x.Env.Locals.Issued.map e3),.isl 117 3 (x.Env.Globals.Entries.map Yz),.isl 117 3 (x.Env.Weaks.Entries.map Yz),.isl 119 2 (x.Env.Pins.map Zc),.isl 39 1 (x.Env.Roots.map e39),.v (.int .i64 x.World.Conf.PageWords),.v (.int .i64 x.World.Conf.Pages),.isl 165 4 (x.World.Things.map XaB),.isl 115 3 (x.World.Locals.Slots.map Zm),.isl 98 3 (x.World.Locals.Scopes.map e98),.isl 3 1 (x.World.Locals.Issued.map e3),.isl 117 3 (x.World.Globals.Entries.map Yz),.isl 117 3 (x.World.Weaks.Entries.map Yz),.isl 243 3 (x.World.Marks.map Xcw),.isl 39 1 (x.World.Roots.map e39),.isl 39 1 (x.Words.map e39)]
def e80 (x:Wy):List D:=[.v (.int .i64 x.Kind),.v (.int .i64 x.Length),.v (.int .u32 x.Map)]
def e4 (x:Bool):List D:=[.v (.bool x)]
def Xm9 (x:Ul):List D:=[.v (.int .i64 x.Fault),.v (.int .i64 x.Page),.v (.int .u64 x.Addr)]
def e32 (x:Ww):List D:=[.isl 115 3 (x.Slots.map Zm),.isl 98 3 (x.Scopes.map e98),.isl 3 1 (x.Issued.map e3)]
def e35 (x:WI):List D:=[.isl 117 3 (x.Entries.map Yz)]
def KC (x:W0):List D:=[.v (.int .i64 x.Heap.Conf.PageWords),.v (.int .i64 x.Heap.Conf.Pages),.isl 39 1 (x.Heap.Words.map e39),.isl 175 4 (x.Heap.Pages.map XG),.v (.int .i64 x.Heap.Space),.v (.int .i64 x.Heap.Bump),.isl 39 1 (x.Old.map e39),.isl 3 1 (x.Taken.map e3),.isl 39 1 (x.Queue.map e39),.v (.int .i64 x.Scanned),.v (.int .i64 x.Report.Copied),.v (.int .i64 x.Report.Kept),.v (.int .i64 x.Report.Filled),.v (.int .i64 x.Report.Freed),.v (.int .i64 x.Report.Cleared),.v (.int .i64 x.Report.Steps)]
def Xcx (x:Oh):List D:=[.v (.int .i64 x.From),.v (.int .i64 x.Len)]
def Xk9 (x:Us):List D:=[.v (.int .i64 x.Copied),.v (.int .i64 x.Kept),.v (.int .i64 x.Filled),.v (.int .i64 x.Freed),.v (.int .i64 x.Cleared),.v (.int .i64 x.Steps)]
def e70 (x:U8):List D:=[.v (.int .i64 x.Tag),.v (.int .i64 x.Index),.v (.int .i64 x.Stamp)]
def Xou (x:Ol):List D:=[.v (.bool x.Failed),.v (.bool x.Collected),.v (.int .u64 x.Base)]
def e65 (x:Oj):List D:=[.v (.int .i64 x.Op),.v (.int .u64 x.A),.v (.int .u64 x.B),.v (.int .u64 x.C)]
def Xna (x:Ii):List D:=[.v (.int .i64 x.Heap.Conf.PageWords),.v (.int .i64 x.Heap.Conf.Pages),.isl 39 1 (x.Heap.Words.map e39),.isl 175 4 (x.Heap.Pages.map XG),.v (.int .i64 x.Heap.Space),.v (.int .i64 x.Heap.Bump),.isl 39 1 (x.Strong.map e39),.isl 39 1 (x.Weak.map e39)]
def Xfz (x:Wv):List D:=[.v (.int .i64 x.Kind),.v (.int .i64 x.Space),.v (.int .i64 x.Used),.v (.int .i64 x.Pins)]
def KR (x:UI):List D:=[.v (.int .u64 x.addr),.v (.int .i64 x.hd.Kind),.v (.int .i64 x.hd.Length),.v (.int .u32 x.hd.Map)]
def Xnb (x:Ul):List D:=[.v (.int .i64 x.Fault),.v (.int .i64 x.Page),.v (.int .u64 x.Addr)]
def Xla (x:Iz):List D:=[.isl 115 3 (x.Locals.Slots.map Zm),.isl 98 3 (x.Locals.Scopes.map e98),.isl 3 1 (x.Locals.Issued.map e3)]
def e24 (x:List Int):List D:=[.isl 39 1 (x.map e39)]
def Xp5 (x:IL):List D:=[.v (.int .i64 x.page),.v (.int .i64 x.offset)]
def Xiy (x:Iq):List D:=[.v (.int .i64 x.Width),.v (.int .u64 x.Value)]
attribute [go_sem] e3 e60 e23 e39 XG e27 Zm e98 Yz Zc e38 XaB Xcw e43 e45 e80 e4 Xm9 e32 e35 KC Xcx Xk9 e70 Xou e65 Xna Xfz KR Xnb Xla e24 Xp5 Xiy Xgv Xm1 XmT Xd5 Xcl XmV Xci Xd6 Xcj Xck XmY XkY Xk2 XmZ Xm0 Xm4 Xos Xk5 XmW XmX Xk1 Xk8 XkV Xm3 XkW Xm2 XkX Xk6 Xk4 Xk3 XkZ XmU Xk0 Xk7
theorem Xp6:Go.Proofs.Tryz.prog.follows .mixedOrders=true:=by kernel_rfl
def GW (G:Nat->Option (List D)):Prop:=G 0=some [.v (.int .i64 2),.v (.int .i64 16),.v (.int .i64 32)]
end Go.Sx
namespace Go.Sx
open Go.Proofs
theorem E:True:=trivial
theorem hd:True:=trivial
theorem hx3:True:=trivial
theorem hl3:True:=trivial
theorem hl4:True:=trivial
theorem Xov:True:=trivial
theorem Xow:True:=trivial
theorem Xox:True:=trivial
theorem Xoy:True:=trivial
theorem XR:True:=trivial
theorem Js:True:=trivial
theorem Yk:True:=trivial
theorem YJ:True:=trivial
theorem Zq:True:=trivial
theorem Z5:True:=trivial
theorem XK:True:=trivial
theorem Kb:True:=trivial
theorem V9:True:=trivial
theorem Xlb:True:=trivial
theorem Xaa:True:=trivial
theorem hK:True:=trivial
theorem Xq2 {α:Type} {G:Prop} {a c:Int} {x y:Option α} {r:α} (h:(bif (a==c) then x else y)=some r) (f:a=c->x=some r->G) (g:¬ a=c->y=some r->G):G:=by
 by_cases e:a=c
 ·rw[beq_iff_eq.2 e] at h;exact f e h
 ·rw[IF.2 e] at h;exact g e h
attribute [go_sem] Option.get!
structure Fn (n:Nat):Prop where
class OK {α:Type} (o:Option α) (f:outParam Nat) (a:outParam (List D)) (l:outParam (List Ob)) (e:outParam (α->D)) (l':outParam (α->List Ob)):Prop where
 h:∀ G,GW G->∀ r,o=some r->Y1 Tryz.prog G f a l (Eqs (e r) (l' r))
section
variable {α β:Type} {o:Option α} {k:α->Option β} {f:Nat} {a args:List D} {l:List Ob} {e:α->D} {l':α->List Ob} {G:Nat->Option (List D)} {r:β} {K:D->List Ob->Prop}
theorem OK.c [h:OK o f a l e l'] (hr:bnd o k=some r) (hw:GW G) (hf:Zo args a) (hK:∀ y,k y=some r->K (e y) (l' y)) (t:Prf args):CallG Tryz.prog G f args l K t :=
 Xbc hr λ y hy hr=>CallG.ofE (h.h G hw y hy) hf (hK y hr) t
theorem Og [h:OK o f a l e l'] (hr:bnd o k=some r) (hw:GW G) (hf:Zo args a) (hK:∀ y,k y=some r->K (e y) (l' y)) (t:Prf args):CallD Tryz.prog G f args l K t :=
 Xbc hr λ y hy hr=>CallD.ofE (h.h G hw y hy) hf (hK y hr) t
theorem rn (fn:Func) (rs:List ResultVar) (fr:List Nat) (nt:Nat)
 (hk:(Tryz.prog.funcs[f]?,fn.body,fn.name== "runtime.NumGoroutine",fn.results,fn.ntmps,a.length.ble nt)=(some fn,some (fn.body.get!),false,⟨rs⟩,nt,true))
 (h:∀ G,GW G->∀ r,o=some r->∀ (C:Cx) x,C.G=G->WfL Tryz.prog a->Fn f->run Tryz.prog (C.sub 0 x) (VG Tryz.prog rs fr l.length (Eqs (e r) (l' r))) 1000 [.code (fn.body.get!)] (st0 a l nt)):OK o f a l e l':=by
 injection hk with h1 hk;injection hk with h2 hk;injection hk with h3 hk;injection hk with h4 hk;injection hk with h5 h6
 exact ⟨λ G hw r hr=>Yj 1000 fr nt h1 h2 h3 h4 h5 (Nat.le_of_ble_eq_true h6) λ C x hG hwf=>h G hw r hr C x hG hwf ⟨⟩⟩
end
def bm (b n:Nat):List Nat:=((List.range (n.log2+1)).filter λ i=>n / 2 ^ i % 2==1).map λ i=>i+b
theorem Xoz {b n x:Nat}:(bm b n).contains x=(decide (b<=x)&&n / 2 ^ (x-b) % 2==1):=by
 rw[Bool.eq_iff_iff,U7,bm,UY]
 simp only[UV,List.mem_range,beq_iff_eq,WE,decide_eq_true_eq]
 constructor
 ·rintro ⟨i,⟨h1,h2⟩,rfl⟩
  rw[Iy]
  exact ⟨Nat.le_add_left _ _,h2⟩
 ·rintro ⟨h1,h3⟩
  refine ⟨x-b,⟨?_,h3⟩,Nat.sub_add_cancel h1⟩
  have hp:0<n / 2 ^ (x-b):=by
   rcases Uj (n / 2 ^ (x-b)) with h | h
   ·rw[h] at h3;cases h3
   ·exact h
  have hle:2 ^ (x-b)<=n:=by
   rcases Uo n (2 ^ (x-b)) with h | h
   ·rw[Nat.div_eq_of_lt h] at hp;cases hp
   ·exact h
  have hn:n≠0:=by
   rintro rfl
   have:=Nat.two_pow_pos (x-b)
   omega
  exact Nat.lt_succ_of_le ((Nat.le_log2 hn).2 hle)
theorem Xp7 {b n x:Nat} {p q:D}:(if (bm b n).contains x=true then p else q)=if x<b then q else if n / 2 ^ (x-b) % 2=1 then p else q:=by
 rw[Xoz]
 by_cases h1:x<b
 ·rw[Wm h1,Wj (Nat.not_le.2 h1),Um];rfl
 rw[Wk h1,Wh (Nat.not_lt.1 h1),WR]
 by_cases h3:n / 2 ^ (x-b) % 2=1
 ·rw[Wm h3,Wm (beq_iff_eq.2 h3)]
 ·rw[Wk h3,Wk (λ h=>h3 (beq_iff_eq.1 h))]
def Xcy (b:Nat):Nat->List Oper->List (Nat×Nat×List (List Nat))->List En
 | i,o::l,(a,m,[])::x=>⟨i,o,bm 0 a,[],bm b m,[]⟩::Xcy b (i+1) l x
 | i,o::l,(a,m,[w,k])::x=>⟨i,o,bm 0 a,w,bm b m,k⟩::Xcy b (i+1) l x
 | _,[],[]=>[]
 | i,_,_=>[⟨i,⟨none,.assign (.tmp 0),0,"",#[],none⟩,[],[],[],[]⟩]
attribute [go_sem] Xp7 Xcy
theorem db {C:Cx} {R:St->Prop} {k:List It} {st:St} {l:List Oper} (f id:Nat) (_:Fn f) (b:Nat) (aux:List (Nat×Nat×List (List Nat))) (ho:(Xcy b 0 l aux).map (·.o)=l) (hi:(Xcy b 0 l aux).map (·.i)=List.range (Xcy b 0 l aux).length) (hc:Xi4 (Xcy b 0 l aux)=true)
 (h:dr Tryz.prog C ⟨l⟩ st.k (Xcy b 0 l aux) st λ st'=>run Tryz.prog C R 1000 k ⟨st'.t,st'.s,st'.n,st.k+(Xcy b 0 l aux).length⟩) (t:Prf (⟨l⟩:Array Oper)) (hrd:C.rd=none:=by rfl):DrawnG Tryz.prog C R id ⟨l⟩ k st t :=
 DrawnG.of Xp6 (Xcy b 0 l aux) 1000 ho hi hc h t hrd
class El {α:Type} (x:Option α) (r:α) (K:outParam (Prop->Prop)):Prop where
 el:∀ {G:Prop},x=some r->K G->G
instance {α:Type} {p:Prop} [Decidable p] {x:Option α} {r:α}:El (grd p x) r λ G=>x=some r->p->G:=⟨λ h k=>XoO h λ a b=>k b a⟩
instance {κ α:Type} {k:κ} {f:κ->Option α} {r:α}:El (jn k f) r λ G=>f k=some r->G:=⟨λ h k=>Xqz h k⟩
instance {α β γ:Type} {b:β} {f:α->Option γ} {k:β->Option γ} {r:γ}:El (exK (.nxt b) f k) r λ G=>k b=some r->G:=⟨λ h k=>XoP h k⟩
instance {α β γ:Type} {b:α} {f:α->Option γ} {k:β->Option γ} {r:γ}:El (exK (.ret b) f k) r λ G=>f b=some r->G:=⟨λ h k=>XoQ h k⟩
instance {α:Type} {x y:Option α} {r:α}:El (bif true then x else y) r λ G=>x=some r->G:=⟨λ h k=>k h⟩
instance {α:Type} {x y:Option α} {r:α}:El (bif false then x else y) r λ G=>y=some r->G:=⟨λ h k=>k h⟩
instance {α:Type} {x y:Option α} {r:α}:El (bif !false then x else y) r λ G=>x=some r->G:=⟨λ h k=>k h⟩
instance {α:Type} {x y:Option α} {r:α}:El (bif !true then x else y) r λ G=>y=some r->G:=⟨λ h k=>k h⟩
theorem XA {α:Type} {G:Prop} {b c:Bool} {x y:Option α} {r:α} (h:(bif b then x else y)=some r) (hb:b=c) (g:(bif c then x else y)=some r->G):G:=g (hb▸h)
theorem Xq3:wI (-1) = -1:=by unfold wI;decide
theorem Xq4:wI 1=1/\wI 2=2/\wI 3=3/\wI 4=4/\wI 5=5/\wI 6=6:=by unfold wI;decide
end Go.Sx
namespace Go.Sx
open Go.Proofs
set_option maxRecDepth 10000
theorem Z6 {α:Type} {e:α->List D} {p:α->Prop}:∀ {es:List (List D)},(∀ x∈es,∃ y,x=e y/\p y)->∃ l:List α,es=l.map e/\∀ x∈l,p x
 | [],_=>⟨[],rfl,λ x h=>by cases h⟩
 | x::es,h=>by
  obtain ⟨y,rfl,hy⟩:=h x (by simp)
  obtain ⟨l,rfl,hl⟩:=Z6 (e:=e) (p:=p) (es:=es) λ z hz=>h z (Ug _ hz)
  exact ⟨y::l,rfl,λ z hz=>by rcases UB.1 hz with rfl | hz;exact hy;exact hl z hz⟩
section
variable {P:Program} {t e:TypeId} {fs:List (Nat×Nat×Nat)} {a b s:Nat} {z:Value}
theorem Xcm (m:Nat) (h:Xm P t=some ⟨a,b,z,.slice e s⟩) (ds:List D):Sh P (m+1) t ds=∃ es,ds=[.isl e (P.cellsOf e) es]/\es.length<=Xl/\es.length*P.bytesOf e<=Xl/\∀ x∈es,Sh P m e x:=by simp only[Sh,(XX h).1]
theorem Vh (m:Nat) (h:Xm P t=some ⟨a,b,z,.struct fs⟩) (ds:List D):Sh P (m+1) t ds=ShF (Sh P m) (fs.map (·.2.2)) ds:=by
 obtain ⟨fields,h1,h2,_⟩:=ZP h
 simp only[Sh,h1]
 rw[h2,List.map_map]
 rfl
theorem Xd7 (h:Xm P t=some ⟨a,b,z,.int .u64⟩):∀ (m:Nat) (ds:List D),Sh P m t ds->∃ n,ds=[.v (.int .u64 n)]/\tU n
 | 0,_,h'=>h'.elim
 | m+1,ds,h'=>by
  simp only[Sh,Vz h] at h'
  obtain ⟨n,rfl,h1,h2⟩:=h'
  exact ⟨n,rfl,by unfold tU;rw[XgJ] at h1;rw[XgK] at h2;exact ⟨h1,h2⟩⟩
theorem ZJ (h:Xm P t=some ⟨a,b,z,.int .i64⟩):∀ (m:Nat) (ds:List D),Sh P m t ds->∃ n,ds=[.v (.int .i64 n)]/\True
 | 0,_,h'=>h'.elim
 | m+1,ds,h'=>by
  simp only[Sh,Vz h] at h'
  obtain ⟨n,rfl,h1,h2⟩:=h'
  exact ⟨n,rfl,trivial⟩
theorem Xd8 (h:Xm P t=some ⟨a,b,z,.bool⟩):∀ (m:Nat) (ds:List D),Sh P m t ds->∃ b,ds=[.v (.bool b)]/\True
 | 0,_,h'=>h'.elim
 | m+1,ds,h'=>by
  simp only[Sh,Xeb h] at h'
  obtain ⟨n,rfl⟩:=h'
  exact ⟨n,rfl,trivial⟩
end
theorem Xq5:Tryz.prog.cellsOf 3=1:=by kernel_rfl
theorem Xp8:Tryz.prog.cellsOf 39=1:=by kernel_rfl
theorem Xp9:Tryz.prog.cellsOf 98=3:=by kernel_rfl
theorem XoA:Tryz.prog.cellsOf 115=3:=by kernel_rfl
theorem XoB:Tryz.prog.cellsOf 117=3:=by kernel_rfl
theorem XoC:Tryz.prog.cellsOf 119=2:=by kernel_rfl
theorem XoD:Tryz.prog.cellsOf 175=4:=by kernel_rfl
theorem Xqa:∀ (m:Nat) (ds:List D),Sh Tryz.prog m 23 ds->∃ x:WT,ds=e23 x/\True
 | 0,_,h=>h.elim
 | m+1,ds,h=>by
  rw[show Sh Tryz.prog (m+1) 23 ds=_ from Vh m Xps ds] at h
  simp only[W9,UA,ShF] at h
  obtain ⟨c0,_,rfl,s0,⟨c1,_,rfl,s1,rfl⟩⟩:=h
  obtain ⟨x0,rfl,p0⟩:=ZJ ty3 _ _ s0
  obtain ⟨x1,rfl,p1⟩:=ZJ ty3 _ _ s1
  exact ⟨⟨x0,x1⟩,rfl,trivial⟩
theorem XoE (m:Nat) (x:List D) (h:Sh Tryz.prog m 39 x):∃ y:Int,x=e39 y/\tU y:=by
 obtain ⟨n,rfl,hp⟩:=Xd7 XkU m x h
 exact ⟨n,rfl,hp⟩
theorem XnA:∀ (m:Nat) (ds:List D),Sh Tryz.prog m 24 ds->∃ l:List Int,ds=[.isl 39 1 (l.map e39)]/\l.length*8<=Xl/\∀ x∈l,(λ x=>tU x) x
 | 0,_,h=>h.elim
 | m+1,ds,h=>by
  rw[show Sh Tryz.prog (m+1) 24 ds=_ from Xcm m Xpt ds] at h
  obtain ⟨es,rfl,_,hb,hs⟩:=h
  obtain ⟨l,rfl,hl⟩:=Z6 (p:=(λ x=>tU x)) (λ x hx=>XoE m x (hs x hx))
  exact ⟨l,by rw[Xp8],by rw[WZ,Xd5] at hb;exact hb,hl⟩
theorem XoF:∀ (m:Nat) (ds:List D),Sh Tryz.prog m 175 ds->∃ x:Wv,ds=XG x/\True
 | 0,_,h=>h.elim
 | m+1,ds,h=>by
  rw[show Sh Tryz.prog (m+1) 175 ds=_ from Vh m Xnz ds] at h
  simp only[W9,UA,ShF] at h
  obtain ⟨c0,_,rfl,s0,⟨c1,_,rfl,s1,⟨c2,_,rfl,s2,⟨c3,_,rfl,s3,rfl⟩⟩⟩⟩:=h
  obtain ⟨x0,rfl,p0⟩:=ZJ ty3 _ _ s0
  obtain ⟨x1,rfl,p1⟩:=ZJ ty3 _ _ s1
  obtain ⟨x2,rfl,p2⟩:=ZJ ty3 _ _ s2
  obtain ⟨x3,rfl,p3⟩:=ZJ ty3 _ _ s3
  exact ⟨⟨x0,x1,x2,x3⟩,rfl,trivial⟩
theorem Xnc (m:Nat) (x:List D) (h:Sh Tryz.prog m 175 x):∃ y:Wv,x=XG y/\True:=by
 obtain ⟨n,rfl,hp⟩:=XoF m x h
 exact ⟨n,rfl,trivial⟩
theorem Xqb:∀ (m:Nat) (ds:List D),Sh Tryz.prog m 25 ds->∃ l:List Wv,ds=[.isl 175 4 (l.map XG)]/\l.length*32<=Xl/\∀ x∈l,(λ _=>True) x
 | 0,_,h=>h.elim
 | m+1,ds,h=>by
  rw[show Sh Tryz.prog (m+1) 25 ds=_ from Xcm m Xpu ds] at h
  obtain ⟨es,rfl,_,hb,hs⟩:=h
  obtain ⟨l,rfl,hl⟩:=Z6 (p:=(λ _=>True)) (λ x hx=>Xnc m x (hs x hx))
  exact ⟨l,by rw[XoD],by rw[WZ,Xcl] at hb;exact hb,hl⟩
theorem Xqc:∀ (m:Nat) (ds:List D),Sh Tryz.prog m 27 ds->∃ x:Wn,ds=e27 x/\XL x
 | 0,_,h=>h.elim
 | m+1,ds,h=>by
  rw[show Sh Tryz.prog (m+1) 27 ds=_ from Vh m Xpv ds] at h
  simp only[W9,UA,ShF] at h
  obtain ⟨c0,_,rfl,s0,⟨c1,_,rfl,s1,⟨c2,_,rfl,s2,⟨c3,_,rfl,s3,⟨c4,_,rfl,s4,rfl⟩⟩⟩⟩⟩:=h
  obtain ⟨x0,rfl,p0⟩:=Xqa _ _ s0
  obtain ⟨x1,rfl,_,p1⟩:=XnA _ _ s1
  obtain ⟨x2,rfl,_,p2⟩:=Xqb _ _ s2
  obtain ⟨x3,rfl,p3⟩:=ZJ ty3 _ _ s3
  obtain ⟨x4,rfl,p4⟩:=ZJ ty3 _ _ s4
  exact ⟨⟨x0,x1,x2,x3,x4⟩,rfl,p1⟩
theorem XoG:∀ (m:Nat) (ds:List D),Sh Tryz.prog m 115 ds->∃ x:UX,ds=Zm x/\X7 x
 | 0,_,h=>h.elim
 | m+1,ds,h=>by
  rw[show Sh Tryz.prog (m+1) 115 ds=_ from Vh m Xnw ds] at h
  simp only[W9,UA,ShF] at h
  obtain ⟨c0,_,rfl,s0,⟨c1,_,rfl,s1,⟨c2,_,rfl,s2,rfl⟩⟩⟩:=h
  obtain ⟨x0,rfl,p0⟩:=ZJ ty3 _ _ s0
  obtain ⟨x1,rfl,p1⟩:=Xd7 XkU _ _ s1
  obtain ⟨x2,rfl,p2⟩:=Xd8 ty4 _ _ s2
  exact ⟨⟨x0,x1,x2⟩,rfl,p1⟩
theorem Xnd (m:Nat) (x:List D) (h:Sh Tryz.prog m 115 x):∃ y:UX,x=Zm y/\X7 y:=by
 obtain ⟨n,rfl,hp⟩:=XoG m x h
 exact ⟨n,rfl,hp⟩
theorem Xqd:∀ (m:Nat) (ds:List D),Sh Tryz.prog m 28 ds->∃ l:List UX,ds=[.isl 115 3 (l.map Zm)]/\l.length*24<=Xl/\∀ x∈l,(λ x=>X7 x) x
 | 0,_,h=>h.elim
 | m+1,ds,h=>by
  rw[show Sh Tryz.prog (m+1) 28 ds=_ from Xcm m Xpw ds] at h
  obtain ⟨es,rfl,_,hb,hs⟩:=h
  obtain ⟨l,rfl,hl⟩:=Z6 (p:=(λ x=>X7 x)) (λ x hx=>Xnd m x (hs x hx))
  exact ⟨l,by rw[XoA],by rw[WZ,Xci] at hb;exact hb,hl⟩
theorem Xqe:∀ (m:Nat) (ds:List D),Sh Tryz.prog m 98 ds->∃ x:U1,ds=e98 x/\True
 | 0,_,h=>h.elim
 | m+1,ds,h=>by
  rw[show Sh Tryz.prog (m+1) 98 ds=_ from Vh m XpE ds] at h
  simp only[W9,UA,ShF] at h
  obtain ⟨c0,_,rfl,s0,⟨c1,_,rfl,s1,⟨c2,_,rfl,s2,rfl⟩⟩⟩:=h
  obtain ⟨x0,rfl,p0⟩:=ZJ ty3 _ _ s0
  obtain ⟨x1,rfl,p1⟩:=ZJ ty3 _ _ s1
  obtain ⟨x2,rfl,p2⟩:=Xd8 ty4 _ _ s2
  exact ⟨⟨x0,x1,x2⟩,rfl,trivial⟩
theorem XoH (m:Nat) (x:List D) (h:Sh Tryz.prog m 98 x):∃ y:U1,x=e98 y/\True:=by
 obtain ⟨n,rfl,hp⟩:=Xqe m x h
 exact ⟨n,rfl,trivial⟩
theorem Xqf:∀ (m:Nat) (ds:List D),Sh Tryz.prog m 29 ds->∃ l:List U1,ds=[.isl 98 3 (l.map e98)]/\l.length*24<=Xl/\∀ x∈l,(λ _=>True) x
 | 0,_,h=>h.elim
 | m+1,ds,h=>by
  rw[show Sh Tryz.prog (m+1) 29 ds=_ from Xcm m Xpx ds] at h
  obtain ⟨es,rfl,_,hb,hs⟩:=h
  obtain ⟨l,rfl,hl⟩:=Z6 (p:=(λ _=>True)) (λ x hx=>XoH m x (hs x hx))
  exact ⟨l,by rw[Xp9],by rw[WZ,Xd6] at hb;exact hb,hl⟩
theorem Xqg (m:Nat) (x:List D) (h:Sh Tryz.prog m 3 x):∃ y:Int,x=e3 y/\True:=by
 obtain ⟨n,rfl,hp⟩:=ZJ ty3 m x h
 exact ⟨n,rfl,trivial⟩
theorem Xqh:∀ (m:Nat) (ds:List D),Sh Tryz.prog m 30 ds->∃ l:List Int,ds=[.isl 3 1 (l.map e3)]/\l.length*8<=Xl/\∀ x∈l,(λ _=>True) x
 | 0,_,h=>h.elim
 | m+1,ds,h=>by
  rw[show Sh Tryz.prog (m+1) 30 ds=_ from Xcm m Xpy ds] at h
  obtain ⟨es,rfl,_,hb,hs⟩:=h
  obtain ⟨l,rfl,hl⟩:=Z6 (p:=(λ _=>True)) (λ x hx=>Xqg m x (hs x hx))
  exact ⟨l,by rw[Xq5],by rw[WZ,Xgv] at hb;exact hb,hl⟩
theorem Xqi:∀ (m:Nat) (ds:List D),Sh Tryz.prog m 32 ds->∃ x:Ww,ds=e32 x/\XJ x
 | 0,_,h=>h.elim
 | m+1,ds,h=>by
  rw[show Sh Tryz.prog (m+1) 32 ds=_ from Vh m Xpz ds] at h
  simp only[W9,UA,ShF] at h
  obtain ⟨c0,_,rfl,s0,⟨c1,_,rfl,s1,⟨c2,_,rfl,s2,rfl⟩⟩⟩:=h
  obtain ⟨x0,rfl,_,p0⟩:=Xqd _ _ s0
  obtain ⟨x1,rfl,_,p1⟩:=Xqf _ _ s1
  obtain ⟨x2,rfl,_,p2⟩:=Xqh _ _ s2
  exact ⟨⟨x0,x1,x2⟩,rfl,p0⟩
theorem XoI:∀ (m:Nat) (ds:List D),Sh Tryz.prog m 117 ds->∃ x:Ub,ds=Yz x/\Xw x
 | 0,_,h=>h.elim
 | m+1,ds,h=>by
  rw[show Sh Tryz.prog (m+1) 117 ds=_ from Vh m Xnx ds] at h
  simp only[W9,UA,ShF] at h
  obtain ⟨c0,_,rfl,s0,⟨c1,_,rfl,s1,⟨c2,_,rfl,s2,rfl⟩⟩⟩:=h
  obtain ⟨x0,rfl,p0⟩:=ZJ ty3 _ _ s0
  obtain ⟨x1,rfl,p1⟩:=Xd7 XkU _ _ s1
  obtain ⟨x2,rfl,p2⟩:=Xd8 ty4 _ _ s2
  exact ⟨⟨x0,x1,x2⟩,rfl,p1⟩
theorem Xne (m:Nat) (x:List D) (h:Sh Tryz.prog m 117 x):∃ y:Ub,x=Yz y/\Xw y:=by
 obtain ⟨n,rfl,hp⟩:=XoI m x h
 exact ⟨n,rfl,hp⟩
theorem Xqj:∀ (m:Nat) (ds:List D),Sh Tryz.prog m 33 ds->∃ l:List Ub,ds=[.isl 117 3 (l.map Yz)]/\l.length*24<=Xl/\∀ x∈l,(λ x=>Xw x) x
 | 0,_,h=>h.elim
 | m+1,ds,h=>by
  rw[show Sh Tryz.prog (m+1) 33 ds=_ from Xcm m XpA ds] at h
  obtain ⟨es,rfl,_,hb,hs⟩:=h
  obtain ⟨l,rfl,hl⟩:=Z6 (p:=(λ x=>Xw x)) (λ x hx=>Xne m x (hs x hx))
  exact ⟨l,by rw[XoB],by rw[WZ,Xcj] at hb;exact hb,hl⟩
theorem XnB:∀ (m:Nat) (ds:List D),Sh Tryz.prog m 35 ds->∃ x:WI,ds=e35 x/\XW x
 | 0,_,h=>h.elim
 | m+1,ds,h=>by
  rw[show Sh Tryz.prog (m+1) 35 ds=_ from Vh m XpB ds] at h
  simp only[W9,UA,ShF] at h
  obtain ⟨c0,_,rfl,s0,rfl⟩:=h
  obtain ⟨x0,rfl,_,p0⟩:=Xqj _ _ s0
  exact ⟨⟨x0⟩,rfl,p0⟩
theorem XoJ:∀ (m:Nat) (ds:List D),Sh Tryz.prog m 119 ds->∃ x:UN,ds=Zc x/\YG x
 | 0,_,h=>h.elim
 | m+1,ds,h=>by
  rw[show Sh Tryz.prog (m+1) 119 ds=_ from Vh m Xny ds] at h
  simp only[W9,UA,ShF] at h
  obtain ⟨c0,_,rfl,s0,⟨c1,_,rfl,s1,rfl⟩⟩:=h
  obtain ⟨x0,rfl,p0⟩:=Xd7 XkU _ _ s0
  obtain ⟨x1,rfl,p1⟩:=ZJ ty3 _ _ s1
  exact ⟨⟨x0,x1⟩,rfl,p0⟩
theorem Xnf (m:Nat) (x:List D) (h:Sh Tryz.prog m 119 x):∃ y:UN,x=Zc y/\YG y:=by
 obtain ⟨n,rfl,hp⟩:=XoJ m x h
 exact ⟨n,rfl,hp⟩
theorem Xqk:∀ (m:Nat) (ds:List D),Sh Tryz.prog m 36 ds->∃ l:List UN,ds=[.isl 119 2 (l.map Zc)]/\l.length*16<=Xl/\∀ x∈l,(λ x=>YG x) x
 | 0,_,h=>h.elim
 | m+1,ds,h=>by
  rw[show Sh Tryz.prog (m+1) 36 ds=_ from Xcm m XpC ds] at h
  obtain ⟨es,rfl,_,hb,hs⟩:=h
  obtain ⟨l,rfl,hl⟩:=Z6 (p:=(λ x=>YG x)) (λ x hx=>Xnf m x (hs x hx))
  exact ⟨l,by rw[XoC],by rw[WZ,Xck] at hb;exact hb,hl⟩
theorem Xq7:∀ (m:Nat) (ds:List D),Sh Tryz.prog m 38 ds->∃ x:W6,ds=e38 x/\XY x
 | 0,_,h=>h.elim
 | m+1,ds,h=>by
  rw[show Sh Tryz.prog (m+1) 38 ds=_ from Vh m XpD ds] at h
  simp only[W9,UA,ShF] at h
  obtain ⟨c0,_,rfl,s0,⟨c1,_,rfl,s1,⟨c2,_,rfl,s2,⟨c3,_,rfl,s3,⟨c4,_,rfl,s4,⟨c5,_,rfl,s5,rfl⟩⟩⟩⟩⟩⟩:=h
  obtain ⟨x0,rfl,p0⟩:=Xqc _ _ s0
  obtain ⟨x1,rfl,p1⟩:=Xqi _ _ s1
  obtain ⟨x2,rfl,p2⟩:=XnB _ _ s2
  obtain ⟨x3,rfl,p3⟩:=XnB _ _ s3
  obtain ⟨x4,rfl,_,p4⟩:=Xqk _ _ s4
  obtain ⟨x5,rfl,_,p5⟩:=XnA _ _ s5
  exact ⟨⟨x0,x1,x2,x3,x4,x5⟩,rfl,⟨p0,p1,p2,p3,p4,p5⟩⟩
end Go.Sx
namespace Go.Sx
open Go.Proofs
section
variable {α β:Type} {o:Option α} {y:α} {f:Nat} {a args:List D} {l:List Ob} {e:α->D} {l':α->List Ob} {G:Nat->Option (List D)} {K:D->List Ob->Prop}
theorem OK.t [h:OK o f a l e l'] (ho:o=some y) (hw:GW G) (hf:Zo args a) (hK:K (e y) (l' y)) (t:Prf args):CallG Tryz.prog G f args l K t:=CallG.ofE (h.h G hw y ho) hf hK t
theorem OP [h:OK o f a l e l'] (ho:o=some y) (hw:GW G) (hf:Zo args a) (hK:K (e y) (l' y)) (t:Prf args):CallD Tryz.prog G f args l K t:=CallD.ofE (h.h G hw y ho) hf hK t
theorem OQ {β:Type} {k:α->Option β} {r:β} {C:Cx} {s:Heap} {K':D->Prop} [h:OK o f a [] e l'] (hr:bnd o k=some r) (hw:GW G) (hG:C.G=G) (hro:RoA Tryz.prog C s args a) (hsc:∀ y,scal (e y)=true) (hK:∀ y,k y=some r->K' (e y)) (t:Prf args):Xnk Tryz.prog C s f args K' t :=
 Xbc hr λ y hy hr=>⟨a,Eqs (e y) (l' y),hro,hG▸h.h G hw y hy,⟨_,_,rfl,rfl⟩,λ _ _ h1=>h1.1▸⟨hsc y,hK y hr⟩⟩
end
end Go.Sx
