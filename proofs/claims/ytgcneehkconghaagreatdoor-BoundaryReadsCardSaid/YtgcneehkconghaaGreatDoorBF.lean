import Derived.KernelRfl
import Derived.Test.YtgcneehkconghaaGreatDoorProg
import Derived.Test.YtgcneehkconghaaGreatDoorBR
import Derived.Test.YtgcneehkconghaaGreatDoorBE
set_option linter.all false
namespace Go.Sx
open Go.Proofs
theorem ty3:Xl Tryz.prog 3=some ⟨1,8,(.int .i64 0),.int .i64⟩:=by kernel_rfl
theorem Xfc:Tryz.prog.bytesOf 3=8:=by kernel_rfl
theorem ty4:Xl Tryz.prog 4=some ⟨1,1,(.bool false),.bool⟩:=by kernel_rfl
theorem Xmx:Tryz.prog.bytesOf 4=1:=by kernel_rfl
theorem ty9:Xl Tryz.prog 9=some ⟨1,16,(.string (ByteArray.mk #[])),.str⟩:=by kernel_rfl
theorem Xoq:Xl Tryz.prog 23=some ⟨2,16,(.agg #[(.int .i64 0),(.int .i64 0)]),.struct [(0,1,3),(1,1,3)]⟩:=by kernel_rfl
theorem Xk8:Tryz.prog.bytesOf 23=16:=by kernel_rfl
theorem Xmy:XZ Tryz.prog 23=some [some .i64,some .i64]:=by kernel_rfl
theorem Xor:Xl Tryz.prog 24=some ⟨1,24,(.slice none 0 0),.slice 39 1⟩:=by kernel_rfl
theorem Xk9:Tryz.prog.bytesOf 24=24:=by kernel_rfl
theorem Xos:Xl Tryz.prog 25=some ⟨1,24,(.slice none 0 0),.slice 175 4⟩:=by kernel_rfl
theorem Xot:Xl Tryz.prog 27=some ⟨6,80,(.agg #[(.int .i64 0),(.int .i64 0),(.slice none 0 0),(.slice none 0 0),(.int .i64 0),(.int .i64 0)]),.struct [(0,2,23),(2,1,24),(3,1,25),(4,1,3),(5,1,3)]⟩:=by kernel_rfl
theorem Xla:Tryz.prog.bytesOf 27=80:=by kernel_rfl
theorem Xou:Xl Tryz.prog 28=some ⟨1,24,(.slice none 0 0),.slice 115 3⟩:=by kernel_rfl
theorem Xov:Xl Tryz.prog 29=some ⟨1,24,(.slice none 0 0),.slice 98 3⟩:=by kernel_rfl
theorem Xnl:Xl Tryz.prog 30=some ⟨1,24,(.slice none 0 0),.slice 3 1⟩:=by kernel_rfl
theorem Xow:Xl Tryz.prog 32=some ⟨3,72,(.agg #[(.slice none 0 0),(.slice none 0 0),(.slice none 0 0)]),.struct [(0,1,28),(1,1,29),(2,1,30)]⟩:=by kernel_rfl
theorem Xlb:Tryz.prog.bytesOf 32=72:=by kernel_rfl
theorem Xox:Xl Tryz.prog 33=some ⟨1,24,(.slice none 0 0),.slice 117 3⟩:=by kernel_rfl
theorem Xoy:Xl Tryz.prog 35=some ⟨1,24,(.agg #[(.slice none 0 0)]),.struct [(0,1,33)]⟩:=by kernel_rfl
theorem Xlc:Tryz.prog.bytesOf 35=24:=by kernel_rfl
theorem Xoz:Xl Tryz.prog 36=some ⟨1,24,(.slice none 0 0),.slice 119 2⟩:=by kernel_rfl
theorem XoA:Xl Tryz.prog 38=some ⟨13,248,(.agg #[(.int .i64 0),(.int .i64 0),(.slice none 0 0),(.slice none 0 0),(.int .i64 0),(.int .i64 0),(.slice none 0 0),(.slice none 0 0),(.slice none 0 0),(.slice none 0 0),(.slice none 0 0),(.slice none 0 0),(.slice none 0 0)]),.struct [(0,6,27),(6,3,32),(9,1,35),(10,1,35),(11,1,36),(12,1,24)]⟩:=by kernel_rfl
theorem Xld:Tryz.prog.bytesOf 38=248:=by kernel_rfl
theorem XoB:Xl Tryz.prog 39=some ⟨1,8,(.int .u64 0),.int .u64⟩:=by kernel_rfl
theorem Xf2:Tryz.prog.bytesOf 39=8:=by kernel_rfl
theorem XoC:Xl Tryz.prog 40=some ⟨1,24,(.slice none 0 0),.slice 165 4⟩:=by kernel_rfl
theorem XoD:Xl Tryz.prog 41=some ⟨1,24,(.slice none 0 0),.slice 243 3⟩:=by kernel_rfl
theorem XoE:Xl Tryz.prog 43=some ⟨10,208,(.agg #[(.int .i64 0),(.int .i64 0),(.slice none 0 0),(.slice none 0 0),(.slice none 0 0),(.slice none 0 0),(.slice none 0 0),(.slice none 0 0),(.slice none 0 0),(.slice none 0 0)]),.struct [(0,2,23),(2,1,40),(3,3,32),(6,1,35),(7,1,35),(8,1,41),(9,1,24)]⟩:=by kernel_rfl
theorem Xle:Tryz.prog.bytesOf 43=208:=by kernel_rfl
theorem XoF:Xl Tryz.prog 45=some ⟨24,480,(.agg #[(.int .i64 0),(.int .i64 0),(.slice none 0 0),(.slice none 0 0),(.int .i64 0),(.int .i64 0),(.slice none 0 0),(.slice none 0 0),(.slice none 0 0),(.slice none 0 0),(.slice none 0 0),(.slice none 0 0),(.slice none 0 0),(.int .i64 0),(.int .i64 0),(.slice none 0 0),(.slice none 0 0),(.slice none 0 0),(.slice none 0 0),(.slice none 0 0),(.slice none 0 0),(.slice none 0 0),(.slice none 0 0),(.slice none 0 0)]),.struct [(0,13,38),(13,10,43),(23,1,24)]⟩:=by kernel_rfl
theorem Xlf:Tryz.prog.bytesOf 45=480:=by kernel_rfl
theorem XoG:Xl Tryz.prog 49=some ⟨1,8,(.int .i64 0),.int .i64⟩:=by kernel_rfl
theorem XoH:Xl Tryz.prog 60=some ⟨2,32,(.agg #[(.slice none 0 0),(.int .i64 0)]),.struct [(0,1,30),(1,1,3)]⟩:=by kernel_rfl
theorem Xlg:Tryz.prog.bytesOf 60=32:=by kernel_rfl
theorem XoI:Xl Tryz.prog 65=some ⟨4,32,(.agg #[(.int .i64 0),(.int .u64 0),(.int .u64 0),(.int .u64 0)]),.struct [(0,1,3),(1,1,39),(2,1,39),(3,1,39)]⟩:=by kernel_rfl
theorem Xlh:Tryz.prog.bytesOf 65=32:=by kernel_rfl
theorem XoJ:Xl Tryz.prog 70=some ⟨3,24,(.agg #[(.int .i64 0),(.int .i64 0),(.int .i64 0)]),.struct [(0,1,3),(1,1,3),(2,1,3)]⟩:=by kernel_rfl
theorem Xli:Tryz.prog.bytesOf 70=24:=by kernel_rfl
theorem XoK:Xl Tryz.prog 78=some ⟨1,4,(.int .u32 0),.int .u32⟩:=by kernel_rfl
theorem XoL:Xl Tryz.prog 80=some ⟨3,24,(.agg #[(.int .i64 0),(.int .i64 0),(.int .u32 0)]),.struct [(0,1,3),(1,1,3),(2,1,78)]⟩:=by kernel_rfl
theorem Xlj:Tryz.prog.bytesOf 80=24:=by kernel_rfl
theorem Xmz:XZ Tryz.prog 80=some [some .i64,some .i64,some .u32]:=by kernel_rfl
theorem XoM:Xl Tryz.prog 84=some ⟨16,272,(.agg #[(.int .i64 0),(.int .i64 0),(.slice none 0 0),(.slice none 0 0),(.int .i64 0),(.int .i64 0),(.slice none 0 0),(.slice none 0 0),(.slice none 0 0),(.slice none 0 0),(.slice none 0 0),(.slice none 0 0),(.slice none 0 0),(.int .u64 0),(.int .u64 0),(.int .u64 0)]),.struct [(0,13,38),(13,1,39),(14,1,39),(15,1,39)]⟩:=by kernel_rfl
theorem XoN:Xl Tryz.prog 85=some ⟨1,8,.nilFunc,.other⟩:=by kernel_rfl
theorem XoO:Xl Tryz.prog 86=some ⟨21,168,(.agg #[.nilFunc,.nilFunc,.nilFunc,.nilFunc,.nilFunc,.nilFunc,.nilFunc,.nilFunc,.nilFunc,.nilFunc,.nilFunc,.nilFunc,.nilFunc,.nilFunc,.nilFunc,.nilFunc,.nilFunc,.nilFunc,.nilFunc,.nilFunc,.nilFunc]),.array 21 85 1⟩:=by kernel_rfl
theorem XoP:Xl Tryz.prog 98=some ⟨3,24,(.agg #[(.int .i64 0),(.int .i64 0),(.bool false)]),.struct [(0,1,3),(1,1,3),(2,1,4)]⟩:=by kernel_rfl
theorem Xf3:Tryz.prog.bytesOf 98=24:=by kernel_rfl
theorem XmA:XZ Tryz.prog 98=some [some .i64,some .i64,none]:=by kernel_rfl
theorem Xnm:Xl Tryz.prog 100=some ⟨6,48,(.agg #[(.int .i64 0),(.int .i64 0),(.int .i64 0),(.int .i64 0),(.int .i64 0),(.int .i64 0)]),.struct [(0,1,3),(1,1,3),(2,1,3),(3,1,3),(4,1,3),(5,1,3)]⟩:=by kernel_rfl
theorem Xjj:Tryz.prog.bytesOf 100=48:=by kernel_rfl
theorem Xnn:Xl Tryz.prog 105=some ⟨3,16,(.agg #[(.bool false),(.bool false),(.int .u64 0)]),.struct [(0,1,4),(1,1,4),(2,1,39)]⟩:=by kernel_rfl
theorem Xjk:Tryz.prog.bytesOf 105=16:=by kernel_rfl
theorem Xno:Xl Tryz.prog 109=some ⟨1,8,(.int .u64 0),.int .u64⟩:=by kernel_rfl
theorem Xjl:Tryz.prog.bytesOf 112=128:=by kernel_rfl
theorem Xnp:Xl Tryz.prog 115=some ⟨3,24,(.agg #[(.int .i64 0),(.int .u64 0),(.bool false)]),.struct [(0,1,3),(1,1,39),(2,1,4)]⟩:=by kernel_rfl
theorem Xek:Tryz.prog.bytesOf 115=24:=by kernel_rfl
theorem Xlk:XZ Tryz.prog 115=some [some .i64,some .u64,none]:=by kernel_rfl
theorem Xnq:Xl Tryz.prog 117=some ⟨3,24,(.agg #[(.int .i64 0),(.int .u64 0),(.bool false)]),.struct [(0,1,3),(1,1,39),(2,1,4)]⟩:=by kernel_rfl
theorem Xel:Tryz.prog.bytesOf 117=24:=by kernel_rfl
theorem Xll:XZ Tryz.prog 117=some [some .i64,some .u64,none]:=by kernel_rfl
theorem Xnr:Xl Tryz.prog 119=some ⟨2,16,(.agg #[(.int .u64 0),(.int .i64 0)]),.struct [(0,1,39),(1,1,3)]⟩:=by kernel_rfl
theorem Xem:Tryz.prog.bytesOf 119=16:=by kernel_rfl
theorem Xlm:XZ Tryz.prog 119=some [some .u64,some .i64]:=by kernel_rfl
theorem Xns:Xl Tryz.prog 131=some ⟨3,24,(.agg #[(.int .i64 0),(.int .i64 0),(.int .i64 0)]),.array 3 3 1⟩:=by kernel_rfl
theorem Xnt:Xl Tryz.prog 155=some ⟨1,24,(.slice none 0 0),.slice 4 1⟩:=by kernel_rfl
theorem Xnu:Xl Tryz.prog 165=some ⟨4,48,(.agg #[(.int .i64 0),(.int .i64 0),(.int .u32 0),(.slice none 0 0)]),.struct [(0,3,80),(3,1,24)]⟩:=by kernel_rfl
theorem Xjm:Tryz.prog.bytesOf 165=48:=by kernel_rfl
theorem Xnv:Xl Tryz.prog 175=some ⟨4,32,(.agg #[(.int .i64 0),(.int .i64 0),(.int .i64 0),(.int .i64 0)]),.struct [(0,1,3),(1,1,3),(2,1,3),(3,1,3)]⟩:=by kernel_rfl
theorem Xen:Tryz.prog.bytesOf 175=32:=by kernel_rfl
theorem Xln:XZ Tryz.prog 175=some [some .i64,some .i64,some .i64,some .i64]:=by kernel_rfl
theorem Xnw:Xl Tryz.prog 177=some ⟨1,24,(.slice none 0 0),.slice 119 2⟩:=by kernel_rfl
theorem Xnx:Xl Tryz.prog 180=some ⟨3,72,(.agg #[(.slice none 0 0),(.slice none 0 0),(.slice none 0 0)]),.struct [(0,3,32)]⟩:=by kernel_rfl
theorem Xjn:Tryz.prog.bytesOf 180=72:=by kernel_rfl
theorem Xny:Xl Tryz.prog 191=some ⟨1,24,(.slice none 0 0),.slice 24 1⟩:=by kernel_rfl
theorem Xnz:Xl Tryz.prog 202=some ⟨2,16,(.agg #[(.int .i64 0),(.int .i64 0)]),.struct [(0,1,3),(1,1,3)]⟩:=by kernel_rfl
theorem Xjo:Tryz.prog.bytesOf 202=16:=by kernel_rfl
theorem XnA:Xl Tryz.prog 232=some ⟨16,208,(.agg #[(.int .i64 0),(.int .i64 0),(.slice none 0 0),(.slice none 0 0),(.int .i64 0),(.int .i64 0),(.slice none 0 0),(.slice none 0 0),(.slice none 0 0),(.int .i64 0),(.int .i64 0),(.int .i64 0),(.int .i64 0),(.int .i64 0),(.int .i64 0),(.int .i64 0)]),.struct [(0,6,27),(6,1,24),(7,1,30),(8,1,24),(9,1,3),(10,6,100)]⟩:=by kernel_rfl
theorem Xjp:Tryz.prog.bytesOf 232=208:=by kernel_rfl
theorem XnB:Xl Tryz.prog 243=some ⟨3,24,(.agg #[(.int .u64 0),(.int .i64 0),(.int .u64 0)]),.struct [(0,1,39),(1,1,3),(2,1,39)]⟩:=by kernel_rfl
theorem Xjq:Tryz.prog.bytesOf 243=24:=by kernel_rfl
theorem XnC:Xl Tryz.prog 264=some ⟨3,24,(.agg #[(.int .i64 0),(.int .i64 0),(.int .u64 0)]),.struct [(0,1,3),(1,1,3),(2,1,39)]⟩:=by kernel_rfl
theorem Xjr:Tryz.prog.bytesOf 264=24:=by kernel_rfl
theorem Xlo:XZ Tryz.prog 264=some [some .i64,some .i64,some .u64]:=by kernel_rfl
theorem XnD:Xl Tryz.prog 273=some ⟨1,24,(.slice none 0 0),.slice 279 4⟩:=by kernel_rfl
theorem XnE:Xl Tryz.prog 279=some ⟨4,32,(.agg #[(.int .u64 0),(.int .i64 0),(.int .i64 0),(.int .u32 0)]),.struct [(0,1,39),(1,3,80)]⟩:=by kernel_rfl
theorem Xjs:Tryz.prog.bytesOf 279=32:=by kernel_rfl
theorem XnF:Xl Tryz.prog 284=some ⟨3,24,(.agg #[(.int .i64 0),(.int .i64 0),(.int .u64 0)]),.struct [(0,1,3),(1,1,3),(2,1,39)]⟩:=by kernel_rfl
theorem Xjt:Tryz.prog.bytesOf 284=24:=by kernel_rfl
theorem Xlp:XZ Tryz.prog 284=some [some .i64,some .i64,some .u64]:=by kernel_rfl
theorem XnG:Xl Tryz.prog 291=some ⟨1,8,(.agg #[(.int .i64 0)]),.struct [(0,1,3)]⟩:=by kernel_rfl
theorem XnH:Xl Tryz.prog 295=some ⟨1,8,(.agg #[(.int .i64 0)]),.struct [(0,1,3)]⟩:=by kernel_rfl
theorem XnI:Xl Tryz.prog 340=some ⟨1,8,.nilFunc,.other⟩:=by kernel_rfl
theorem XnJ:Xl Tryz.prog 341=some ⟨4,32,(.agg #[(.int .i64 0),(.int .i64 0),(.int .i64 0),(.int .i64 0)]),.struct [(0,1,3),(1,1,3),(2,1,3),(3,1,3)]⟩:=by kernel_rfl
theorem Xju:Tryz.prog.bytesOf 341=32:=by kernel_rfl
theorem Xlq:XZ Tryz.prog 341=some [some .i64,some .i64,some .i64,some .i64]:=by kernel_rfl
theorem XnK:Xl Tryz.prog 342=some ⟨3,24,(.agg #[.nilFunc,.nilFunc,.nilFunc]),.array 3 340 1⟩:=by kernel_rfl
theorem XnL:Xl Tryz.prog 349=some ⟨2,16,(.agg #[(.int .i64 0),(.int .u64 0)]),.struct [(0,1,3),(1,1,39)]⟩:=by kernel_rfl
theorem Xjv:Tryz.prog.bytesOf 349=16:=by kernel_rfl
theorem XnM:Xl Tryz.prog 350=some ⟨1,24,(.slice none 0 0),.slice 349 2⟩:=by kernel_rfl
theorem XnN:Xl Tryz.prog 382=some ⟨1,24,(.slice none 0 0),.slice 385 2⟩:=by kernel_rfl
theorem XnO:Xl Tryz.prog 385=some ⟨2,16,(.agg #[(.int .i64 0),(.int .i64 0)]),.struct [(0,1,3),(1,1,3)]⟩:=by kernel_rfl
theorem Xjw:Tryz.prog.bytesOf 385=16:=by kernel_rfl
attribute [go_sem] ty3 ty4 ty9 Xoq Xmy Xor Xos Xot Xou Xov Xnl Xow Xox Xoy Xoz XoA XoB XoC XoD XoE XoF XoG XoH XoI XoJ XoK XoL Xmz XoM XoN XoO XoP XmA Xnm Xnn Xno Xnp Xlk Xnq Xll Xnr Xlm Xns Xnt Xnu Xnv Xln Xnw Xnx Xny Xnz XnA XnB XnC Xlo XnD XnE XnF Xlp XnG XnH XnI XnJ Xlq XnK XnL XnM XnN XnO
end Go.Sx
namespace Go.Sx
attribute [go_sem] zWd zHp
def e3 (x:Int):List D:=[.v (.int .i64 x)]
def e60 (x:U7):List D:=[.isl 3 1 (x.L.map e3),.v (.int .i64 x.at_)]
def e23 (x:WX):List D:=[.v (.int .i64 x.PageWords),.v (.int .i64 x.Pages)]
def e39 (x:Int):List D:=[.v (.int .u64 x)]
def XB (x:Wx):List D:=[.v (.int .i64 x.Kind),.v (.int .i64 x.Space),.v (.int .i64 x.Used),.v (.int .i64 x.Pins)]
def e27 (x:Wo):List D:=[.v (.int .i64 x.Conf.PageWords),.v (.int .i64 x.Conf.Pages),.isl 39 1 (x.Words.map e39),.isl 175 4 (x.Pages.map XB),.v (.int .i64 x.Space),.v (.int .i64 x.Bump)]
def Zg (x:US):List D:=[.v (.int .i64 x.Stamp),.v (.int .u64 x.Ref),.v (.bool x.Live)]
def e98 (x:U2):List D:=[.v (.int .i64 x.From),.v (.int .i64 x.Cap),.v (.bool x.Base)]
def Ym (x:W6):List D:=[.v (.int .i64 x.Gen),.v (.int .u64 x.Ref),.v (.bool x.Live)]
def YT (x:UE):List D:=[.v (.int .u64 x.Ref),.v (.int .i64 x.Count)]
def e38 (x:Uh):List D:=[.v (.int .i64 x.Heap.Conf.PageWords),.v (.int .i64 x.Heap.Conf.Pages),.isl 39 1 (x.Heap.Words.map e39),.isl 175 4 (x.Heap.Pages.map XB),.v (.int .i64 x.Heap.Space),.v (.int .i64 x.Heap.Bump),.isl 115 3 (x.Locals.Slots.map Zg),.isl 98 3 (x.Locals.Scopes.map e98),.isl 3 1 (x.Locals.Issued.map e3),.isl 117 3 (x.Globals.Entries.map Ym),.isl 117 3 (x.Weaks.Entries.map Ym),.isl 119 2 (x.Pins.map YT),.isl 39 1 (x.Roots.map e39)]
def VZ (x:Ie):List D:=[.v (.int .i64 x.Header.Kind),.v (.int .i64 x.Header.Length),.v (.int .u32 x.Header.Map),.isl 39 1 (x.Fields.map e39)]
def Xc4 (x:Iq):List D:=[.v (.int .u64 x.Id),.v (.int .i64 x.Count),.v (.int .u64 x.Base)]
def e43 (x:WI):List D:=[.v (.int .i64 x.Conf.PageWords),.v (.int .i64 x.Conf.Pages),.isl 165 4 (x.Things.map VZ),.isl 115 3 (x.Locals.Slots.map Zg),.isl 98 3 (x.Locals.Scopes.map e98),.isl 3 1 (x.Locals.Issued.map e3),.isl 117 3 (x.Globals.Entries.map Ym),.isl 117 3 (x.Weaks.Entries.map Ym),.isl 243 3 (x.Marks.map Xc4),.isl 39 1 (x.Roots.map e39)]
def e45 (x:Io):List D:=[.v (.int .i64 x.Env.Heap.Conf.PageWords),.v (.int .i64 x.Env.Heap.Conf.Pages),.isl 39 1 (x.Env.Heap.Words.map e39),.isl 175 4 (x.Env.Heap.Pages.map XB),.v (.int .i64 x.Env.Heap.Space),.v (.int .i64 x.Env.Heap.Bump),.isl 115 3 (x.Env.Locals.Slots.map Zg),.isl 98 3 (x.Env.Locals.Scopes.map e98),.isl 3 1 (x.Env.Locals.Issued.map e3),.isl 117 3 (x.Env.Globals.Entries.map Ym),.isl 117 3 (x.Env.Weaks.Entries.map Ym),.isl 119 2 (x.Env.Pins.map YT),.isl 39 1 (x.Env.Roots.map e39),.v (.int .i64 x.World.Conf.PageWords),.v (.int .i64 x.World.Conf.Pages),.isl 165 4 (x.World.Things.map VZ),.isl 115 3 (x.World.Locals.Slots.map Zg),.isl 98 3 (x.World.Locals.Scopes.map e98),.isl 3 1 (x.World.Locals.Issued.map e3),.isl 117 3 (x.World.Globals.Entries.map Ym),.isl 117 3 (x.World.Weaks.Entries.map Ym),.isl 243 3 (x.World.Marks.map Xc4),.isl 39 1 (x.World.Roots.map e39),.isl 39 1 (x.Words.map e39)]
def e80 (x:Ww):List D:=[.v (.int .i64 x.Kind),.v (.int .i64 x.Length),.v (.int .u32 x.Map)]
def e4 (x:Bool):List D:=[.v (.bool x)]
def Xlr (x:Ud):List D:=[.v (.int .i64 x.Fault),.v (.int .i64 x.Page),.v (.int .u64 x.Addr)]
def e32 (x:Wq):List D:=[.isl 115 3 (x.Slots.map Zg),.isl 98 3 (x.Scopes.map e98),.isl 3 1 (x.Issued.map e3)]
def e35 (x:Wy):List D:=[.isl 117 3 (x.Entries.map Ym)]
def Kg (x:WV):List D:=[.v (.int .i64 x.Heap.Conf.PageWords),.v (.int .i64 x.Heap.Conf.Pages),.isl 39 1 (x.Heap.Words.map e39),.isl 175 4 (x.Heap.Pages.map XB),.v (.int .i64 x.Heap.Space),.v (.int .i64 x.Heap.Bump),.isl 39 1 (x.Old.map e39),.isl 3 1 (x.Taken.map e3),.isl 39 1 (x.Queue.map e39),.v (.int .i64 x.Scanned),.v (.int .i64 x.Report.Copied),.v (.int .i64 x.Report.Kept),.v (.int .i64 x.Report.Filled),.v (.int .i64 x.Report.Freed),.v (.int .i64 x.Report.Cleared),.v (.int .i64 x.Report.Steps)]
def Xc5 (x:IZ):List D:=[.v (.int .i64 x.From),.v (.int .i64 x.Len)]
def Xjx (x:Us):List D:=[.v (.int .i64 x.Copied),.v (.int .i64 x.Kept),.v (.int .i64 x.Filled),.v (.int .i64 x.Freed),.v (.int .i64 x.Cleared),.v (.int .i64 x.Steps)]
def e70 (x:UR):List D:=[.v (.int .i64 x.Tag),.v (.int .i64 x.Index),.v (.int .i64 x.Stamp)]
def XmB (x:I6):List D:=[.v (.bool x.Failed),.v (.bool x.Collected),.v (.int .u64 x.Base)]
def e65 (x:I4):List D:=[.v (.int .i64 x.Op),.v (.int .u64 x.A),.v (.int .u64 x.B),.v (.int .u64 x.C)]
def XoQ (x:Og):List D:=[.v (.int .i64 x.Heap.Conf.PageWords),.v (.int .i64 x.Heap.Conf.Pages),.isl 39 1 (x.Heap.Words.map e39),.isl 175 4 (x.Heap.Pages.map XB),.v (.int .i64 x.Heap.Space),.v (.int .i64 x.Heap.Bump),.isl 39 1 (x.Strong.map e39),.isl 39 1 (x.Weak.map e39)]
def Xeo (x:Wx):List D:=[.v (.int .i64 x.Kind),.v (.int .i64 x.Space),.v (.int .i64 x.Used),.v (.int .i64 x.Pins)]
def Kv (x:Uz):List D:=[.v (.int .u64 x.addr),.v (.int .i64 x.hd.Kind),.v (.int .i64 x.hd.Length),.v (.int .u32 x.hd.Map)]
def Xls (x:Ud):List D:=[.v (.int .i64 x.Fault),.v (.int .i64 x.Page),.v (.int .u64 x.Addr)]
def Xjy (x:Ii):List D:=[.isl 115 3 (x.Locals.Slots.map Zg),.isl 98 3 (x.Locals.Scopes.map e98),.isl 3 1 (x.Locals.Issued.map e3)]
def e24 (x:List Int):List D:=[.isl 39 1 (x.map e39)]
def XnP (x:I5):List D:=[.v (.int .i64 x.page),.v (.int .i64 x.offset)]
def Xg6 (x:IU):List D:=[.v (.int .i64 x.Width),.v (.int .u64 x.Value)]
attribute [go_sem] e3 e60 e23 e39 XB e27 Zg e98 Ym YT e38 VZ Xc4 e43 e45 e80 e4 Xlr e32 e35 Kg Xc5 Xjx e70 XmB e65 XoQ Xeo Kv Xls Xjy e24 XnP Xg6 Xfc Xlg Xk8 Xf2 Xen Xla Xek Xf3 Xel Xem Xld Xjm Xjq Xle Xlf Xlj Xmx Xjt Xlb Xlc Xjp Xjw Xjj Xli Xjk Xlh Xjl Xju Xjs Xjr Xjn Xk9 Xjo Xjv
theorem XnQ:Go.Proofs.Tryz.prog.follows .mixedOrders=true:=by kernel_rfl
def GW (G:Nat->Option (List D)):Prop:=G 0=some [.v (.int .i64 2),.v (.int .i64 16),.v (.int .i64 32)]
end Go.Sx
namespace Go.Sx
open Go.Proofs
theorem E:True:=trivial
theorem hd:True:=trivial
theorem hx3:True:=trivial
theorem hl3:True:=trivial
theorem hl4:True:=trivial
theorem XmC:True:=trivial
theorem XQ:True:=trivial
theorem Zt:True:=trivial
theorem Yd:True:=trivial
theorem Ye:True:=trivial
theorem Zd:True:=trivial
theorem ZG:True:=trivial
theorem XE:True:=trivial
theorem Ko:True:=trivial
theorem VB:True:=trivial
theorem Xjz:True:=trivial
theorem Xcd:True:=trivial
theorem hK:True:=trivial
theorem XnR {α:Type} {G:Prop} {a c:Int} {x y:Option α} {r:α} (h:(bif (a==c) then x else y)=some r) (f:a=c->x=some r->G) (g:¬ a=c->y=some r->G):G:=by
 by_cases e:a=c
 ·rw[beq_iff_eq.2 e] at h;exact f e h
 ·rw[Ix.2 e] at h;exact g e h
attribute [go_sem] Option.get!
structure Fn (n:Nat):Prop where
class OK {α:Type} (o:Option α) (f:outParam Nat) (a:outParam (List D)) (l:outParam (List Ob)) (e:outParam (α->D)) (l':outParam (α->List Ob)):Prop where
 h:∀ G,GW G->∀ r,o=some r->YR Tryz.prog G f a l (Eqs (e r) (l' r))
section
variable {α β:Type} {o:Option α} {k:α->Option β} {f:Nat} {a args:List D} {l:List Ob} {e:α->D} {l':α->List Ob} {G:Nat->Option (List D)} {r:β} {K:D->List Ob->Prop}
theorem OK.c [h:OK o f a l e l'] (hr:bnd o k=some r) (hw:GW G) (hf:Zb args a) (hK:∀ y,k y=some r->K (e y) (l' y)) (t:Prf args):CallG Tryz.prog G f args l K t :=
 XbB hr λ y hy hr=>CallG.ofE (h.h G hw y hy) hf (hK y hr) t
theorem IX [h:OK o f a l e l'] (hr:bnd o k=some r) (hw:GW G) (hf:Zb args a) (hK:∀ y,k y=some r->K (e y) (l' y)) (t:Prf args):CallD Tryz.prog G f args l K t :=
 XbB hr λ y hy hr=>CallD.ofE (h.h G hw y hy) hf (hK y hr) t
theorem rn (fn:Func) (rs:List ResultVar) (fr:List Nat) (nt:Nat)
 (hk:(Tryz.prog.funcs[f]?,fn.body,fn.name== "runtime.NumGoroutine",fn.results,fn.ntmps,a.length.ble nt)=(some fn,some (fn.body.get!),false,⟨rs⟩,nt,true))
 (h:∀ G,GW G->∀ r,o=some r->∀ (C:Cx) x,C.G=G->WfL Tryz.prog a->Fn f->run Tryz.prog (C.sub 0 x) (Ve Tryz.prog rs fr l.length (Eqs (e r) (l' r))) 1000 [.code (fn.body.get!)] (st0 a l nt)):OK o f a l e l':=by
 injection hk with h1 hk;injection hk with h2 hk;injection hk with h3 hk;injection hk with h4 hk;injection hk with h5 h6
 exact ⟨λ G hw r hr=>Yc 1000 fr nt h1 h2 h3 h4 h5 (Nat.le_of_ble_eq_true h6) λ C x hG hwf=>h G hw r hr C x hG hwf ⟨⟩⟩
end
def bm (b n:Nat):List Nat:=((List.range (n.log2+1)).filter λ i=>n / 2 ^ i % 2==1).map λ i=>i+b
theorem XmD {b n x:Nat}:(bm b n).contains x=(decide (b<=x)&&n / 2 ^ (x-b) % 2==1):=by
 rw[Bool.eq_iff_iff,U1,bm,UQ]
 simp only[UM,List.mem_range,beq_iff_eq,WC,decide_eq_true_eq]
 constructor
 ·rintro ⟨i,⟨h1,h2⟩,rfl⟩
  rw[Nat.add_sub_cancel]
  exact ⟨Nat.le_add_left _ _,h2⟩
 ·rintro ⟨h1,h3⟩
  refine ⟨x-b,⟨?_,h3⟩,Nat.sub_add_cancel h1⟩
  have hp:0<n / 2 ^ (x-b):=by
   rcases Ub (n / 2 ^ (x-b)) with h | h
   ·rw[h] at h3;cases h3
   ·exact h
  have hle:2 ^ (x-b)<=n:=by
   rcases Ul n (2 ^ (x-b)) with h | h
   ·rw[Nat.div_eq_of_lt h] at hp;cases hp
   ·exact h
  have hn:n≠0:=by
   rintro rfl
   have:=Nat.two_pow_pos (x-b)
   omega
  exact Nat.lt_succ_of_le ((Nat.le_log2 hn).2 hle)
theorem XnS {b n x:Nat} {p q:D}:(if (bm b n).contains x=true then p else q)=if x<b then q else if n / 2 ^ (x-b) % 2=1 then p else q:=by
 rw[XmD]
 by_cases h1:x<b
 ·rw[Wm h1,Wj (Nat.not_le.2 h1),Ui];rfl
 rw[Wk h1,Wi (Nat.not_lt.1 h1),WP]
 by_cases h3:n / 2 ^ (x-b) % 2=1
 ·rw[Wm h3,Wm (beq_iff_eq.2 h3)]
 ·rw[Wk h3,Wk (λ h=>h3 (beq_iff_eq.1 h))]
def XbA (b:Nat):Nat->List Oper->List (Nat×Nat×List (List Nat))->List En
 | i,o::l,(a,m,[])::x=>⟨i,o,bm 0 a,[],bm b m,[]⟩::XbA b (i+1) l x
 | i,o::l,(a,m,[w,k])::x=>⟨i,o,bm 0 a,w,bm b m,k⟩::XbA b (i+1) l x
 | _,[],[]=>[]
 | i,_,_=>[⟨i,⟨none,.assign (.tmp 0),0,"",#[],none⟩,[],[],[],[]⟩]
attribute [go_sem] XnS XbA
theorem db {C:Cx} {R:St->Prop} {k:List It} {st:St} {l:List Oper} (f id:Nat) (_:Fn f) (b:Nat) (aux:List (Nat×Nat×List (List Nat))) (ho:(XbA b 0 l aux).map (·.o)=l) (hi:(XbA b 0 l aux).map (·.i)=List.range (XbA b 0 l aux).length) (hc:XhD (XbA b 0 l aux)=true)
 (h:dr Tryz.prog C ⟨l⟩ st.k (XbA b 0 l aux) st λ st'=>run Tryz.prog C R 1000 k ⟨st'.t,st'.s,st'.n,st.k+(XbA b 0 l aux).length⟩) (t:Prf (⟨l⟩:Array Oper)) (hrd:C.rd=none:=by rfl):DrawnG Tryz.prog C R id ⟨l⟩ k st t :=
 DrawnG.of XnQ (XbA b 0 l aux) 1000 ho hi hc h t hrd
class El {α:Type} (x:Option α) (r:α) (K:outParam (Prop->Prop)):Prop where
 el:∀ {G:Prop},x=some r->K G->G
instance {α:Type} {p:Prop} [Decidable p] {x:Option α} {r:α}:El (grd p x) r λ G=>x=some r->p->G:=⟨λ h k=>XmJ h λ a b=>k b a⟩
instance {κ α:Type} {k:κ} {f:κ->Option α} {r:α}:El (jn k f) r λ G=>f k=some r->G:=⟨λ h k=>Xoa h k⟩
instance {α β γ:Type} {b:β} {f:α->Option γ} {k:β->Option γ} {r:γ}:El (exK (.nxt b) f k) r λ G=>k b=some r->G:=⟨λ h k=>XmK h k⟩
instance {α β γ:Type} {b:α} {f:α->Option γ} {k:β->Option γ} {r:γ}:El (exK (.ret b) f k) r λ G=>f b=some r->G:=⟨λ h k=>XmL h k⟩
instance {α:Type} {x y:Option α} {r:α}:El (bif true then x else y) r λ G=>x=some r->G:=⟨λ h k=>k h⟩
instance {α:Type} {x y:Option α} {r:α}:El (bif false then x else y) r λ G=>y=some r->G:=⟨λ h k=>k h⟩
instance {α:Type} {x y:Option α} {r:α}:El (bif !false then x else y) r λ G=>x=some r->G:=⟨λ h k=>k h⟩
instance {α:Type} {x y:Option α} {r:α}:El (bif !true then x else y) r λ G=>y=some r->G:=⟨λ h k=>k h⟩
theorem Xw {α:Type} {G:Prop} {b c:Bool} {x y:Option α} {r:α} (h:(bif b then x else y)=some r) (hb:b=c) (g:(bif c then x else y)=some r->G):G:=g (hb▸h)
theorem XoR:wI (-1) = -1:=by unfold wI;decide
theorem XnT:wI 1=1/\wI 2=2/\wI 3=3/\wI 4=4/\wI 5=5/\wI 6=6:=by unfold wI;decide
end Go.Sx
namespace Go.Sx
open Go.Proofs
set_option maxRecDepth 10000
theorem Xep {α:Type} {e:α->List D} {p:α->Prop}:∀ {es:List (List D)},(∀ x∈es,∃ y,x=e y/\p y)->∃ l:List α,es=l.map e/\∀ x∈l,p x
 | [],_=>⟨[],rfl,λ x h=>by cases h⟩
 | x::es,h=>by
  obtain ⟨y,rfl,hy⟩:=h x (by simp)
  obtain ⟨l,rfl,hl⟩:=Xep (e:=e) (p:=p) (es:=es) λ z hz=>h z (W9 _ hz)
  exact ⟨y::l,rfl,λ z hz=>by rcases UN.1 hz with rfl | hz;exact hy;exact hl z hz⟩
section
variable {P:Program} {t e:TypeId} {fs:List (Nat×Nat×Nat)} {a b s:Nat} {z:Value}
theorem XnU (m:Nat) (h:Xl P t=some ⟨a,b,z,.slice e s⟩) (ds:List D):Sh P (m+1) t ds=∃ es,ds=[.isl e (P.cellsOf e) es]/\es.length<=Xm/\es.length*P.bytesOf e<=Xm/\∀ x∈es,Sh P m e x:=by simp only[Sh,(XR h).1]
theorem XoS (h:Xl P t=some ⟨a,b,z,.int .u64⟩):∀ (m:Nat) (ds:List D),Sh P m t ds->∃ n,ds=[.v (.int .u64 n)]/\tU n
 | 0,_,h'=>h'.elim
 | m+1,ds,h'=>by
  simp only[Sh,J7 h] at h'
  obtain ⟨n,rfl,h1,h2⟩:=h'
  exact ⟨n,rfl,by unfold tU;rw[Xfq] at h1;rw[Xfr] at h2;exact ⟨h1,h2⟩⟩
theorem XmE (h:Xl P t=some ⟨a,b,z,.int .i64⟩):∀ (m:Nat) (ds:List D),Sh P m t ds->∃ n,ds=[.v (.int .i64 n)]/\True
 | 0,_,h'=>h'.elim
 | m+1,ds,h'=>by
  simp only[Sh,J7 h] at h'
  obtain ⟨n,rfl,h1,h2⟩:=h'
  exact ⟨n,rfl,trivial⟩
end
theorem XoT:Tryz.prog.cellsOf 3=1:=by kernel_rfl
theorem XnV (m:Nat) (x:List D) (h:Sh Tryz.prog m 3 x):∃ y:Int,x=e3 y/\True:=by
 obtain ⟨n,rfl,hp⟩:=XmE ty3 m x h
 exact ⟨n,rfl,trivial⟩
theorem XoV:∀ (m:Nat) (ds:List D),Sh Tryz.prog m 30 ds->∃ l:List Int,ds=[.isl 3 1 (l.map e3)]/\l.length*8<=Xm/\∀ x∈l,(λ _=>True) x
 | 0,_,h=>h.elim
 | m+1,ds,h=>by
  rw[show Sh Tryz.prog (m+1) 30 ds=_ from XnU m Xnl ds] at h
  obtain ⟨es,rfl,_,hb,hs⟩:=h
  obtain ⟨l,rfl,hl⟩:=Xep (p:=(λ _=>True)) (λ x hx=>XnV m x (hs x hx))
  exact ⟨l,by rw[XoT],by rw[Ug,Xfc] at hb;exact hb,hl⟩
end Go.Sx
namespace Go.Sx
open Go.Proofs
section
variable {α β:Type} {o:Option α} {y:α} {f:Nat} {a args:List D} {l:List Ob} {e:α->D} {l':α->List Ob} {G:Nat->Option (List D)} {K:D->List Ob->Prop}
theorem OK.t [h:OK o f a l e l'] (ho:o=some y) (hw:GW G) (hf:Zb args a) (hK:K (e y) (l' y)) (t:Prf args):CallG Tryz.prog G f args l K t:=CallG.ofE (h.h G hw y ho) hf hK t
theorem Oz [h:OK o f a l e l'] (ho:o=some y) (hw:GW G) (hf:Zb args a) (hK:K (e y) (l' y)) (t:Prf args):CallD Tryz.prog G f args l K t:=CallD.ofE (h.h G hw y ho) hf hK t
theorem OA {β:Type} {k:α->Option β} {r:β} {C:Cx} {s:Heap} {K':D->Prop} [h:OK o f a [] e l'] (hr:bnd o k=some r) (hw:GW G) (hG:C.G=G) (hro:RoA Tryz.prog C s args a) (hsc:∀ y,scal (e y)=true) (hK:∀ y,k y=some r->K' (e y)) (t:Prf args):Xlx Tryz.prog C s f args K' t :=
 XbB hr λ y hy hr=>⟨a,Eqs (e y) (l' y),hro,hG▸h.h G hw y hy,⟨_,_,rfl,rfl⟩,λ _ _ h1=>h1.1▸⟨hsc y,hK y hr⟩⟩
end
end Go.Sx
