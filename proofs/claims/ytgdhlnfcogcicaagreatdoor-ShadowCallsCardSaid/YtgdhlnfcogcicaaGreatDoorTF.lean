import Derived.KernelRfl
import Derived.Test.YtgdhlnfcogcicaaGreatDoorChecked
import Derived.Test.YtgdhlnfcogcicaaGreatDoorTB
import Derived.Test.YtgdhlnfcogcicaaGreatDoorTI
set_option linter.all false
namespace Go.Sx
open Go.Proofs
theorem ty3:Xt Tryz.prog 3=some ⟨1,8,(.int .i64 0),.int .i64⟩:=by kernel_rfl
theorem XfR:Tryz.prog.bytesOf 3=8:=by kernel_rfl
theorem ty4:Xt Tryz.prog 4=some ⟨1,1,(.bool false),.bool⟩:=by kernel_rfl
theorem Xnf:Tryz.prog.bytesOf 4=1:=by kernel_rfl
theorem Xog:Xt Tryz.prog 23=some ⟨2,16,(.agg #[(.int .i64 0),(.int .i64 0)]),.struct [(0,1,3),(1,1,3)]⟩:=by kernel_rfl
theorem XlF:Tryz.prog.bytesOf 23=16:=by kernel_rfl
theorem Xng:Yp Tryz.prog 23=some [some .i64,some .i64]:=by kernel_rfl
theorem Xoh:Xt Tryz.prog 24=some ⟨1,24,(.slice none 0 0),.slice 115 4⟩:=by kernel_rfl
theorem Xoi:Xt Tryz.prog 25=some ⟨1,24,(.slice none 0 0),.slice 210 3⟩:=by kernel_rfl
theorem Xoj:Xt Tryz.prog 26=some ⟨1,24,(.slice none 0 0),.slice 159 3⟩:=by kernel_rfl
theorem Xok:Xt Tryz.prog 27=some ⟨1,24,(.slice none 0 0),.slice 3 1⟩:=by kernel_rfl
theorem Xol:Xt Tryz.prog 29=some ⟨3,72,(.agg #[(.slice none 0 0),(.slice none 0 0),(.slice none 0 0)]),.struct [(0,1,25),(1,1,26),(2,1,27)]⟩:=by kernel_rfl
theorem XlG:Tryz.prog.bytesOf 29=72:=by kernel_rfl
theorem Xom:Xt Tryz.prog 30=some ⟨1,24,(.slice none 0 0),.slice 132 3⟩:=by kernel_rfl
theorem Xon:Xt Tryz.prog 32=some ⟨1,24,(.agg #[(.slice none 0 0)]),.struct [(0,1,30)]⟩:=by kernel_rfl
theorem XlH:Tryz.prog.bytesOf 32=24:=by kernel_rfl
theorem Xoo:Xt Tryz.prog 33=some ⟨1,24,(.slice none 0 0),.slice 96 3⟩:=by kernel_rfl
theorem Xop:Xt Tryz.prog 34=some ⟨1,24,(.slice none 0 0),.slice 37 1⟩:=by kernel_rfl
theorem XlI:Tryz.prog.bytesOf 34=24:=by kernel_rfl
theorem Xoq:Xt Tryz.prog 36=some ⟨10,208,(.agg #[(.int .i64 0),(.int .i64 0),(.slice none 0 0),(.slice none 0 0),(.slice none 0 0),(.slice none 0 0),(.slice none 0 0),(.slice none 0 0),(.slice none 0 0),(.slice none 0 0)]),.struct [(0,2,23),(2,1,24),(3,3,29),(6,1,32),(7,1,32),(8,1,33),(9,1,34)]⟩:=by kernel_rfl
theorem XlJ:Tryz.prog.bytesOf 36=208:=by kernel_rfl
theorem XfS:Xt Tryz.prog 37=some ⟨1,8,(.int .u64 0),.int .u64⟩:=by kernel_rfl
theorem Xa7:Tryz.prog.bytesOf 37=8:=by kernel_rfl
theorem Xor:Xt Tryz.prog 39=some ⟨3,16,(.agg #[(.bool false),(.bool false),(.int .u64 0)]),.struct [(0,1,4),(1,1,4),(2,1,37)]⟩:=by kernel_rfl
theorem XlK:Tryz.prog.bytesOf 39=16:=by kernel_rfl
theorem Xpw:Xt Tryz.prog 40=some ⟨1,24,(.slice none 0 0),.slice 306 4⟩:=by kernel_rfl
theorem Xpx:Xt Tryz.prog 42=some ⟨6,80,(.agg #[(.int .i64 0),(.int .i64 0),(.slice none 0 0),(.slice none 0 0),(.int .i64 0),(.int .i64 0)]),.struct [(0,2,23),(2,1,34),(3,1,40),(4,1,3),(5,1,3)]⟩:=by kernel_rfl
theorem XlL:Tryz.prog.bytesOf 42=80:=by kernel_rfl
theorem Xpy:Xt Tryz.prog 43=some ⟨1,24,(.slice none 0 0),.slice 229 2⟩:=by kernel_rfl
theorem Xpz:Xt Tryz.prog 45=some ⟨13,248,(.agg #[(.int .i64 0),(.int .i64 0),(.slice none 0 0),(.slice none 0 0),(.int .i64 0),(.int .i64 0),(.slice none 0 0),(.slice none 0 0),(.slice none 0 0),(.slice none 0 0),(.slice none 0 0),(.slice none 0 0),(.slice none 0 0)]),.struct [(0,6,42),(6,3,29),(9,1,32),(10,1,32),(11,1,43),(12,1,34)]⟩:=by kernel_rfl
theorem XlM:Tryz.prog.bytesOf 45=248:=by kernel_rfl
theorem XpA:Xt Tryz.prog 47=some ⟨24,480,(.agg #[(.int .i64 0),(.int .i64 0),(.slice none 0 0),(.slice none 0 0),(.int .i64 0),(.int .i64 0),(.slice none 0 0),(.slice none 0 0),(.slice none 0 0),(.slice none 0 0),(.slice none 0 0),(.slice none 0 0),(.slice none 0 0),(.int .i64 0),(.int .i64 0),(.slice none 0 0),(.slice none 0 0),(.slice none 0 0),(.slice none 0 0),(.slice none 0 0),(.slice none 0 0),(.slice none 0 0),(.slice none 0 0),(.slice none 0 0)]),.struct [(0,13,45),(13,10,36),(23,1,34)]⟩:=by kernel_rfl
theorem XlN:Tryz.prog.bytesOf 47=480:=by kernel_rfl
theorem XpB:Xt Tryz.prog 51=some ⟨2,32,(.agg #[(.slice none 0 0),(.int .i64 0)]),.struct [(0,1,27),(1,1,3)]⟩:=by kernel_rfl
theorem XlO:Tryz.prog.bytesOf 51=32:=by kernel_rfl
theorem XpC:Xt Tryz.prog 53=some ⟨4,32,(.agg #[(.int .i64 0),(.int .u64 0),(.int .u64 0),(.int .u64 0)]),.struct [(0,1,3),(1,1,37),(2,1,37),(3,1,37)]⟩:=by kernel_rfl
theorem XlP:Tryz.prog.bytesOf 53=32:=by kernel_rfl
theorem XpD:Xt Tryz.prog 58=some ⟨1,24,(.slice none 0 0),.slice 77 4⟩:=by kernel_rfl
theorem XpE:Xt Tryz.prog 59=some ⟨1,24,(.slice none 0 0),.slice 116 3⟩:=by kernel_rfl
theorem XpF:Xt Tryz.prog 61=some ⟨10,208,(.agg #[(.int .i64 0),(.int .i64 0),(.slice none 0 0),(.slice none 0 0),(.slice none 0 0),(.slice none 0 0),(.slice none 0 0),(.slice none 0 0),(.slice none 0 0),(.slice none 0 0)]),.struct [(0,2,23),(2,1,58),(3,3,29),(6,1,32),(7,1,32),(8,1,59),(9,1,34)]⟩:=by kernel_rfl
theorem XlQ:Tryz.prog.bytesOf 61=208:=by kernel_rfl
theorem XpG:Xt Tryz.prog 66=some ⟨3,16,(.agg #[(.bool false),(.bool false),(.int .u64 0)]),.struct [(0,1,4),(1,1,4),(2,1,37)]⟩:=by kernel_rfl
theorem XlR:Tryz.prog.bytesOf 66=16:=by kernel_rfl
theorem Xos:Xt Tryz.prog 73=some ⟨1,4,(.int .u32 0),.int .u32⟩:=by kernel_rfl
theorem Xot:Xt Tryz.prog 75=some ⟨3,24,(.agg #[(.int .i64 0),(.int .i64 0),(.int .u32 0)]),.struct [(0,1,3),(1,1,3),(2,1,73)]⟩:=by kernel_rfl
theorem XlS:Tryz.prog.bytesOf 75=24:=by kernel_rfl
theorem Xnh:Yp Tryz.prog 75=some [some .i64,some .i64,some .u32]:=by kernel_rfl
theorem XpH:Xt Tryz.prog 77=some ⟨4,48,(.agg #[(.int .i64 0),(.int .i64 0),(.int .u32 0),(.slice none 0 0)]),.struct [(0,3,75),(3,1,34)]⟩:=by kernel_rfl
theorem XdK:Tryz.prog.bytesOf 77=48:=by kernel_rfl
theorem XpI:Xt Tryz.prog 85=some ⟨1,24,(.slice none 0 0),.slice 4 1⟩:=by kernel_rfl
theorem Xou:Xt Tryz.prog 96=some ⟨3,24,(.agg #[(.int .u64 0),(.int .i64 0),(.int .u64 0)]),.struct [(0,1,37),(1,1,3),(2,1,37)]⟩:=by kernel_rfl
theorem XgT:Tryz.prog.bytesOf 96=24:=by kernel_rfl
theorem Xni:Yp Tryz.prog 96=some [some .u64,some .i64,some .u64]:=by kernel_rfl
theorem Xov:Xt Tryz.prog 107=some ⟨1,8,(.int .u64 0),.int .u64⟩:=by kernel_rfl
theorem Xmp:Xt Tryz.prog 115=some ⟨4,48,(.agg #[(.int .i64 0),(.int .i64 0),(.int .u32 0),(.slice none 0 0)]),.struct [(0,3,75),(3,1,34)]⟩:=by kernel_rfl
theorem XeY:Tryz.prog.bytesOf 115=48:=by kernel_rfl
theorem Xow:Xt Tryz.prog 116=some ⟨3,24,(.agg #[(.int .u64 0),(.int .i64 0),(.int .u64 0)]),.struct [(0,1,37),(1,1,3),(2,1,37)]⟩:=by kernel_rfl
theorem Xb8:Tryz.prog.bytesOf 116=24:=by kernel_rfl
theorem Xmq:Xt Tryz.prog 132=some ⟨3,24,(.agg #[(.int .i64 0),(.int .u64 0),(.bool false)]),.struct [(0,1,3),(1,1,37),(2,1,4)]⟩:=by kernel_rfl
theorem Xb9:Tryz.prog.bytesOf 132=24:=by kernel_rfl
theorem XlT:Yp Tryz.prog 132=some [some .i64,some .u64,none]:=by kernel_rfl
theorem Xox:Xt Tryz.prog 135=some ⟨1,8,(.map none),.other⟩:=by kernel_rfl
theorem Xmr:Xt Tryz.prog 159=some ⟨3,24,(.agg #[(.int .i64 0),(.int .i64 0),(.bool false)]),.struct [(0,1,3),(1,1,3),(2,1,4)]⟩:=by kernel_rfl
theorem Xca:Tryz.prog.bytesOf 159=24:=by kernel_rfl
theorem XlU:Yp Tryz.prog 159=some [some .i64,some .i64,none]:=by kernel_rfl
theorem Xoy:Xt Tryz.prog 161=some ⟨6,48,(.agg #[(.int .i64 0),(.int .i64 0),(.int .i64 0),(.int .i64 0),(.int .i64 0),(.int .i64 0)]),.struct [(0,1,3),(1,1,3),(2,1,3),(3,1,3),(4,1,3),(5,1,3)]⟩:=by kernel_rfl
theorem Xj3:Tryz.prog.bytesOf 161=48:=by kernel_rfl
theorem Xoz:Xt Tryz.prog 166=some ⟨1,8,.nilFunc,.other⟩:=by kernel_rfl
theorem XoA:Xt Tryz.prog 168=some ⟨1,8,(.agg #[.nilFunc]),.struct [(0,1,166)]⟩:=by kernel_rfl
theorem XoB:Xt Tryz.prog 173=some ⟨14,240,(.agg #[(.int .i64 0),(.int .i64 0),(.slice none 0 0),(.slice none 0 0),(.slice none 0 0),(.slice none 0 0),(.slice none 0 0),(.slice none 0 0),(.slice none 0 0),(.slice none 0 0),(.int .u64 0),(.int .u64 0),(.int .u64 0),(.bool false)]),.struct [(0,10,61),(10,1,37),(11,1,37),(12,1,37),(13,1,4)]⟩:=by kernel_rfl
theorem Xj4:Tryz.prog.bytesOf 173=240:=by kernel_rfl
theorem XoC:Xt Tryz.prog 193=some ⟨3,24,(.agg #[(.int .i64 0),(.int .i64 0),(.int .i64 0)]),.struct [(0,1,3),(1,1,3),(2,1,3)]⟩:=by kernel_rfl
theorem Xj5:Tryz.prog.bytesOf 193=24:=by kernel_rfl
theorem Xms:Xt Tryz.prog 210=some ⟨3,24,(.agg #[(.int .i64 0),(.int .u64 0),(.bool false)]),.struct [(0,1,3),(1,1,37),(2,1,4)]⟩:=by kernel_rfl
theorem Xcb:Tryz.prog.bytesOf 210=24:=by kernel_rfl
theorem XlV:Yp Tryz.prog 210=some [some .i64,some .u64,none]:=by kernel_rfl
theorem XoD:Xt Tryz.prog 214=some ⟨1,24,(.slice none 0 0),.slice 34 1⟩:=by kernel_rfl
theorem XoE:Xt Tryz.prog 229=some ⟨2,16,(.agg #[(.int .u64 0),(.int .i64 0)]),.struct [(0,1,37),(1,1,3)]⟩:=by kernel_rfl
theorem Xj6:Tryz.prog.bytesOf 229=16:=by kernel_rfl
theorem XoF:Xt Tryz.prog 255=some ⟨3,72,(.agg #[(.slice none 0 0),(.slice none 0 0),(.slice none 0 0)]),.struct [(0,3,29)]⟩:=by kernel_rfl
theorem Xj7:Tryz.prog.bytesOf 255=72:=by kernel_rfl
theorem XoG:Xt Tryz.prog 265=some ⟨16,208,(.agg #[(.int .i64 0),(.int .i64 0),(.slice none 0 0),(.slice none 0 0),(.int .i64 0),(.int .i64 0),(.slice none 0 0),(.slice none 0 0),(.slice none 0 0),(.int .i64 0),(.int .i64 0),(.int .i64 0),(.int .i64 0),(.int .i64 0),(.int .i64 0),(.int .i64 0)]),.struct [(0,6,42),(6,1,34),(7,1,27),(8,1,34),(9,1,3),(10,6,161)]⟩:=by kernel_rfl
theorem Xj8:Tryz.prog.bytesOf 265=208:=by kernel_rfl
theorem XoH:Xt Tryz.prog 287=some ⟨3,24,(.agg #[(.int .i64 0),(.int .i64 0),(.int .i64 0)]),.array 3 3 1⟩:=by kernel_rfl
theorem XoI:Xt Tryz.prog 289=some ⟨1,24,(.slice none 0 0),.slice 291 2⟩:=by kernel_rfl
theorem XoJ:Xt Tryz.prog 291=some ⟨2,16,(.agg #[(.int .i64 0),(.int .u64 0)]),.struct [(0,1,3),(1,1,37)]⟩:=by kernel_rfl
theorem Xj9:Tryz.prog.bytesOf 291=16:=by kernel_rfl
theorem XoK:Xt Tryz.prog 306=some ⟨4,32,(.agg #[(.int .i64 0),(.int .i64 0),(.int .i64 0),(.int .i64 0)]),.struct [(0,1,3),(1,1,3),(2,1,3),(3,1,3)]⟩:=by kernel_rfl
theorem Xka:Tryz.prog.bytesOf 306=32:=by kernel_rfl
theorem XlW:Yp Tryz.prog 306=some [some .i64,some .i64,some .i64,some .i64]:=by kernel_rfl
theorem XoL:Xt Tryz.prog 327=some ⟨1,8,(.map none),.other⟩:=by kernel_rfl
theorem XoM:Xt Tryz.prog 330=some ⟨3,24,(.agg #[(.int .i64 0),(.int .i64 0),(.int .u64 0)]),.struct [(0,1,3),(1,1,3),(2,1,37)]⟩:=by kernel_rfl
theorem Xkb:Tryz.prog.bytesOf 330=24:=by kernel_rfl
theorem XlX:Yp Tryz.prog 330=some [some .i64,some .i64,some .u64]:=by kernel_rfl
theorem XoN:Xt Tryz.prog 356=some ⟨1,24,(.slice none 0 0),.slice 359 2⟩:=by kernel_rfl
theorem XoO:Xt Tryz.prog 359=some ⟨2,16,(.agg #[(.int .i64 0),(.int .i64 0)]),.struct [(0,1,3),(1,1,3)]⟩:=by kernel_rfl
theorem Xkc:Tryz.prog.bytesOf 359=16:=by kernel_rfl
attribute [go_sem] ty3 ty4 Xog Xng Xoh Xoi Xoj Xok Xol Xom Xon Xoo Xop Xoq XfS Xor Xpw Xpx Xpy Xpz XpA XpB XpC XpD XpE XpF XpG Xos Xot Xnh XpH XpI Xou Xni Xov Xmp Xow Xmq XlT Xox Xmr XlU Xoy Xoz XoA XoB XoC Xms XlV XoD XoE XoF XoG XoH XoI XoJ XoK XlW XoL XoM XlX XoN XoO
end Go.Sx
namespace Go.Sx
attribute [go_sem] zWd zHp
def e3 (x:Int):List D:=[.v (.int .i64 x)]
def e51 (x:Ir):List D:=[.isl 3 1 (x.L.map e3),.v (.int .i64 x.at_)]
def e37 (x:Int):List D:=[.v (.int .u64 x)]
def Ym (x:W4):List D:=[.v (.int .i64 x.Kind),.v (.int .i64 x.Space),.v (.int .i64 x.Used),.v (.int .i64 x.Pins)]
def X4 (x:UR):List D:=[.v (.int .i64 x.Stamp),.v (.int .u64 x.Ref),.v (.bool x.Live)]
def X9 (x:UV):List D:=[.v (.int .i64 x.From),.v (.int .i64 x.Cap),.v (.bool x.Base)]
def XC (x:WP):List D:=[.v (.int .i64 x.Gen),.v (.int .u64 x.Ref),.v (.bool x.Live)]
def JA (x:II):List D:=[.v (.int .u64 x.Ref),.v (.int .i64 x.Count)]
def KG (x:W5):List D:=[.v (.int .i64 x.Header.Kind),.v (.int .i64 x.Header.Length),.v (.int .u32 x.Header.Map),.isl 37 1 (x.Fields.map e37)]
def e96 (x:Uz):List D:=[.v (.int .u64 x.Id),.v (.int .i64 x.Count),.v (.int .u64 x.Base)]
def e47 (x:IL):List D:=[.v (.int .i64 x.Env.Heap.Conf.PageWords),.v (.int .i64 x.Env.Heap.Conf.Pages),.isl 37 1 (x.Env.Heap.Words.map e37),.isl 306 4 (x.Env.Heap.Pages.map Ym),.v (.int .i64 x.Env.Heap.Space),.v (.int .i64 x.Env.Heap.Bump),.isl 210 3 (x.Env.Locals.Slots.map X4),.isl 159 3 (x.Env.Locals.Scopes.map X9),.isl 3 1 (x.Env.Locals.Issued.map e3),.isl 132 3 (x.Env.Globals.Entries.map XC),.isl 132 3 (x.Env.Weaks.Entries.map XC),.isl 229 2 (x.Env.Pins.map JA),.isl 37 1 (x.Env.Roots.map e37),.v (.int .i64 x.World.Conf.PageWords),.v (.int .i64 x.World.Conf.Pages),.isl 115 4 (x.World.Things.map KG),.isl 210 3 (x.World.Locals.Slots.map X4),.isl 159 3 (x.World.Locals.Scopes.map X9),.isl 3 1 (x.World.Locals.Issued.map e3),.isl 132 3 (x.World.Globals.Entries.map XC),.isl 132 3 (x.World.Weaks.Entries.map XC),.isl 96 3 (x.World.Marks.map e96),.isl 37 1 (x.World.Roots.map e37),.isl 37 1 (x.Words.map e37)]
def e53 (x:I4):List D:=[.v (.int .i64 x.Op),.v (.int .u64 x.A),.v (.int .u64 x.B),.v (.int .u64 x.C)]
def e23 (x:Ut):List D:=[.v (.int .i64 x.PageWords),.v (.int .i64 x.Pages)]
def e36 (x:Wm):List D:=[.v (.int .i64 x.Conf.PageWords),.v (.int .i64 x.Conf.Pages),.isl 115 4 (x.Things.map KG),.isl 210 3 (x.Locals.Slots.map X4),.isl 159 3 (x.Locals.Scopes.map X9),.isl 3 1 (x.Locals.Issued.map e3),.isl 132 3 (x.Globals.Entries.map XC),.isl 132 3 (x.Weaks.Entries.map XC),.isl 96 3 (x.Marks.map e96),.isl 37 1 (x.Roots.map e37)]
def e42 (x:Wz):List D:=[.v (.int .i64 x.Conf.PageWords),.v (.int .i64 x.Conf.Pages),.isl 37 1 (x.Words.map e37),.isl 306 4 (x.Pages.map Ym),.v (.int .i64 x.Space),.v (.int .i64 x.Bump)]
def e45 (x:UX):List D:=[.v (.int .i64 x.Heap.Conf.PageWords),.v (.int .i64 x.Heap.Conf.Pages),.isl 37 1 (x.Heap.Words.map e37),.isl 306 4 (x.Heap.Pages.map Ym),.v (.int .i64 x.Heap.Space),.v (.int .i64 x.Heap.Bump),.isl 210 3 (x.Locals.Slots.map X4),.isl 159 3 (x.Locals.Scopes.map X9),.isl 3 1 (x.Locals.Issued.map e3),.isl 132 3 (x.Globals.Entries.map XC),.isl 132 3 (x.Weaks.Entries.map XC),.isl 229 2 (x.Pins.map JA),.isl 37 1 (x.Roots.map e37)]
def e32 (x:WC):List D:=[.isl 132 3 (x.Entries.map XC)]
def e75 (x:WE):List D:=[.v (.int .i64 x.Kind),.v (.int .i64 x.Length),.v (.int .u32 x.Map)]
def e29 (x:Ws):List D:=[.isl 210 3 (x.Slots.map X4),.isl 159 3 (x.Scopes.map X9),.isl 3 1 (x.Issued.map e3)]
def e4 (x:Bool):List D:=[.v (.bool x)]
def XfT (x:UI):List D:=[.v (.int .i64 x.Tag),.v (.int .i64 x.Index),.v (.int .i64 x.Stamp)]
def e39 (x:UH):List D:=[.v (.bool x.Failed),.v (.bool x.Collected),.v (.int .u64 x.Base)]
def XlY (x:If):List D:=[.v (.int .i64 x.Fault),.v (.int .i64 x.Page),.v (.int .u64 x.Addr)]
def KH (x:W9):List D:=[.v (.int .i64 x.Heap.Conf.PageWords),.v (.int .i64 x.Heap.Conf.Pages),.isl 37 1 (x.Heap.Words.map e37),.isl 306 4 (x.Heap.Pages.map Ym),.v (.int .i64 x.Heap.Space),.v (.int .i64 x.Heap.Bump),.isl 37 1 (x.Old.map e37),.isl 3 1 (x.Taken.map e3),.isl 37 1 (x.Queue.map e37),.v (.int .i64 x.Scanned),.v (.int .i64 x.Report.Copied),.v (.int .i64 x.Report.Kept),.v (.int .i64 x.Report.Filled),.v (.int .i64 x.Report.Freed),.v (.int .i64 x.Report.Cleared),.v (.int .i64 x.Report.Steps)]
def XhS (x:OP):List D:=[.v (.int .i64 x.From),.v (.int .i64 x.Len)]
def Xkd (x:UL):List D:=[.v (.int .i64 x.Copied),.v (.int .i64 x.Kept),.v (.int .i64 x.Filled),.v (.int .i64 x.Freed),.v (.int .i64 x.Cleared),.v (.int .i64 x.Steps)]
def e34 (x:List Int):List D:=[.isl 37 1 (x.map e37)]
def XfU (x:IP):List D:=[.isl 210 3 (x.Locals.Slots.map X4),.isl 159 3 (x.Locals.Scopes.map X9),.isl 3 1 (x.Locals.Issued.map e3)]
def e77 (x:W5):List D:=[.v (.int .i64 x.Header.Kind),.v (.int .i64 x.Header.Length),.v (.int .u32 x.Header.Map),.isl 37 1 (x.Fields.map e37)]
def Yv (x:Uz):List D:=[.v (.int .u64 x.Id),.v (.int .i64 x.Count),.v (.int .u64 x.Base)]
def e61 (x:Wm):List D:=[.v (.int .i64 x.Conf.PageWords),.v (.int .i64 x.Conf.Pages),.isl 77 4 (x.Things.map e77),.isl 210 3 (x.Locals.Slots.map X4),.isl 159 3 (x.Locals.Scopes.map X9),.isl 3 1 (x.Locals.Issued.map e3),.isl 132 3 (x.Globals.Entries.map XC),.isl 132 3 (x.Weaks.Entries.map XC),.isl 116 3 (x.Marks.map Yv),.isl 37 1 (x.Roots.map e37)]
def Kh (x:UQ):List D:=[.v (.int .i64 x.World.Conf.PageWords),.v (.int .i64 x.World.Conf.Pages),.isl 77 4 (x.World.Things.map e77),.isl 210 3 (x.World.Locals.Slots.map X4),.isl 159 3 (x.World.Locals.Scopes.map X9),.isl 3 1 (x.World.Locals.Issued.map e3),.isl 132 3 (x.World.Globals.Entries.map XC),.isl 132 3 (x.World.Weaks.Entries.map XC),.isl 116 3 (x.World.Marks.map Yv),.isl 37 1 (x.World.Roots.map e37),.v (.int .u64 x.a),.v (.int .u64 x.b),.v (.int .u64 x.c),.v (.bool x.failed)]
def e66 (x:UH):List D:=[.v (.bool x.Failed),.v (.bool x.Collected),.v (.int .u64 x.Base)]
def XhT (x:IB):List D:=[.v (.int .i64 x.Width),.v (.int .u64 x.Value)]
attribute [go_sem] e3 e51 e37 Ym X4 X9 XC JA KG e96 e47 e53 e23 e36 e42 e45 e32 e75 e29 e4 XfT e39 XlY KH XhS Xkd e34 XfU e77 Yv e61 Kh e66 XhT XfR XlO Xa7 Xka Xcb Xca Xb9 Xj6 XeY XgT XlN XlP XlF XlJ XlL XlM XlH XlS XlG Xnf Xj5 XlK Xkb Xj8 Xkc Xj3 XlI Xj7 XdK Xb8 XlQ Xj4 XlR Xj9
theorem Xmt:Go.Proofs.Tryz.prog.follows .mixedOrders=true:=by kernel_rfl
def GW (G:Nat->Option (List D)):Prop:=G 0=some [.v (.int .i64 2),.v (.int .i64 16),.v (.int .i64 32)]
end Go.Sx
namespace Go.Sx
open Go.Proofs
theorem E:True:=trivial
theorem hd:True:=trivial
theorem hx3:True:=trivial
theorem hl3:True:=trivial
theorem hl4:True:=trivial
theorem Xnj:True:=trivial
theorem Xnk:True:=trivial
theorem XhU:True:=trivial
theorem XQ:True:=trivial
theorem Xnl:True:=trivial
theorem XhV:True:=trivial
theorem Y5:True:=trivial
theorem Jg:True:=trivial
theorem YR:True:=trivial
theorem Xc1:True:=trivial
theorem ZA:True:=trivial
theorem Xke:True:=trivial
theorem Yw:True:=trivial
theorem YU:True:=trivial
theorem Yx:True:=trivial
theorem KI:True:=trivial
theorem Xkf:True:=trivial
theorem Yn:True:=trivial
theorem Xc2:True:=trivial
attribute [go_sem] Option.get!
structure Fn (n:Nat):Prop where
class OK {α:Type} (o:Option α) (f:outParam Nat) (a:outParam (List D)) (l:outParam (List Ob)) (e:outParam (α->D)) (l':outParam (α->List Ob)):Prop where
 h:∀ G,GW G->∀ r,o=some r->YF Tryz.prog G f a l (Eqs (e r) (l' r))
section
variable {α β:Type} {o:Option α} {k:α->Option β} {f:Nat} {a args:List D} {l:List Ob} {e:α->D} {l':α->List Ob} {G:Nat->Option (List D)} {r:β} {K:D->List Ob->Prop}
theorem OK.c [h:OK o f a l e l'] (hr:bnd o k=some r) (hw:GW G) (hf:Zv args a) (hK:∀ y,k y=some r->K (e y) (l' y)) (t:Prf args):CallG Tryz.prog G f args l K t :=
 Jx hr λ y hy hr=>CallG.ofE (h.h G hw y hy) hf (hK y hr) t
theorem Oy [h:OK o f a l e l'] (hr:bnd o k=some r) (hw:GW G) (hf:Zv args a) (hK:∀ y,k y=some r->K (e y) (l' y)) (t:Prf args):CallD Tryz.prog G f args l K t :=
 Jx hr λ y hy hr=>CallD.ofE (h.h G hw y hy) hf (hK y hr) t
theorem rn (fn:Func) (rs:List ResultVar) (fr:List Nat) (nt:Nat)
 (hk:(Tryz.prog.funcs[f]?,fn.body,fn.name== "runtime.NumGoroutine",fn.results,fn.ntmps,a.length.ble nt)=(some fn,some (fn.body.get!),false,⟨rs⟩,nt,true))
 (h:∀ G,GW G->∀ r,o=some r->∀ (C:Cx) x,C.G=G->WfL Tryz.prog a->Fn f->run Tryz.prog (C.sub 0 x) (Xck Tryz.prog rs fr l.length (Eqs (e r) (l' r))) 1000 [.code (fn.body.get!)] (st0 a l nt)):OK o f a l e l':=by
 injection hk with h1 hk;injection hk with h2 hk;injection hk with h3 hk;injection hk with h4 hk;injection hk with h5 h6
 exact ⟨λ G hw r hr=>X6 1000 fr nt h1 h2 h3 h4 h5 (Nat.le_of_ble_eq_true h6) λ C x hG hwf=>h G hw r hr C x hG hwf ⟨⟩⟩
end
def bm (b n:Nat):List Nat:=((List.range (n.log2+1)).filter λ i=>n / 2 ^ i % 2==1).map λ i=>i+b
theorem Xnm {b n x:Nat}:(bm b n).contains x=(decide (b<=x)&&n / 2 ^ (x-b) % 2==1):=by
 rw[Bool.eq_iff_iff,List.contains_iff_mem,bm,W8]
 simp only[Uq,Oi,beq_iff_eq,WG,decide_eq_true_eq]
 constructor
 ·rintro ⟨i,⟨h1,h2⟩,rfl⟩
  rw[Nat.add_sub_cancel]
  exact ⟨Nat.le_add_left _ _,h2⟩
 ·rintro ⟨h1,h3⟩
  refine ⟨x-b,⟨?_,h3⟩,Nat.sub_add_cancel h1⟩
  have hp:0<n / 2 ^ (x-b):=by
   rcases Us (n / 2 ^ (x-b)) with h | h
   ·rw[h] at h3;cases h3
   ·exact h
  have hle:2 ^ (x-b)<=n:=by
   rcases Uk n (2 ^ (x-b)) with h | h
   ·rw[Nat.div_eq_of_lt h] at hp;cases hp
   ·exact h
  have hn:n≠0:=by
   rintro rfl
   have:=Nat.two_pow_pos (x-b)
   omega
  exact Nat.lt_succ_of_le ((Nat.le_log2 hn).2 hle)
theorem XoP {b n x:Nat} {p q:D}:(if (bm b n).contains x=true then p else q)=if x<b then q else if n / 2 ^ (x-b) % 2=1 then p else q:=by
 rw[Xnm]
 by_cases h1:x<b
 ·rw[Wn h1,Wl (Nat.not_le.2 h1),UC];rfl
 rw[Wh h1,Wo (Nat.not_lt.1 h1),WN]
 by_cases h3:n / 2 ^ (x-b) % 2=1
 ·rw[Wn h3,Wn (beq_iff_eq.2 h3)]
 ·rw[Wh h3,Wh (λ h=>h3 (beq_iff_eq.1 h))]
def JZ (b:Nat):Nat->List Oper->List (Nat×Nat×List (List Nat))->List En
 | i,o::l,(a,m,[])::x=>⟨i,o,bm 0 a,[],bm b m,[]⟩::JZ b (i+1) l x
 | i,o::l,(a,m,[w,k])::x=>⟨i,o,bm 0 a,w,bm b m,k⟩::JZ b (i+1) l x
 | _,_,_=>[]
attribute [go_sem] XoP JZ
theorem db {C:Cx} {R:St->Prop} {k:List It} {st:St} {l:List Oper} (f id:Nat) (_:Fn f) (b:Nat) (aux:List (Nat×Nat×List (List Nat))) (ho:(JZ b 0 l aux).map (·.o)=l) (hi:(JZ b 0 l aux).map (·.i)=List.range (JZ b 0 l aux).length) (hc:Xfm (JZ b 0 l aux)=true)
 (h:dr Tryz.prog C ⟨l⟩ st.k (JZ b 0 l aux) st λ st'=>run Tryz.prog C R 1000 k ⟨st'.t,st'.s,st'.n,st.k+(JZ b 0 l aux).length⟩) (t:Prf (⟨l⟩:Array Oper)):DrawnG Tryz.prog C R id ⟨l⟩ k st t :=
 DrawnG.of Xmt (JZ b 0 l aux) 1000 ho hi hc h t
class El {α:Type} (x:Option α) (r:α) (K:outParam (Prop->Prop)):Prop where
 el:∀ {G:Prop},x=some r->K G->G
instance {α:Type} {p:Prop} [Decidable p] {x:Option α} {r:α}:El (grd p x) r λ G=>x=some r->p->G:=⟨λ h k=>XnH h λ a b=>k b a⟩
instance {κ α:Type} {k:κ} {f:κ->Option α} {r:α}:El (jn k f) r λ G=>f k=some r->G:=⟨λ h k=>Xpi h k⟩
instance {α β γ:Type} {b:β} {f:α->Option γ} {k:β->Option γ} {r:γ}:El (exK (.nxt b) f k) r λ G=>k b=some r->G:=⟨λ h k=>XnI h k⟩
instance {α β γ:Type} {b:α} {f:α->Option γ} {k:β->Option γ} {r:γ}:El (exK (.ret b) f k) r λ G=>f b=some r->G:=⟨λ h k=>XnJ h k⟩
instance {α:Type} {x y:Option α} {r:α}:El (bif true then x else y) r λ G=>x=some r->G:=⟨λ h k=>k h⟩
instance {α:Type} {x y:Option α} {r:α}:El (bif false then x else y) r λ G=>y=some r->G:=⟨λ h k=>k h⟩
instance {α:Type} {x y:Option α} {r:α}:El (bif !false then x else y) r λ G=>x=some r->G:=⟨λ h k=>k h⟩
instance {α:Type} {x y:Option α} {r:α}:El (bif !true then x else y) r λ G=>y=some r->G:=⟨λ h k=>k h⟩
theorem Xz {α:Type} {G:Prop} {b c:Bool} {x y:Option α} {r:α} (h:(bif b then x else y)=some r) (hb:b=c) (g:(bif c then x else y)=some r->G):G:=g (hb▸h)
theorem XeZ:wI 1=1/\wI 2=2/\wI 3=3/\wI 4=4/\wI 5=5/\wI 6=6:=by unfold wI;decide
end Go.Sx
namespace Go.Sx
open Go.Proofs
set_option maxRecDepth 10000
theorem Z1 {α:Type} {e:α->List D} {p:α->Prop}:∀ {es:List (List D)},(∀ x∈es,∃ y,x=e y/\p y)->∃ l:List α,es=l.map e/\∀ x∈l,p x
 | [],_=>⟨[],rfl,λ x h=>by cases h⟩
 | x::es,h=>by
  obtain ⟨y,rfl,hy⟩:=h x (by simp)
  obtain ⟨l,rfl,hl⟩:=Z1 (e:=e) (p:=p) (es:=es) λ z hz=>h z (Ud _ hz)
  exact ⟨y::l,rfl,λ z hz=>by rcases UN.1 hz with rfl | hz;exact hy;exact hl z hz⟩
section
variable {P:Program} {t e:TypeId} {fs:List (Nat×Nat×Nat)} {a b s:Nat} {z:Value}
theorem Xcc (m:Nat) (h:Xt P t=some ⟨a,b,z,.slice e s⟩) (ds:List D):Sh P (m+1) t ds=∃ es,ds=[.isl e (P.cellsOf e) es]/\es.length<=Xn/\es.length*P.bytesOf e<=Xn/\∀ x∈es,Sh P m e x:=by simp only[Sh,(X7 h).1]
theorem J0 (m:Nat) (h:Xt P t=some ⟨a,b,z,.struct fs⟩) (ds:List D):Sh P (m+1) t ds=ShF (Sh P m) (fs.map (·.2.2)) ds:=by
 obtain ⟨fields,h1,h2,_⟩:=ZQ h
 simp only[Sh,h1]
 rw[h2,OG]
 rfl
theorem XaD (h:Xt P t=some ⟨a,b,z,.int .u64⟩):∀ (m:Nat) (ds:List D),Sh P m t ds->∃ n,ds=[.v (.int .u64 n)]/\tU n
 | 0,_,h'=>h'.elim
 | m+1,ds,h'=>by
  simp only[Sh,J1 h] at h'
  obtain ⟨n,rfl,h1,h2⟩:=h'
  exact ⟨n,rfl,by unfold tU;rw[Xf9] at h1;rw[Xga] at h2;exact ⟨h1,h2⟩⟩
theorem Xnn (h:Xt P t=some ⟨a,b,z,.int .u32⟩):∀ (m:Nat) (ds:List D),Sh P m t ds->∃ n,ds=[.v (.int .u32 n)]/\tW n
 | 0,_,h'=>h'.elim
 | m+1,ds,h'=>by
  simp only[Sh,J1 h] at h'
  obtain ⟨n,rfl,h1,h2⟩:=h'
  exact ⟨n,rfl,by unfold tW;rw[Xf7] at h1;rw[Xf8] at h2;exact ⟨h1,h2⟩⟩
theorem KT (h:Xt P t=some ⟨a,b,z,.int .i64⟩):∀ (m:Nat) (ds:List D),Sh P m t ds->∃ n,ds=[.v (.int .i64 n)]/\True
 | 0,_,h'=>h'.elim
 | m+1,ds,h'=>by
  simp only[Sh,J1 h] at h'
  obtain ⟨n,rfl,h1,h2⟩:=h'
  exact ⟨n,rfl,trivial⟩
theorem Xaf (h:Xt P t=some ⟨a,b,z,.bool⟩):∀ (m:Nat) (ds:List D),Sh P m t ds->∃ b,ds=[.v (.bool b)]/\True
 | 0,_,h'=>h'.elim
 | m+1,ds,h'=>by
  simp only[Sh,XdN h] at h'
  obtain ⟨n,rfl⟩:=h'
  exact ⟨n,rfl,trivial⟩
end
theorem XpJ:Tryz.prog.cellsOf 3=1:=by kernel_rfl
theorem XoQ:Tryz.prog.cellsOf 37=1:=by kernel_rfl
theorem XoR:Tryz.prog.cellsOf 96=3:=by kernel_rfl
theorem Xno:Tryz.prog.cellsOf 115=4:=by kernel_rfl
theorem Xnp:Tryz.prog.cellsOf 132=3:=by kernel_rfl
theorem Xnq:Tryz.prog.cellsOf 159=3:=by kernel_rfl
theorem Xnr:Tryz.prog.cellsOf 210=3:=by kernel_rfl
theorem XoS:∀ (m:Nat) (ds:List D),Sh Tryz.prog m 23 ds->∃ x:Ut,ds=e23 x/\True
 | 0,_,h=>h.elim
 | m+1,ds,h=>by
  rw[show Sh Tryz.prog (m+1) 23 ds=_ from J0 m Xog ds] at h
  simp only[WV,UO,ShF] at h
  obtain ⟨c0,_,rfl,s0,⟨c1,_,rfl,s1,rfl⟩⟩:=h
  obtain ⟨x0,rfl,p0⟩:=KT ty3 _ _ s0
  obtain ⟨x1,rfl,p1⟩:=KT ty3 _ _ s1
  exact ⟨⟨x0,x1⟩,rfl,trivial⟩
theorem XoT:∀ (m:Nat) (ds:List D),Sh Tryz.prog m 75 ds->∃ x:WE,ds=e75 x/\Y3 x
 | 0,_,h=>h.elim
 | m+1,ds,h=>by
  rw[show Sh Tryz.prog (m+1) 75 ds=_ from J0 m Xot ds] at h
  simp only[WV,UO,ShF] at h
  obtain ⟨c0,_,rfl,s0,⟨c1,_,rfl,s1,⟨c2,_,rfl,s2,rfl⟩⟩⟩:=h
  obtain ⟨x0,rfl,p0⟩:=KT ty3 _ _ s0
  obtain ⟨x1,rfl,p1⟩:=KT ty3 _ _ s1
  obtain ⟨x2,rfl,p2⟩:=Xnn Xos _ _ s2
  exact ⟨⟨x0,x1,x2⟩,rfl,p2⟩
theorem Xns (m:Nat) (x:List D) (h:Sh Tryz.prog m 37 x):∃ y:Int,x=e37 y/\tU y:=by
 obtain ⟨n,rfl,hp⟩:=XaD XfS m x h
 exact ⟨n,rfl,hp⟩
theorem Xmu:∀ (m:Nat) (ds:List D),Sh Tryz.prog m 34 ds->∃ l:List Int,ds=[.isl 37 1 (l.map e37)]/\l.length*8<=Xn/\∀ x∈l,(λ x=>tU x) x
 | 0,_,h=>h.elim
 | m+1,ds,h=>by
  rw[show Sh Tryz.prog (m+1) 34 ds=_ from Xcc m Xop ds] at h
  obtain ⟨es,rfl,_,hb,hs⟩:=h
  obtain ⟨l,rfl,hl⟩:=Z1 (p:=(λ x=>tU x)) (λ x hx=>Xns m x (hs x hx))
  exact ⟨l,by rw[XoQ],by rw[Wt,Xa7] at hb;exact hb,hl⟩
theorem Xnt:∀ (m:Nat) (ds:List D),Sh Tryz.prog m 115 ds->∃ x:W5,ds=KG x/\YC x
 | 0,_,h=>h.elim
 | m+1,ds,h=>by
  rw[show Sh Tryz.prog (m+1) 115 ds=_ from J0 m Xmp ds] at h
  simp only[WV,UO,ShF] at h
  obtain ⟨c0,_,rfl,s0,⟨c1,_,rfl,s1,rfl⟩⟩:=h
  obtain ⟨x0,rfl,p0⟩:=XoT _ _ s0
  obtain ⟨x1,rfl,_,p1⟩:=Xmu _ _ s1
  exact ⟨⟨x0,x1⟩,rfl,⟨p0,p1⟩⟩
theorem XlZ (m:Nat) (x:List D) (h:Sh Tryz.prog m 115 x):∃ y:W5,x=KG y/\YC y:=by
 obtain ⟨n,rfl,hp⟩:=Xnt m x h
 exact ⟨n,rfl,hp⟩
theorem XoU:∀ (m:Nat) (ds:List D),Sh Tryz.prog m 24 ds->∃ l:List W5,ds=[.isl 115 4 (l.map KG)]/\l.length*48<=Xn/\∀ x∈l,(λ x=>YC x) x
 | 0,_,h=>h.elim
 | m+1,ds,h=>by
  rw[show Sh Tryz.prog (m+1) 24 ds=_ from Xcc m Xoh ds] at h
  obtain ⟨es,rfl,_,hb,hs⟩:=h
  obtain ⟨l,rfl,hl⟩:=Z1 (p:=(λ x=>YC x)) (λ x hx=>XlZ m x (hs x hx))
  exact ⟨l,by rw[Xno],by rw[Wt,XeY] at hb;exact hb,hl⟩
theorem Xnu:∀ (m:Nat) (ds:List D),Sh Tryz.prog m 210 ds->∃ x:UR,ds=X4 x/\Yk x
 | 0,_,h=>h.elim
 | m+1,ds,h=>by
  rw[show Sh Tryz.prog (m+1) 210 ds=_ from J0 m Xms ds] at h
  simp only[WV,UO,ShF] at h
  obtain ⟨c0,_,rfl,s0,⟨c1,_,rfl,s1,⟨c2,_,rfl,s2,rfl⟩⟩⟩:=h
  obtain ⟨x0,rfl,p0⟩:=KT ty3 _ _ s0
  obtain ⟨x1,rfl,p1⟩:=XaD XfS _ _ s1
  obtain ⟨x2,rfl,p2⟩:=Xaf ty4 _ _ s2
  exact ⟨⟨x0,x1,x2⟩,rfl,p1⟩
theorem Xl0 (m:Nat) (x:List D) (h:Sh Tryz.prog m 210 x):∃ y:UR,x=X4 y/\Yk y:=by
 obtain ⟨n,rfl,hp⟩:=Xnu m x h
 exact ⟨n,rfl,hp⟩
theorem XoV:∀ (m:Nat) (ds:List D),Sh Tryz.prog m 25 ds->∃ l:List UR,ds=[.isl 210 3 (l.map X4)]/\l.length*24<=Xn/\∀ x∈l,(λ x=>Yk x) x
 | 0,_,h=>h.elim
 | m+1,ds,h=>by
  rw[show Sh Tryz.prog (m+1) 25 ds=_ from Xcc m Xoi ds] at h
  obtain ⟨es,rfl,_,hb,hs⟩:=h
  obtain ⟨l,rfl,hl⟩:=Z1 (p:=(λ x=>Yk x)) (λ x hx=>Xl0 m x (hs x hx))
  exact ⟨l,by rw[Xnr],by rw[Wt,Xcb] at hb;exact hb,hl⟩
theorem Xnv:∀ (m:Nat) (ds:List D),Sh Tryz.prog m 159 ds->∃ x:UV,ds=X9 x/\True
 | 0,_,h=>h.elim
 | m+1,ds,h=>by
  rw[show Sh Tryz.prog (m+1) 159 ds=_ from J0 m Xmr ds] at h
  simp only[WV,UO,ShF] at h
  obtain ⟨c0,_,rfl,s0,⟨c1,_,rfl,s1,⟨c2,_,rfl,s2,rfl⟩⟩⟩:=h
  obtain ⟨x0,rfl,p0⟩:=KT ty3 _ _ s0
  obtain ⟨x1,rfl,p1⟩:=KT ty3 _ _ s1
  obtain ⟨x2,rfl,p2⟩:=Xaf ty4 _ _ s2
  exact ⟨⟨x0,x1,x2⟩,rfl,trivial⟩
theorem Xl1 (m:Nat) (x:List D) (h:Sh Tryz.prog m 159 x):∃ y:UV,x=X9 y/\True:=by
 obtain ⟨n,rfl,hp⟩:=Xnv m x h
 exact ⟨n,rfl,trivial⟩
theorem XoW:∀ (m:Nat) (ds:List D),Sh Tryz.prog m 26 ds->∃ l:List UV,ds=[.isl 159 3 (l.map X9)]/\l.length*24<=Xn/\∀ x∈l,(λ _=>True) x
 | 0,_,h=>h.elim
 | m+1,ds,h=>by
  rw[show Sh Tryz.prog (m+1) 26 ds=_ from Xcc m Xoj ds] at h
  obtain ⟨es,rfl,_,hb,hs⟩:=h
  obtain ⟨l,rfl,hl⟩:=Z1 (p:=(λ _=>True)) (λ x hx=>Xl1 m x (hs x hx))
  exact ⟨l,by rw[Xnq],by rw[Wt,Xca] at hb;exact hb,hl⟩
theorem XoX (m:Nat) (x:List D) (h:Sh Tryz.prog m 3 x):∃ y:Int,x=e3 y/\True:=by
 obtain ⟨n,rfl,hp⟩:=KT ty3 m x h
 exact ⟨n,rfl,trivial⟩
theorem XoY:∀ (m:Nat) (ds:List D),Sh Tryz.prog m 27 ds->∃ l:List Int,ds=[.isl 3 1 (l.map e3)]/\l.length*8<=Xn/\∀ x∈l,(λ _=>True) x
 | 0,_,h=>h.elim
 | m+1,ds,h=>by
  rw[show Sh Tryz.prog (m+1) 27 ds=_ from Xcc m Xok ds] at h
  obtain ⟨es,rfl,_,hb,hs⟩:=h
  obtain ⟨l,rfl,hl⟩:=Z1 (p:=(λ _=>True)) (λ x hx=>XoX m x (hs x hx))
  exact ⟨l,by rw[XpJ],by rw[Wt,XfR] at hb;exact hb,hl⟩
theorem XoZ:∀ (m:Nat) (ds:List D),Sh Tryz.prog m 29 ds->∃ x:Ws,ds=e29 x/\XJ x
 | 0,_,h=>h.elim
 | m+1,ds,h=>by
  rw[show Sh Tryz.prog (m+1) 29 ds=_ from J0 m Xol ds] at h
  simp only[WV,UO,ShF] at h
  obtain ⟨c0,_,rfl,s0,⟨c1,_,rfl,s1,⟨c2,_,rfl,s2,rfl⟩⟩⟩:=h
  obtain ⟨x0,rfl,_,p0⟩:=XoV _ _ s0
  obtain ⟨x1,rfl,_,p1⟩:=XoW _ _ s1
  obtain ⟨x2,rfl,_,p2⟩:=XoY _ _ s2
  exact ⟨⟨x0,x1,x2⟩,rfl,p0⟩
theorem Xnw:∀ (m:Nat) (ds:List D),Sh Tryz.prog m 132 ds->∃ x:WP,ds=XC x/\XF x
 | 0,_,h=>h.elim
 | m+1,ds,h=>by
  rw[show Sh Tryz.prog (m+1) 132 ds=_ from J0 m Xmq ds] at h
  simp only[WV,UO,ShF] at h
  obtain ⟨c0,_,rfl,s0,⟨c1,_,rfl,s1,⟨c2,_,rfl,s2,rfl⟩⟩⟩:=h
  obtain ⟨x0,rfl,p0⟩:=KT ty3 _ _ s0
  obtain ⟨x1,rfl,p1⟩:=XaD XfS _ _ s1
  obtain ⟨x2,rfl,p2⟩:=Xaf ty4 _ _ s2
  exact ⟨⟨x0,x1,x2⟩,rfl,p1⟩
theorem Xl2 (m:Nat) (x:List D) (h:Sh Tryz.prog m 132 x):∃ y:WP,x=XC y/\XF y:=by
 obtain ⟨n,rfl,hp⟩:=Xnw m x h
 exact ⟨n,rfl,hp⟩
theorem Xo0:∀ (m:Nat) (ds:List D),Sh Tryz.prog m 30 ds->∃ l:List WP,ds=[.isl 132 3 (l.map XC)]/\l.length*24<=Xn/\∀ x∈l,(λ x=>XF x) x
 | 0,_,h=>h.elim
 | m+1,ds,h=>by
  rw[show Sh Tryz.prog (m+1) 30 ds=_ from Xcc m Xom ds] at h
  obtain ⟨es,rfl,_,hb,hs⟩:=h
  obtain ⟨l,rfl,hl⟩:=Z1 (p:=(λ x=>XF x)) (λ x hx=>Xl2 m x (hs x hx))
  exact ⟨l,by rw[Xnp],by rw[Wt,Xb9] at hb;exact hb,hl⟩
theorem Xmv:∀ (m:Nat) (ds:List D),Sh Tryz.prog m 32 ds->∃ x:WC,ds=e32 x/\X2 x
 | 0,_,h=>h.elim
 | m+1,ds,h=>by
  rw[show Sh Tryz.prog (m+1) 32 ds=_ from J0 m Xon ds] at h
  simp only[WV,UO,ShF] at h
  obtain ⟨c0,_,rfl,s0,rfl⟩:=h
  obtain ⟨x0,rfl,_,p0⟩:=Xo0 _ _ s0
  exact ⟨⟨x0⟩,rfl,p0⟩
theorem Xo1:∀ (m:Nat) (ds:List D),Sh Tryz.prog m 96 ds->∃ x:Uz,ds=e96 x/\Ze x
 | 0,_,h=>h.elim
 | m+1,ds,h=>by
  rw[show Sh Tryz.prog (m+1) 96 ds=_ from J0 m Xou ds] at h
  simp only[WV,UO,ShF] at h
  obtain ⟨c0,_,rfl,s0,⟨c1,_,rfl,s1,⟨c2,_,rfl,s2,rfl⟩⟩⟩:=h
  obtain ⟨x0,rfl,p0⟩:=XaD XfS _ _ s0
  obtain ⟨x1,rfl,p1⟩:=KT ty3 _ _ s1
  obtain ⟨x2,rfl,p2⟩:=XaD XfS _ _ s2
  exact ⟨⟨x0,x1,x2⟩,rfl,⟨p0,p2⟩⟩
theorem Xnx (m:Nat) (x:List D) (h:Sh Tryz.prog m 96 x):∃ y:Uz,x=e96 y/\Ze y:=by
 obtain ⟨n,rfl,hp⟩:=Xo1 m x h
 exact ⟨n,rfl,hp⟩
theorem Xo2:∀ (m:Nat) (ds:List D),Sh Tryz.prog m 33 ds->∃ l:List Uz,ds=[.isl 96 3 (l.map e96)]/\l.length*24<=Xn/\∀ x∈l,(λ x=>Ze x) x
 | 0,_,h=>h.elim
 | m+1,ds,h=>by
  rw[show Sh Tryz.prog (m+1) 33 ds=_ from Xcc m Xoo ds] at h
  obtain ⟨es,rfl,_,hb,hs⟩:=h
  obtain ⟨l,rfl,hl⟩:=Z1 (p:=(λ x=>Ze x)) (λ x hx=>Xnx m x (hs x hx))
  exact ⟨l,by rw[XoR],by rw[Wt,XgT] at hb;exact hb,hl⟩
theorem XpO:∀ (m:Nat) (ds:List D),Sh Tryz.prog m 36 ds->∃ x:Wm,ds=e36 x/\Xv x
 | 0,_,h=>h.elim
 | m+1,ds,h=>by
  rw[show Sh Tryz.prog (m+1) 36 ds=_ from J0 m Xoq ds] at h
  simp only[WV,UO,ShF] at h
  obtain ⟨c0,_,rfl,s0,⟨c1,_,rfl,s1,⟨c2,_,rfl,s2,⟨c3,_,rfl,s3,⟨c4,_,rfl,s4,⟨c5,_,rfl,s5,⟨c6,_,rfl,s6,rfl⟩⟩⟩⟩⟩⟩⟩:=h
  obtain ⟨x0,rfl,p0⟩:=XoS _ _ s0
  obtain ⟨x1,rfl,_,p1⟩:=XoU _ _ s1
  obtain ⟨x2,rfl,p2⟩:=XoZ _ _ s2
  obtain ⟨x3,rfl,p3⟩:=Xmv _ _ s3
  obtain ⟨x4,rfl,p4⟩:=Xmv _ _ s4
  obtain ⟨x5,rfl,_,p5⟩:=Xo2 _ _ s5
  obtain ⟨x6,rfl,_,p6⟩:=Xmu _ _ s6
  exact ⟨⟨x0,x1,x2,x3,x4,x5,x6⟩,rfl,⟨p1,p2,p3,p4,p5,p6⟩⟩
theorem XpP:∀ (m:Nat) (ds:List D),Sh Tryz.prog m 39 ds->∃ x:UH,ds=e39 x/\Xbw x
 | 0,_,h=>h.elim
 | m+1,ds,h=>by
  rw[show Sh Tryz.prog (m+1) 39 ds=_ from J0 m Xor ds] at h
  simp only[WV,UO,ShF] at h
  obtain ⟨c0,_,rfl,s0,⟨c1,_,rfl,s1,⟨c2,_,rfl,s2,rfl⟩⟩⟩:=h
  obtain ⟨x0,rfl,p0⟩:=Xaf ty4 _ _ s0
  obtain ⟨x1,rfl,p1⟩:=Xaf ty4 _ _ s1
  obtain ⟨x2,rfl,p2⟩:=XaD XfS _ _ s2
  exact ⟨⟨x0,x1,x2⟩,rfl,p2⟩
end Go.Sx
namespace Go.Sx
open Go.Proofs
section
variable {α β:Type} {o:Option α} {y:α} {f:Nat} {a args:List D} {l:List Ob} {e:α->D} {l':α->List Ob} {G:Nat->Option (List D)} {K:D->List Ob->Prop}
theorem OK.t [h:OK o f a l e l'] (ho:o=some y) (hw:GW G) (hf:Zv args a) (hK:K (e y) (l' y)) (t:Prf args):CallG Tryz.prog G f args l K t:=CallG.ofE (h.h G hw y ho) hf hK t
theorem OM [h:OK o f a l e l'] (ho:o=some y) (hw:GW G) (hf:Zv args a) (hK:K (e y) (l' y)) (t:Prf args):CallD Tryz.prog G f args l K t:=CallD.ofE (h.h G hw y ho) hf hK t
theorem Sd {β:Type} {k:α->Option β} {r:β} {C:Cx} {s:Heap} {K':D->Prop} [h:OK o f a [] e l'] (hr:bnd o k=some r) (hw:GW G) (hG:C.G=G) (hro:RoA Tryz.prog C s args a) (hsc:∀ y,scal (e y)=true) (hK:∀ y,k y=some r->K' (e y)) (t:Prf args):Xmd Tryz.prog C s f args K' t :=
 Jx hr λ y hy hr=>⟨a,Eqs (e y) (l' y),hro,hG▸h.h G hw y hy,⟨_,_,rfl,rfl⟩,λ _ _ h1=>h1.1▸⟨hsc y,hK y hr⟩⟩
theorem rnG (fn:Func) (rs:List ResultVar) (fr:List Nat) (nt:Nat)
 (hk:(Tryz.prog.funcs[f]?,fn.body,fn.name== "runtime.NumGoroutine",fn.results,fn.ntmps,a.length.ble nt)=(some fn,some (fn.body.get!),false,⟨rs⟩,nt,true))
 (h:∀ G,GW G->∀ r,o=some r->∀ (C:Cx) x,C.G=G->C.lb=[]->WfL Tryz.prog a->Fn f->run Tryz.prog (C.sub 0 x) (Gh Tryz.prog (C.sub 0 x) (Xck Tryz.prog rs fr 0 (Eqs (e r) (l' r)))) 1000 [.code (fn.body.get!)] (st0 a [] nt)):OK o f a [] e l':=by
 injection hk with h1 hk;injection hk with h2 hk;injection hk with h3 hk;injection hk with h4 hk;injection hk with h5 h6
 exact ⟨λ G hw r hr=>Xdq 1000 fr nt h1 h2 h3 h4 h5 (Nat.le_of_ble_eq_true h6) λ C x hG hlb hwf=>h G hw r hr C x hG hlb hwf ⟨⟩⟩
end
end Go.Sx
