import Derived.KernelRfl
import Derived.Test.YtbikeogjhdcfmaaGreatProg
import Derived.Test.YtbikeogjhdcfmaaGreatVR
import Derived.Test.YtbikeogjhdcfmaaGreatVI
set_option linter.all false
namespace Go.Sx
open Go.Proofs
theorem ty3:Xm Tryz.prog 3=some ⟨1,8,(.int .i64 0),.int .i64⟩:=by kernel_rfl
theorem Xgu:Tryz.prog.bytesOf 3=8:=by kernel_rfl
theorem ty4:Xm Tryz.prog 4=some ⟨1,1,(.bool false),.bool⟩:=by kernel_rfl
theorem Xoh:Tryz.prog.bytesOf 4=1:=by kernel_rfl
theorem ty9:Xm Tryz.prog 9=some ⟨1,16,(.string (ByteArray.mk #[])),.str⟩:=by kernel_rfl
theorem Xpe:Xm Tryz.prog 23=some ⟨2,16,(.agg #[(.int .i64 0),(.int .i64 0)]),.struct [(0,1,3),(1,1,3)]⟩:=by kernel_rfl
theorem XmP:Tryz.prog.bytesOf 23=16:=by kernel_rfl
theorem Xoi:X5 Tryz.prog 23=some [some .i64,some .i64]:=by kernel_rfl
theorem Xpf:Xm Tryz.prog 24=some ⟨1,24,(.slice none 0 0),.slice 71 1⟩:=by kernel_rfl
theorem XmQ:Tryz.prog.bytesOf 24=24:=by kernel_rfl
theorem Xpg:Xm Tryz.prog 25=some ⟨1,24,(.slice none 0 0),.slice 108 4⟩:=by kernel_rfl
theorem Xph:Xm Tryz.prog 27=some ⟨6,80,(.agg #[(.int .i64 0),(.int .i64 0),(.slice none 0 0),(.slice none 0 0),(.int .i64 0),(.int .i64 0)]),.struct [(0,2,23),(2,1,24),(3,1,25),(4,1,3),(5,1,3)]⟩:=by kernel_rfl
theorem XmR:Tryz.prog.bytesOf 27=80:=by kernel_rfl
theorem Xpi:Xm Tryz.prog 28=some ⟨1,24,(.slice none 0 0),.slice 88 3⟩:=by kernel_rfl
theorem Xpj:Xm Tryz.prog 29=some ⟨1,24,(.slice none 0 0),.slice 90 3⟩:=by kernel_rfl
theorem Xpk:Xm Tryz.prog 30=some ⟨1,24,(.slice none 0 0),.slice 3 1⟩:=by kernel_rfl
theorem Xpl:Xm Tryz.prog 32=some ⟨3,72,(.agg #[(.slice none 0 0),(.slice none 0 0),(.slice none 0 0)]),.struct [(0,1,28),(1,1,29),(2,1,30)]⟩:=by kernel_rfl
theorem XmS:Tryz.prog.bytesOf 32=72:=by kernel_rfl
theorem Xpm:Xm Tryz.prog 33=some ⟨1,24,(.slice none 0 0),.slice 92 3⟩:=by kernel_rfl
theorem Xpn:Xm Tryz.prog 35=some ⟨1,24,(.agg #[(.slice none 0 0)]),.struct [(0,1,33)]⟩:=by kernel_rfl
theorem XmT:Tryz.prog.bytesOf 35=24:=by kernel_rfl
theorem Xpo:Xm Tryz.prog 36=some ⟨1,24,(.slice none 0 0),.slice 77 2⟩:=by kernel_rfl
theorem Xpp:Xm Tryz.prog 38=some ⟨13,248,(.agg #[(.int .i64 0),(.int .i64 0),(.slice none 0 0),(.slice none 0 0),(.int .i64 0),(.int .i64 0),(.slice none 0 0),(.slice none 0 0),(.slice none 0 0),(.slice none 0 0),(.slice none 0 0),(.slice none 0 0),(.slice none 0 0)]),.struct [(0,6,27),(6,3,32),(9,1,35),(10,1,35),(11,1,36),(12,1,24)]⟩:=by kernel_rfl
theorem XmU:Tryz.prog.bytesOf 38=248:=by kernel_rfl
theorem XqJ:Xm Tryz.prog 39=some ⟨1,8,(.int .i64 0),.int .i64⟩:=by kernel_rfl
theorem XqK:Xm Tryz.prog 43=some ⟨1,24,(.slice none 0 0),.slice 38 13⟩:=by kernel_rfl
theorem XqL:Xm Tryz.prog 56=some ⟨1,24,(.slice none 0 0),.slice 205 4⟩:=by kernel_rfl
theorem XqM:Xm Tryz.prog 57=some ⟨1,24,(.slice none 0 0),.slice 268 3⟩:=by kernel_rfl
theorem XqN:Xm Tryz.prog 59=some ⟨10,208,(.agg #[(.int .i64 0),(.int .i64 0),(.slice none 0 0),(.slice none 0 0),(.slice none 0 0),(.slice none 0 0),(.slice none 0 0),(.slice none 0 0),(.slice none 0 0),(.slice none 0 0)]),.struct [(0,2,23),(2,1,56),(3,3,32),(6,1,35),(7,1,35),(8,1,57),(9,1,24)]⟩:=by kernel_rfl
theorem XmV:Tryz.prog.bytesOf 59=208:=by kernel_rfl
theorem XqO:Xm Tryz.prog 61=some ⟨24,480,(.agg #[(.int .i64 0),(.int .i64 0),(.slice none 0 0),(.slice none 0 0),(.int .i64 0),(.int .i64 0),(.slice none 0 0),(.slice none 0 0),(.slice none 0 0),(.slice none 0 0),(.slice none 0 0),(.slice none 0 0),(.slice none 0 0),(.int .i64 0),(.int .i64 0),(.slice none 0 0),(.slice none 0 0),(.slice none 0 0),(.slice none 0 0),(.slice none 0 0),(.slice none 0 0),(.slice none 0 0),(.slice none 0 0),(.slice none 0 0)]),.struct [(0,13,38),(13,10,59),(23,1,24)]⟩:=by kernel_rfl
theorem XmW:Tryz.prog.bytesOf 61=480:=by kernel_rfl
theorem XqP:Xm Tryz.prog 66=some ⟨2,32,(.agg #[(.slice none 0 0),(.int .i64 0)]),.struct [(0,1,30),(1,1,3)]⟩:=by kernel_rfl
theorem XmX:Tryz.prog.bytesOf 66=32:=by kernel_rfl
theorem XkQ:Xm Tryz.prog 71=some ⟨1,8,(.int .u64 0),.int .u64⟩:=by kernel_rfl
theorem XdY:Tryz.prog.bytesOf 71=8:=by kernel_rfl
theorem Xpq:Xm Tryz.prog 77=some ⟨2,16,(.agg #[(.int .u64 0),(.int .i64 0)]),.struct [(0,1,71),(1,1,3)]⟩:=by kernel_rfl
theorem XdZ:Tryz.prog.bytesOf 77=16:=by kernel_rfl
theorem Xoj:X5 Tryz.prog 77=some [some .u64,some .i64]:=by kernel_rfl
theorem XqQ:Xm Tryz.prog 80=some ⟨1,4,(.int .u32 0),.int .u32⟩:=by kernel_rfl
theorem XqR:Xm Tryz.prog 82=some ⟨3,24,(.agg #[(.int .i64 0),(.int .i64 0),(.int .u32 0)]),.struct [(0,1,3),(1,1,3),(2,1,80)]⟩:=by kernel_rfl
theorem XmY:Tryz.prog.bytesOf 82=24:=by kernel_rfl
theorem Xok:X5 Tryz.prog 82=some [some .i64,some .i64,some .u32]:=by kernel_rfl
theorem Xpr:Xm Tryz.prog 88=some ⟨3,24,(.agg #[(.int .i64 0),(.int .u64 0),(.bool false)]),.struct [(0,1,3),(1,1,71),(2,1,4)]⟩:=by kernel_rfl
theorem Xd0:Tryz.prog.bytesOf 88=24:=by kernel_rfl
theorem Xol:X5 Tryz.prog 88=some [some .i64,some .u64,none]:=by kernel_rfl
theorem Xps:Xm Tryz.prog 90=some ⟨3,24,(.agg #[(.int .i64 0),(.int .i64 0),(.bool false)]),.struct [(0,1,3),(1,1,3),(2,1,4)]⟩:=by kernel_rfl
theorem Xd1:Tryz.prog.bytesOf 90=24:=by kernel_rfl
theorem Xom:X5 Tryz.prog 90=some [some .i64,some .i64,none]:=by kernel_rfl
theorem Xpt:Xm Tryz.prog 92=some ⟨3,24,(.agg #[(.int .i64 0),(.int .u64 0),(.bool false)]),.struct [(0,1,3),(1,1,71),(2,1,4)]⟩:=by kernel_rfl
theorem Xd2:Tryz.prog.bytesOf 92=24:=by kernel_rfl
theorem Xon:X5 Tryz.prog 92=some [some .i64,some .u64,none]:=by kernel_rfl
theorem XqS:Xm Tryz.prog 97=some ⟨4,32,(.agg #[(.int .i64 0),(.int .u64 0),(.int .u64 0),(.int .u64 0)]),.struct [(0,1,3),(1,1,71),(2,1,71),(3,1,71)]⟩:=by kernel_rfl
theorem XmZ:Tryz.prog.bytesOf 97=32:=by kernel_rfl
theorem Xpu:Xm Tryz.prog 101=some ⟨8,128,(.agg #[(.int .i64 0),(.int .i64 0),(.slice none 0 0),(.slice none 0 0),(.int .i64 0),(.int .i64 0),(.slice none 0 0),(.slice none 0 0)]),.struct [(0,6,27),(6,1,24),(7,1,24)]⟩:=by kernel_rfl
theorem XkR:Tryz.prog.bytesOf 101=128:=by kernel_rfl
theorem Xpv:Xm Tryz.prog 105=some ⟨1,24,(.slice none 0 0),.slice 77 2⟩:=by kernel_rfl
theorem Xno:Xm Tryz.prog 108=some ⟨4,32,(.agg #[(.int .i64 0),(.int .i64 0),(.int .i64 0),(.int .i64 0)]),.struct [(0,1,3),(1,1,3),(2,1,3),(3,1,3)]⟩:=by kernel_rfl
theorem Xb9:Tryz.prog.bytesOf 108=32:=by kernel_rfl
theorem Xm0:X5 Tryz.prog 108=some [some .i64,some .i64,some .i64,some .i64]:=by kernel_rfl
theorem Xpw:Xm Tryz.prog 110=some ⟨3,72,(.agg #[(.slice none 0 0),(.slice none 0 0),(.slice none 0 0)]),.struct [(0,3,32)]⟩:=by kernel_rfl
theorem XkS:Tryz.prog.bytesOf 110=72:=by kernel_rfl
theorem Xpx:Xm Tryz.prog 121=some ⟨1,24,(.slice none 0 0),.slice 24 1⟩:=by kernel_rfl
theorem Xpy:Xm Tryz.prog 131=some ⟨6,48,(.agg #[(.int .i64 0),(.int .i64 0),(.int .i64 0),(.int .i64 0),(.int .i64 0),(.int .i64 0)]),.struct [(0,1,3),(1,1,3),(2,1,3),(3,1,3),(4,1,3),(5,1,3)]⟩:=by kernel_rfl
theorem XkT:Tryz.prog.bytesOf 131=48:=by kernel_rfl
theorem Xpz:Xm Tryz.prog 140=some ⟨3,16,(.agg #[(.bool false),(.bool false),(.int .u64 0)]),.struct [(0,1,4),(1,1,4),(2,1,71)]⟩:=by kernel_rfl
theorem XkU:Tryz.prog.bytesOf 140=16:=by kernel_rfl
theorem XpA:Xm Tryz.prog 144=some ⟨1,8,(.int .u64 0),.int .u64⟩:=by kernel_rfl
theorem XpB:Xm Tryz.prog 147=some ⟨3,24,(.agg #[(.int .i64 0),(.int .i64 0),(.int .u64 0)]),.struct [(0,1,3),(1,1,3),(2,1,71)]⟩:=by kernel_rfl
theorem XkV:Tryz.prog.bytesOf 147=24:=by kernel_rfl
theorem Xm1:X5 Tryz.prog 147=some [some .i64,some .i64,some .u64]:=by kernel_rfl
theorem XpC:Xm Tryz.prog 156=some ⟨1,24,(.slice none 0 0),.slice 162 4⟩:=by kernel_rfl
theorem XpD:Xm Tryz.prog 162=some ⟨4,32,(.agg #[(.int .u64 0),(.int .i64 0),(.int .i64 0),(.int .u32 0)]),.struct [(0,1,71),(1,3,82)]⟩:=by kernel_rfl
theorem XkW:Tryz.prog.bytesOf 162=32:=by kernel_rfl
theorem XpE:Xm Tryz.prog 167=some ⟨3,24,(.agg #[(.int .i64 0),(.int .i64 0),(.int .u64 0)]),.struct [(0,1,3),(1,1,3),(2,1,71)]⟩:=by kernel_rfl
theorem XkX:Tryz.prog.bytesOf 167=24:=by kernel_rfl
theorem Xm2:X5 Tryz.prog 167=some [some .i64,some .i64,some .u64]:=by kernel_rfl
theorem XpF:Xm Tryz.prog 180=some ⟨2,16,(.agg #[(.int .i64 0),(.int .i64 0)]),.struct [(0,1,3),(1,1,3)]⟩:=by kernel_rfl
theorem XkY:Tryz.prog.bytesOf 180=16:=by kernel_rfl
theorem XpG:Xm Tryz.prog 195=some ⟨1,24,(.slice none 0 0),.slice 4 1⟩:=by kernel_rfl
theorem XpH:Xm Tryz.prog 205=some ⟨4,48,(.agg #[(.int .i64 0),(.int .i64 0),(.int .u32 0),(.slice none 0 0)]),.struct [(0,3,82),(3,1,24)]⟩:=by kernel_rfl
theorem XkZ:Tryz.prog.bytesOf 205=48:=by kernel_rfl
theorem XpI:Xm Tryz.prog 233=some ⟨1,8,(.agg #[(.int .i64 0)]),.struct [(0,1,3)]⟩:=by kernel_rfl
theorem XpJ:Xm Tryz.prog 237=some ⟨1,8,(.agg #[(.int .i64 0)]),.struct [(0,1,3)]⟩:=by kernel_rfl
theorem XpK:Xm Tryz.prog 257=some ⟨16,208,(.agg #[(.int .i64 0),(.int .i64 0),(.slice none 0 0),(.slice none 0 0),(.int .i64 0),(.int .i64 0),(.slice none 0 0),(.slice none 0 0),(.slice none 0 0),(.int .i64 0),(.int .i64 0),(.int .i64 0),(.int .i64 0),(.int .i64 0),(.int .i64 0),(.int .i64 0)]),.struct [(0,6,27),(6,1,24),(7,1,30),(8,1,24),(9,1,3),(10,6,131)]⟩:=by kernel_rfl
theorem Xk0:Tryz.prog.bytesOf 257=208:=by kernel_rfl
theorem XpL:Xm Tryz.prog 268=some ⟨3,24,(.agg #[(.int .u64 0),(.int .i64 0),(.int .u64 0)]),.struct [(0,1,71),(1,1,3),(2,1,71)]⟩:=by kernel_rfl
theorem Xk1:Tryz.prog.bytesOf 268=24:=by kernel_rfl
theorem XpM:Xm Tryz.prog 283=some ⟨3,24,(.agg #[(.int .i64 0),(.int .i64 0),(.int .i64 0)]),.struct [(0,1,3),(1,1,3),(2,1,3)]⟩:=by kernel_rfl
theorem Xk2:Tryz.prog.bytesOf 283=24:=by kernel_rfl
theorem XpN:Xm Tryz.prog 315=some ⟨1,8,.nilFunc,.other⟩:=by kernel_rfl
theorem XpO:Xm Tryz.prog 316=some ⟨4,32,(.agg #[(.int .i64 0),(.int .i64 0),(.int .i64 0),(.int .i64 0)]),.struct [(0,1,3),(1,1,3),(2,1,3),(3,1,3)]⟩:=by kernel_rfl
theorem Xk3:Tryz.prog.bytesOf 316=32:=by kernel_rfl
theorem Xm3:X5 Tryz.prog 316=some [some .i64,some .i64,some .i64,some .i64]:=by kernel_rfl
theorem XpP:Xm Tryz.prog 317=some ⟨3,24,(.agg #[.nilFunc,.nilFunc,.nilFunc]),.array 3 315 1⟩:=by kernel_rfl
theorem XpQ:Xm Tryz.prog 324=some ⟨2,16,(.agg #[(.int .i64 0),(.int .u64 0)]),.struct [(0,1,3),(1,1,71)]⟩:=by kernel_rfl
theorem Xk4:Tryz.prog.bytesOf 324=16:=by kernel_rfl
theorem XpR:Xm Tryz.prog 325=some ⟨1,24,(.slice none 0 0),.slice 324 2⟩:=by kernel_rfl
theorem XpS:Xm Tryz.prog 357=some ⟨1,24,(.slice none 0 0),.slice 360 2⟩:=by kernel_rfl
theorem XpT:Xm Tryz.prog 360=some ⟨2,16,(.agg #[(.int .i64 0),(.int .i64 0)]),.struct [(0,1,3),(1,1,3)]⟩:=by kernel_rfl
theorem Xk5:Tryz.prog.bytesOf 360=16:=by kernel_rfl
attribute [go_sem] ty3 ty4 ty9 Xpe Xoi Xpf Xpg Xph Xpi Xpj Xpk Xpl Xpm Xpn Xpo Xpp XqJ XqK XqL XqM XqN XqO XqP XkQ Xpq Xoj XqQ XqR Xok Xpr Xol Xps Xom Xpt Xon XqS Xpu Xpv Xno Xm0 Xpw Xpx Xpy Xpz XpA XpB Xm1 XpC XpD XpE Xm2 XpF XpG XpH XpI XpJ XpK XpL XpM XpN XpO Xm3 XpP XpQ XpR XpS XpT
end Go.Sx
namespace Go.Sx
attribute [go_sem] zWd zHp
def e23 (x:WQ):List D:=[.v (.int .i64 x.PageWords),.v (.int .i64 x.Pages)]
def e71 (x:Int):List D:=[.v (.int .u64 x)]
def XF (x:Wv):List D:=[.v (.int .i64 x.Kind),.v (.int .i64 x.Space),.v (.int .i64 x.Used),.v (.int .i64 x.Pins)]
def e27 (x:Wn):List D:=[.v (.int .i64 x.Conf.PageWords),.v (.int .i64 x.Conf.Pages),.isl 71 1 (x.Words.map e71),.isl 108 4 (x.Pages.map XF),.v (.int .i64 x.Space),.v (.int .i64 x.Bump)]
def e88 (x:UX):List D:=[.v (.int .i64 x.Stamp),.v (.int .u64 x.Ref),.v (.bool x.Live)]
def e90 (x:U0):List D:=[.v (.int .i64 x.From),.v (.int .i64 x.Cap),.v (.bool x.Base)]
def e3 (x:Int):List D:=[.v (.int .i64 x)]
def e92 (x:Ua):List D:=[.v (.int .i64 x.Gen),.v (.int .u64 x.Ref),.v (.bool x.Live)]
def e77 (x:UG):List D:=[.v (.int .u64 x.Ref),.v (.int .i64 x.Count)]
def e38 (x:W8):List D:=[.v (.int .i64 x.Heap.Conf.PageWords),.v (.int .i64 x.Heap.Conf.Pages),.isl 71 1 (x.Heap.Words.map e71),.isl 108 4 (x.Heap.Pages.map XF),.v (.int .i64 x.Heap.Space),.v (.int .i64 x.Heap.Bump),.isl 88 3 (x.Locals.Slots.map e88),.isl 90 3 (x.Locals.Scopes.map e90),.isl 3 1 (x.Locals.Issued.map e3),.isl 92 3 (x.Globals.Entries.map e92),.isl 92 3 (x.Weaks.Entries.map e92),.isl 77 2 (x.Pins.map e77),.isl 71 1 (x.Roots.map e71)]
def e32 (x:Ww):List D:=[.isl 88 3 (x.Slots.map e88),.isl 90 3 (x.Scopes.map e90),.isl 3 1 (x.Issued.map e3)]
def e35 (x:WG):List D:=[.isl 92 3 (x.Entries.map e92)]
def e66 (x:UU):List D:=[.isl 3 1 (x.L.map e3),.v (.int .i64 x.at_)]
def Xat (x:Ii):List D:=[.v (.int .i64 x.Header.Kind),.v (.int .i64 x.Header.Length),.v (.int .u32 x.Header.Map),.isl 71 1 (x.Fields.map e71)]
def Xd3 (x:Ix):List D:=[.v (.int .u64 x.Id),.v (.int .i64 x.Count),.v (.int .u64 x.Base)]
def e59 (x:WM):List D:=[.v (.int .i64 x.Conf.PageWords),.v (.int .i64 x.Conf.Pages),.isl 205 4 (x.Things.map Xat),.isl 88 3 (x.Locals.Slots.map e88),.isl 90 3 (x.Locals.Scopes.map e90),.isl 3 1 (x.Locals.Issued.map e3),.isl 92 3 (x.Globals.Entries.map e92),.isl 92 3 (x.Weaks.Entries.map e92),.isl 268 3 (x.Marks.map Xd3),.isl 71 1 (x.Roots.map e71)]
def e61 (x:Iv):List D:=[.v (.int .i64 x.Env.Heap.Conf.PageWords),.v (.int .i64 x.Env.Heap.Conf.Pages),.isl 71 1 (x.Env.Heap.Words.map e71),.isl 108 4 (x.Env.Heap.Pages.map XF),.v (.int .i64 x.Env.Heap.Space),.v (.int .i64 x.Env.Heap.Bump),.isl 88 3 (x.Env.Locals.Slots.map e88),.isl 90 3 (x.Env.Locals.Scopes.map e90),.isl 3 1 (x.Env.Locals.Issued.map e3),.isl 92 3 (x.Env.Globals.Entries.map e92),.isl 92 3 (x.Env.Weaks.Entries.map e92),.isl 77 2 (x.Env.Pins.map e77),.isl 71 1 (x.Env.Roots.map e71),.v (.int .i64 x.World.Conf.PageWords),.v (.int .i64 x.World.Conf.Pages),.isl 205 4 (x.World.Things.map Xat),.isl 88 3 (x.World.Locals.Slots.map e88),.isl 90 3 (x.World.Locals.Scopes.map e90),.isl 3 1 (x.World.Locals.Issued.map e3),.isl 92 3 (x.World.Globals.Entries.map e92),.isl 92 3 (x.World.Weaks.Entries.map e92),.isl 268 3 (x.World.Marks.map Xd3),.isl 71 1 (x.World.Roots.map e71),.isl 71 1 (x.Words.map e71)]
def e82 (x:Wz):List D:=[.v (.int .i64 x.Kind),.v (.int .i64 x.Length),.v (.int .u32 x.Map)]
def e4 (x:Bool):List D:=[.v (.bool x)]
def Xm4 (x:Ul):List D:=[.v (.int .i64 x.Fault),.v (.int .i64 x.Page),.v (.int .u64 x.Addr)]
def Kv (x:WY):List D:=[.v (.int .i64 x.Heap.Conf.PageWords),.v (.int .i64 x.Heap.Conf.Pages),.isl 71 1 (x.Heap.Words.map e71),.isl 108 4 (x.Heap.Pages.map XF),.v (.int .i64 x.Heap.Space),.v (.int .i64 x.Heap.Bump),.isl 71 1 (x.Old.map e71),.isl 3 1 (x.Taken.map e3),.isl 71 1 (x.Queue.map e71),.v (.int .i64 x.Scanned),.v (.int .i64 x.Report.Copied),.v (.int .i64 x.Report.Kept),.v (.int .i64 x.Report.Filled),.v (.int .i64 x.Report.Freed),.v (.int .i64 x.Report.Cleared),.v (.int .i64 x.Report.Steps)]
def Xcl (x:Og):List D:=[.v (.int .i64 x.From),.v (.int .i64 x.Len)]
def Xk6 (x:Us):List D:=[.v (.int .i64 x.Copied),.v (.int .i64 x.Kept),.v (.int .i64 x.Filled),.v (.int .i64 x.Freed),.v (.int .i64 x.Cleared),.v (.int .i64 x.Steps)]
def Xm5 (x:Iy):List D:=[.v (.int .i64 x.Tag),.v (.int .i64 x.Index),.v (.int .i64 x.Stamp)]
def Xoo (x:Oj):List D:=[.v (.bool x.Failed),.v (.bool x.Collected),.v (.int .u64 x.Base)]
def e97 (x:Oi):List D:=[.v (.int .i64 x.Op),.v (.int .u64 x.A),.v (.int .u64 x.B),.v (.int .u64 x.C)]
def Xm6 (x:Ig):List D:=[.v (.int .i64 x.Heap.Conf.PageWords),.v (.int .i64 x.Heap.Conf.Pages),.isl 71 1 (x.Heap.Words.map e71),.isl 108 4 (x.Heap.Pages.map XF),.v (.int .i64 x.Heap.Space),.v (.int .i64 x.Heap.Bump),.isl 71 1 (x.Strong.map e71),.isl 71 1 (x.Weak.map e71)]
def e24 (x:List Int):List D:=[.isl 71 1 (x.map e71)]
def Xgv (x:Iu):List D:=[.isl 88 3 (x.Locals.Slots.map e88),.isl 90 3 (x.Locals.Scopes.map e90),.isl 3 1 (x.Locals.Issued.map e3)]
def Xfy (x:Wv):List D:=[.v (.int .i64 x.Kind),.v (.int .i64 x.Space),.v (.int .i64 x.Used),.v (.int .i64 x.Pins)]
def KK (x:UJ):List D:=[.v (.int .u64 x.addr),.v (.int .i64 x.hd.Kind),.v (.int .i64 x.hd.Length),.v (.int .u32 x.hd.Map)]
def Xm7 (x:Ul):List D:=[.v (.int .i64 x.Fault),.v (.int .i64 x.Page),.v (.int .u64 x.Addr)]
def XpU (x:IL):List D:=[.v (.int .i64 x.page),.v (.int .i64 x.offset)]
def Xiz (x:Im):List D:=[.v (.int .i64 x.Width),.v (.int .u64 x.Value)]
attribute [go_sem] e23 e71 XF e27 e88 e90 e3 e92 e77 e38 e32 e35 e66 Xat Xd3 e59 e61 e82 e4 Xm4 Kv Xcl Xk6 Xm5 Xoo e97 Xm6 e24 Xgv Xfy KK Xm7 XpU Xiz XmP XdY Xb9 XmR Xd0 Xd1 Xgu Xd2 XdZ XmU XmS XmT XmX XkZ Xk1 XmV XmW XmY Xoh XkX Xk0 Xk5 XkT Xk2 XkU XmZ XkR XmQ XkS Xk3 XkW XkV XkY Xk4
theorem XpV:Go.Proofs.Tryz.prog.follows .mixedOrders=true:=by kernel_rfl
def GW (G:Nat->Option (List D)):Prop:=True
end Go.Sx
namespace Go.Sx
open Go.Proofs
theorem E:True:=trivial
theorem hd:True:=trivial
theorem hx3:True:=trivial
theorem hl3:True:=trivial
theorem hl4:True:=trivial
theorem Xop:True:=trivial
theorem Xoq:True:=trivial
theorem XU:True:=trivial
theorem KM:True:=trivial
theorem ZB:True:=trivial
theorem Jn:True:=trivial
theorem Z8:True:=trivial
theorem XK:True:=trivial
theorem V3:True:=trivial
theorem ZY:True:=trivial
theorem KG:True:=trivial
theorem Xk7:True:=trivial
theorem V4:True:=trivial
theorem hK:True:=trivial
theorem XqT {α:Type} {G:Prop} {a c:Int} {x y:Option α} {r:α} (h:(bif (a==c) then x else y)=some r) (f:a=c->x=some r->G) (g:¬ a=c->y=some r->G):G:=by
 by_cases e:a=c
 ·rw[beq_iff_eq.2 e] at h;exact f e h
 ·rw[IF.2 e] at h;exact g e h
attribute [go_sem] Option.get!
structure Fn (n:Nat):Prop where
class OK {α:Type} (o:Option α) (f:outParam Nat) (a:outParam (List D)) (l:outParam (List Ob)) (e:outParam (α->D)) (l':outParam (α->List Ob)):Prop where
 h:∀ G,GW G->∀ r,o=some r->YU Tryz.prog G f a l (Eqs (e r) (l' r))
section
variable {α β:Type} {o:Option α} {k:α->Option β} {f:Nat} {a args:List D} {l:List Ob} {e:α->D} {l':α->List Ob} {G:Nat->Option (List D)} {r:β} {K:D->List Ob->Prop}
theorem OK.c [h:OK o f a l e l'] (hr:bnd o k=some r) (hw:GW G) (hf:Zh args a) (hK:∀ y,k y=some r->K (e y) (l' y)) (t:Prf args):CallG Tryz.prog G f args l K t :=
 Xcn hr λ y hy hr=>CallG.ofE (h.h G hw y hy) hf (hK y hr) t
theorem Oe [h:OK o f a l e l'] (hr:bnd o k=some r) (hw:GW G) (hf:Zh args a) (hK:∀ y,k y=some r->K (e y) (l' y)) (t:Prf args):CallD Tryz.prog G f args l K t :=
 Xcn hr λ y hy hr=>CallD.ofE (h.h G hw y hy) hf (hK y hr) t
theorem rn (fn:Func) (rs:List ResultVar) (fr:List Nat) (nt:Nat)
 (hk:(Tryz.prog.funcs[f]?,fn.body,fn.name== "runtime.NumGoroutine",fn.results,fn.ntmps,a.length.ble nt)=(some fn,some (fn.body.get!),false,⟨rs⟩,nt,true))
 (h:∀ G,GW G->∀ r,o=some r->∀ (C:Cx) x,C.G=G->WfL Tryz.prog a->Fn f->run Tryz.prog (C.sub 0 x) (VB Tryz.prog rs fr l.length (Eqs (e r) (l' r))) 1000 [.code (fn.body.get!)] (st0 a l nt)):OK o f a l e l':=by
 injection hk with h1 hk;injection hk with h2 hk;injection hk with h3 hk;injection hk with h4 hk;injection hk with h5 h6
 exact ⟨λ G hw r hr=>Yl 1000 fr nt h1 h2 h3 h4 h5 (Nat.le_of_ble_eq_true h6) λ C x hG hwf=>h G hw r hr C x hG hwf ⟨⟩⟩
end
def bm (b n:Nat):List Nat:=((List.range (n.log2+1)).filter λ i=>n / 2 ^ i % 2==1).map λ i=>i+b
theorem Xor {b n x:Nat}:(bm b n).contains x=(decide (b<=x)&&n / 2 ^ (x-b) % 2==1):=by
 rw[Bool.eq_iff_iff,U7,bm,UY]
 simp only[UV,List.mem_range,beq_iff_eq,WE,decide_eq_true_eq]
 constructor
 ·rintro ⟨i,⟨h1,h2⟩,rfl⟩
  rw[Is]
  exact ⟨Nat.le_add_left _ _,h2⟩
 ·rintro ⟨h1,h3⟩
  refine ⟨x-b,⟨?_,h3⟩,Nat.sub_add_cancel h1⟩
  have hp:0<n / 2 ^ (x-b):=by
   rcases Uj (n / 2 ^ (x-b)) with h | h
   ·rw[h] at h3;cases h3
   ·exact h
  have hle:2 ^ (x-b)<=n:=by
   rcases Uo n (2 ^ (x-b)) with h | h
   ·rw[Nat.div_eq_of_lt h] at hp;cases hp
   ·exact h
  have hn:n≠0:=by
   rintro rfl
   have:=Nat.two_pow_pos (x-b)
   omega
  exact Nat.lt_succ_of_le ((Nat.le_log2 hn).2 hle)
theorem XpW {b n x:Nat} {p q:D}:(if (bm b n).contains x=true then p else q)=if x<b then q else if n / 2 ^ (x-b) % 2=1 then p else q:=by
 rw[Xor]
 by_cases h1:x<b
 ·rw[Wm h1,Wj (Nat.not_le.2 h1),Um];rfl
 rw[Wk h1,Wh (Nat.not_lt.1 h1),WR]
 by_cases h3:n / 2 ^ (x-b) % 2=1
 ·rw[Wm h3,Wm (beq_iff_eq.2 h3)]
 ·rw[Wk h3,Wk (λ h=>h3 (beq_iff_eq.1 h))]
def Xcm (b:Nat):Nat->List Oper->List (Nat×Nat×List (List Nat))->List En
 | i,o::l,(a,m,[])::x=>⟨i,o,bm 0 a,[],bm b m,[]⟩::Xcm b (i+1) l x
 | i,o::l,(a,m,[w,k])::x=>⟨i,o,bm 0 a,w,bm b m,k⟩::Xcm b (i+1) l x
 | _,[],[]=>[]
 | i,_,_=>[⟨i,⟨none,.assign (.tmp 0),0,"",#[],none⟩,[],[],[],[]⟩]
attribute [go_sem] XpW Xcm
theorem db {C:Cx} {R:St->Prop} {k:List It} {st:St} {l:List Oper} (f id:Nat) (_:Fn f) (b:Nat) (aux:List (Nat×Nat×List (List Nat))) (ho:(Xcm b 0 l aux).map (·.o)=l) (hi:(Xcm b 0 l aux).map (·.i)=List.range (Xcm b 0 l aux).length) (hc:Xi5 (Xcm b 0 l aux)=true)
 (h:dr Tryz.prog C ⟨l⟩ st.k (Xcm b 0 l aux) st λ st'=>run Tryz.prog C R 1000 k ⟨st'.t,st'.s,st'.n,st.k+(Xcm b 0 l aux).length⟩) (t:Prf (⟨l⟩:Array Oper)) (hrd:C.rd=none:=by rfl):DrawnG Tryz.prog C R id ⟨l⟩ k st t :=
 DrawnG.of XpV (Xcm b 0 l aux) 1000 ho hi hc h t hrd
class El {α:Type} (x:Option α) (r:α) (K:outParam (Prop->Prop)):Prop where
 el:∀ {G:Prop},x=some r->K G->G
instance {α:Type} {p:Prop} [Decidable p] {x:Option α} {r:α}:El (grd p x) r λ G=>x=some r->p->G:=⟨λ h k=>XoD h λ a b=>k b a⟩
instance {κ α:Type} {k:κ} {f:κ->Option α} {r:α}:El (jn k f) r λ G=>f k=some r->G:=⟨λ h k=>Xqr h k⟩
instance {α β γ:Type} {b:β} {f:α->Option γ} {k:β->Option γ} {r:γ}:El (exK (.nxt b) f k) r λ G=>k b=some r->G:=⟨λ h k=>XoE h k⟩
instance {α β γ:Type} {b:α} {f:α->Option γ} {k:β->Option γ} {r:γ}:El (exK (.ret b) f k) r λ G=>f b=some r->G:=⟨λ h k=>XoF h k⟩
instance {α:Type} {x y:Option α} {r:α}:El (bif true then x else y) r λ G=>x=some r->G:=⟨λ h k=>k h⟩
instance {α:Type} {x y:Option α} {r:α}:El (bif false then x else y) r λ G=>y=some r->G:=⟨λ h k=>k h⟩
instance {α:Type} {x y:Option α} {r:α}:El (bif !false then x else y) r λ G=>x=some r->G:=⟨λ h k=>k h⟩
instance {α:Type} {x y:Option α} {r:α}:El (bif !true then x else y) r λ G=>y=some r->G:=⟨λ h k=>k h⟩
theorem XB {α:Type} {G:Prop} {b c:Bool} {x y:Option α} {r:α} (h:(bif b then x else y)=some r) (hb:b=c) (g:(bif c then x else y)=some r->G):G:=g (hb▸h)
theorem XqU:wI (-1) = -1:=by unfold wI;decide
end Go.Sx
namespace Go.Sx
open Go.Proofs
set_option maxRecDepth 10000
theorem ZZ {α:Type} {e:α->List D} {p:α->Prop}:∀ {es:List (List D)},(∀ x∈es,∃ y,x=e y/\p y)->∃ l:List α,es=l.map e/\∀ x∈l,p x
 | [],_=>⟨[],rfl,λ x h=>by cases h⟩
 | x::es,h=>by
  obtain ⟨y,rfl,hy⟩:=h x (by simp)
  obtain ⟨l,rfl,hl⟩:=ZZ (e:=e) (p:=p) (es:=es) λ z hz=>h z (Ug _ hz)
  exact ⟨y::l,rfl,λ z hz=>by rcases UH.1 hz with rfl | hz;exact hy;exact hl z hz⟩
section
variable {P:Program} {t e:TypeId} {fs:List (Nat×Nat×Nat)} {a b s:Nat} {z:Value}
theorem Xca (m:Nat) (h:Xm P t=some ⟨a,b,z,.slice e s⟩) (ds:List D):Sh P (m+1) t ds=∃ es,ds=[.isl e (P.cellsOf e) es]/\es.length<=Xl/\es.length*P.bytesOf e<=Xl/\∀ x∈es,Sh P m e x:=by simp only[Sh,(XX h).1]
theorem Vc (m:Nat) (h:Xm P t=some ⟨a,b,z,.struct fs⟩) (ds:List D):Sh P (m+1) t ds=ShF (Sh P m) (fs.map (·.2.2)) ds:=by
 obtain ⟨fields,h1,h2,_⟩:=ZI h
 simp only[Sh,h1]
 rw[h2,List.map_map]
 rfl
theorem Xd4 (h:Xm P t=some ⟨a,b,z,.int .u64⟩):∀ (m:Nat) (ds:List D),Sh P m t ds->∃ n,ds=[.v (.int .u64 n)]/\tU n
 | 0,_,h'=>h'.elim
 | m+1,ds,h'=>by
  simp only[Sh,XaO h] at h'
  obtain ⟨n,rfl,h1,h2⟩:=h'
  exact ⟨n,rfl,by unfold tU;rw[XgI] at h1;rw[XgJ] at h2;exact ⟨h1,h2⟩⟩
theorem ZC (h:Xm P t=some ⟨a,b,z,.int .i64⟩):∀ (m:Nat) (ds:List D),Sh P m t ds->∃ n,ds=[.v (.int .i64 n)]/\True
 | 0,_,h'=>h'.elim
 | m+1,ds,h'=>by
  simp only[Sh,XaO h] at h'
  obtain ⟨n,rfl,h1,h2⟩:=h'
  exact ⟨n,rfl,trivial⟩
theorem Xd5 (h:Xm P t=some ⟨a,b,z,.bool⟩):∀ (m:Nat) (ds:List D),Sh P m t ds->∃ b,ds=[.v (.bool b)]/\True
 | 0,_,h'=>h'.elim
 | m+1,ds,h'=>by
  simp only[Sh,Xd8 h] at h'
  obtain ⟨n,rfl⟩:=h'
  exact ⟨n,rfl,trivial⟩
end
theorem XqV:Tryz.prog.cellsOf 3=1:=by kernel_rfl
theorem XpX:Tryz.prog.cellsOf 71=1:=by kernel_rfl
theorem XpY:Tryz.prog.cellsOf 77=2:=by kernel_rfl
theorem XpZ:Tryz.prog.cellsOf 88=3:=by kernel_rfl
theorem Xp0:Tryz.prog.cellsOf 90=3:=by kernel_rfl
theorem Xp1:Tryz.prog.cellsOf 92=3:=by kernel_rfl
theorem Xos:Tryz.prog.cellsOf 108=4:=by kernel_rfl
theorem Xp2:∀ (m:Nat) (ds:List D),Sh Tryz.prog m 23 ds->∃ x:WQ,ds=e23 x/\True
 | 0,_,h=>h.elim
 | m+1,ds,h=>by
  rw[show Sh Tryz.prog (m+1) 23 ds=_ from Vc m Xpe ds] at h
  simp only[W7,UA,ShF] at h
  obtain ⟨c0,_,rfl,s0,⟨c1,_,rfl,s1,rfl⟩⟩:=h
  obtain ⟨x0,rfl,p0⟩:=ZC ty3 _ _ s0
  obtain ⟨x1,rfl,p1⟩:=ZC ty3 _ _ s1
  exact ⟨⟨x0,x1⟩,rfl,trivial⟩
theorem Xot (m:Nat) (x:List D) (h:Sh Tryz.prog m 71 x):∃ y:Int,x=e71 y/\tU y:=by
 obtain ⟨n,rfl,hp⟩:=Xd4 XkQ m x h
 exact ⟨n,rfl,hp⟩
theorem Xnp:∀ (m:Nat) (ds:List D),Sh Tryz.prog m 24 ds->∃ l:List Int,ds=[.isl 71 1 (l.map e71)]/\l.length*8<=Xl/\∀ x∈l,(λ x=>tU x) x
 | 0,_,h=>h.elim
 | m+1,ds,h=>by
  rw[show Sh Tryz.prog (m+1) 24 ds=_ from Xca m Xpf ds] at h
  obtain ⟨es,rfl,_,hb,hs⟩:=h
  obtain ⟨l,rfl,hl⟩:=ZZ (p:=(λ x=>tU x)) (λ x hx=>Xot m x (hs x hx))
  exact ⟨l,by rw[XpX],by rw[W3,XdY] at hb;exact hb,hl⟩
theorem Xou:∀ (m:Nat) (ds:List D),Sh Tryz.prog m 108 ds->∃ x:Wv,ds=XF x/\True
 | 0,_,h=>h.elim
 | m+1,ds,h=>by
  rw[show Sh Tryz.prog (m+1) 108 ds=_ from Vc m Xno ds] at h
  simp only[W7,UA,ShF] at h
  obtain ⟨c0,_,rfl,s0,⟨c1,_,rfl,s1,⟨c2,_,rfl,s2,⟨c3,_,rfl,s3,rfl⟩⟩⟩⟩:=h
  obtain ⟨x0,rfl,p0⟩:=ZC ty3 _ _ s0
  obtain ⟨x1,rfl,p1⟩:=ZC ty3 _ _ s1
  obtain ⟨x2,rfl,p2⟩:=ZC ty3 _ _ s2
  obtain ⟨x3,rfl,p3⟩:=ZC ty3 _ _ s3
  exact ⟨⟨x0,x1,x2,x3⟩,rfl,trivial⟩
theorem Xm8 (m:Nat) (x:List D) (h:Sh Tryz.prog m 108 x):∃ y:Wv,x=XF y/\True:=by
 obtain ⟨n,rfl,hp⟩:=Xou m x h
 exact ⟨n,rfl,trivial⟩
theorem Xp3:∀ (m:Nat) (ds:List D),Sh Tryz.prog m 25 ds->∃ l:List Wv,ds=[.isl 108 4 (l.map XF)]/\l.length*32<=Xl/\∀ x∈l,(λ _=>True) x
 | 0,_,h=>h.elim
 | m+1,ds,h=>by
  rw[show Sh Tryz.prog (m+1) 25 ds=_ from Xca m Xpg ds] at h
  obtain ⟨es,rfl,_,hb,hs⟩:=h
  obtain ⟨l,rfl,hl⟩:=ZZ (p:=(λ _=>True)) (λ x hx=>Xm8 m x (hs x hx))
  exact ⟨l,by rw[Xos],by rw[W3,Xb9] at hb;exact hb,hl⟩
theorem Xp4:∀ (m:Nat) (ds:List D),Sh Tryz.prog m 27 ds->∃ x:Wn,ds=e27 x/\XL x
 | 0,_,h=>h.elim
 | m+1,ds,h=>by
  rw[show Sh Tryz.prog (m+1) 27 ds=_ from Vc m Xph ds] at h
  simp only[W7,UA,ShF] at h
  obtain ⟨c0,_,rfl,s0,⟨c1,_,rfl,s1,⟨c2,_,rfl,s2,⟨c3,_,rfl,s3,⟨c4,_,rfl,s4,rfl⟩⟩⟩⟩⟩:=h
  obtain ⟨x0,rfl,p0⟩:=Xp2 _ _ s0
  obtain ⟨x1,rfl,_,p1⟩:=Xnp _ _ s1
  obtain ⟨x2,rfl,_,p2⟩:=Xp3 _ _ s2
  obtain ⟨x3,rfl,p3⟩:=ZC ty3 _ _ s3
  obtain ⟨x4,rfl,p4⟩:=ZC ty3 _ _ s4
  exact ⟨⟨x0,x1,x2,x3,x4⟩,rfl,p1⟩
theorem Xp5:∀ (m:Nat) (ds:List D),Sh Tryz.prog m 88 ds->∃ x:UX,ds=e88 x/\X7 x
 | 0,_,h=>h.elim
 | m+1,ds,h=>by
  rw[show Sh Tryz.prog (m+1) 88 ds=_ from Vc m Xpr ds] at h
  simp only[W7,UA,ShF] at h
  obtain ⟨c0,_,rfl,s0,⟨c1,_,rfl,s1,⟨c2,_,rfl,s2,rfl⟩⟩⟩:=h
  obtain ⟨x0,rfl,p0⟩:=ZC ty3 _ _ s0
  obtain ⟨x1,rfl,p1⟩:=Xd4 XkQ _ _ s1
  obtain ⟨x2,rfl,p2⟩:=Xd5 ty4 _ _ s2
  exact ⟨⟨x0,x1,x2⟩,rfl,p1⟩
theorem Xov (m:Nat) (x:List D) (h:Sh Tryz.prog m 88 x):∃ y:UX,x=e88 y/\X7 y:=by
 obtain ⟨n,rfl,hp⟩:=Xp5 m x h
 exact ⟨n,rfl,hp⟩
theorem Xp6:∀ (m:Nat) (ds:List D),Sh Tryz.prog m 28 ds->∃ l:List UX,ds=[.isl 88 3 (l.map e88)]/\l.length*24<=Xl/\∀ x∈l,(λ x=>X7 x) x
 | 0,_,h=>h.elim
 | m+1,ds,h=>by
  rw[show Sh Tryz.prog (m+1) 28 ds=_ from Xca m Xpi ds] at h
  obtain ⟨es,rfl,_,hb,hs⟩:=h
  obtain ⟨l,rfl,hl⟩:=ZZ (p:=(λ x=>X7 x)) (λ x hx=>Xov m x (hs x hx))
  exact ⟨l,by rw[XpZ],by rw[W3,Xd0] at hb;exact hb,hl⟩
theorem Xp7:∀ (m:Nat) (ds:List D),Sh Tryz.prog m 90 ds->∃ x:U0,ds=e90 x/\True
 | 0,_,h=>h.elim
 | m+1,ds,h=>by
  rw[show Sh Tryz.prog (m+1) 90 ds=_ from Vc m Xps ds] at h
  simp only[W7,UA,ShF] at h
  obtain ⟨c0,_,rfl,s0,⟨c1,_,rfl,s1,⟨c2,_,rfl,s2,rfl⟩⟩⟩:=h
  obtain ⟨x0,rfl,p0⟩:=ZC ty3 _ _ s0
  obtain ⟨x1,rfl,p1⟩:=ZC ty3 _ _ s1
  obtain ⟨x2,rfl,p2⟩:=Xd5 ty4 _ _ s2
  exact ⟨⟨x0,x1,x2⟩,rfl,trivial⟩
theorem Xow (m:Nat) (x:List D) (h:Sh Tryz.prog m 90 x):∃ y:U0,x=e90 y/\True:=by
 obtain ⟨n,rfl,hp⟩:=Xp7 m x h
 exact ⟨n,rfl,trivial⟩
theorem Xp8:∀ (m:Nat) (ds:List D),Sh Tryz.prog m 29 ds->∃ l:List U0,ds=[.isl 90 3 (l.map e90)]/\l.length*24<=Xl/\∀ x∈l,(λ _=>True) x
 | 0,_,h=>h.elim
 | m+1,ds,h=>by
  rw[show Sh Tryz.prog (m+1) 29 ds=_ from Xca m Xpj ds] at h
  obtain ⟨es,rfl,_,hb,hs⟩:=h
  obtain ⟨l,rfl,hl⟩:=ZZ (p:=(λ _=>True)) (λ x hx=>Xow m x (hs x hx))
  exact ⟨l,by rw[Xp0],by rw[W3,Xd1] at hb;exact hb,hl⟩
theorem Xp9 (m:Nat) (x:List D) (h:Sh Tryz.prog m 3 x):∃ y:Int,x=e3 y/\True:=by
 obtain ⟨n,rfl,hp⟩:=ZC ty3 m x h
 exact ⟨n,rfl,trivial⟩
theorem Xqa:∀ (m:Nat) (ds:List D),Sh Tryz.prog m 30 ds->∃ l:List Int,ds=[.isl 3 1 (l.map e3)]/\l.length*8<=Xl/\∀ x∈l,(λ _=>True) x
 | 0,_,h=>h.elim
 | m+1,ds,h=>by
  rw[show Sh Tryz.prog (m+1) 30 ds=_ from Xca m Xpk ds] at h
  obtain ⟨es,rfl,_,hb,hs⟩:=h
  obtain ⟨l,rfl,hl⟩:=ZZ (p:=(λ _=>True)) (λ x hx=>Xp9 m x (hs x hx))
  exact ⟨l,by rw[XqV],by rw[W3,Xgu] at hb;exact hb,hl⟩
theorem Xqb:∀ (m:Nat) (ds:List D),Sh Tryz.prog m 32 ds->∃ x:Ww,ds=e32 x/\XJ x
 | 0,_,h=>h.elim
 | m+1,ds,h=>by
  rw[show Sh Tryz.prog (m+1) 32 ds=_ from Vc m Xpl ds] at h
  simp only[W7,UA,ShF] at h
  obtain ⟨c0,_,rfl,s0,⟨c1,_,rfl,s1,⟨c2,_,rfl,s2,rfl⟩⟩⟩:=h
  obtain ⟨x0,rfl,_,p0⟩:=Xp6 _ _ s0
  obtain ⟨x1,rfl,_,p1⟩:=Xp8 _ _ s1
  obtain ⟨x2,rfl,_,p2⟩:=Xqa _ _ s2
  exact ⟨⟨x0,x1,x2⟩,rfl,p0⟩
theorem Xqc:∀ (m:Nat) (ds:List D),Sh Tryz.prog m 92 ds->∃ x:Ua,ds=e92 x/\Xv x
 | 0,_,h=>h.elim
 | m+1,ds,h=>by
  rw[show Sh Tryz.prog (m+1) 92 ds=_ from Vc m Xpt ds] at h
  simp only[W7,UA,ShF] at h
  obtain ⟨c0,_,rfl,s0,⟨c1,_,rfl,s1,⟨c2,_,rfl,s2,rfl⟩⟩⟩:=h
  obtain ⟨x0,rfl,p0⟩:=ZC ty3 _ _ s0
  obtain ⟨x1,rfl,p1⟩:=Xd4 XkQ _ _ s1
  obtain ⟨x2,rfl,p2⟩:=Xd5 ty4 _ _ s2
  exact ⟨⟨x0,x1,x2⟩,rfl,p1⟩
theorem Xox (m:Nat) (x:List D) (h:Sh Tryz.prog m 92 x):∃ y:Ua,x=e92 y/\Xv y:=by
 obtain ⟨n,rfl,hp⟩:=Xqc m x h
 exact ⟨n,rfl,hp⟩
theorem Xqd:∀ (m:Nat) (ds:List D),Sh Tryz.prog m 33 ds->∃ l:List Ua,ds=[.isl 92 3 (l.map e92)]/\l.length*24<=Xl/\∀ x∈l,(λ x=>Xv x) x
 | 0,_,h=>h.elim
 | m+1,ds,h=>by
  rw[show Sh Tryz.prog (m+1) 33 ds=_ from Xca m Xpm ds] at h
  obtain ⟨es,rfl,_,hb,hs⟩:=h
  obtain ⟨l,rfl,hl⟩:=ZZ (p:=(λ x=>Xv x)) (λ x hx=>Xox m x (hs x hx))
  exact ⟨l,by rw[Xp1],by rw[W3,Xd2] at hb;exact hb,hl⟩
theorem Xnq:∀ (m:Nat) (ds:List D),Sh Tryz.prog m 35 ds->∃ x:WG,ds=e35 x/\XW x
 | 0,_,h=>h.elim
 | m+1,ds,h=>by
  rw[show Sh Tryz.prog (m+1) 35 ds=_ from Vc m Xpn ds] at h
  simp only[W7,UA,ShF] at h
  obtain ⟨c0,_,rfl,s0,rfl⟩:=h
  obtain ⟨x0,rfl,_,p0⟩:=Xqd _ _ s0
  exact ⟨⟨x0⟩,rfl,p0⟩
theorem Xqe:∀ (m:Nat) (ds:List D),Sh Tryz.prog m 77 ds->∃ x:UG,ds=e77 x/\YD x
 | 0,_,h=>h.elim
 | m+1,ds,h=>by
  rw[show Sh Tryz.prog (m+1) 77 ds=_ from Vc m Xpq ds] at h
  simp only[W7,UA,ShF] at h
  obtain ⟨c0,_,rfl,s0,⟨c1,_,rfl,s1,rfl⟩⟩:=h
  obtain ⟨x0,rfl,p0⟩:=Xd4 XkQ _ _ s0
  obtain ⟨x1,rfl,p1⟩:=ZC ty3 _ _ s1
  exact ⟨⟨x0,x1⟩,rfl,p0⟩
theorem Xoy (m:Nat) (x:List D) (h:Sh Tryz.prog m 77 x):∃ y:UG,x=e77 y/\YD y:=by
 obtain ⟨n,rfl,hp⟩:=Xqe m x h
 exact ⟨n,rfl,hp⟩
theorem Xqf:∀ (m:Nat) (ds:List D),Sh Tryz.prog m 36 ds->∃ l:List UG,ds=[.isl 77 2 (l.map e77)]/\l.length*16<=Xl/\∀ x∈l,(λ x=>YD x) x
 | 0,_,h=>h.elim
 | m+1,ds,h=>by
  rw[show Sh Tryz.prog (m+1) 36 ds=_ from Xca m Xpo ds] at h
  obtain ⟨es,rfl,_,hb,hs⟩:=h
  obtain ⟨l,rfl,hl⟩:=ZZ (p:=(λ x=>YD x)) (λ x hx=>Xoy m x (hs x hx))
  exact ⟨l,by rw[XpY],by rw[W3,XdZ] at hb;exact hb,hl⟩
theorem XqX:∀ (m:Nat) (ds:List D),Sh Tryz.prog m 38 ds->∃ x:W8,ds=e38 x/\X0 x
 | 0,_,h=>h.elim
 | m+1,ds,h=>by
  rw[show Sh Tryz.prog (m+1) 38 ds=_ from Vc m Xpp ds] at h
  simp only[W7,UA,ShF] at h
  obtain ⟨c0,_,rfl,s0,⟨c1,_,rfl,s1,⟨c2,_,rfl,s2,⟨c3,_,rfl,s3,⟨c4,_,rfl,s4,⟨c5,_,rfl,s5,rfl⟩⟩⟩⟩⟩⟩:=h
  obtain ⟨x0,rfl,p0⟩:=Xp4 _ _ s0
  obtain ⟨x1,rfl,p1⟩:=Xqb _ _ s1
  obtain ⟨x2,rfl,p2⟩:=Xnq _ _ s2
  obtain ⟨x3,rfl,p3⟩:=Xnq _ _ s3
  obtain ⟨x4,rfl,_,p4⟩:=Xqf _ _ s4
  obtain ⟨x5,rfl,_,p5⟩:=Xnp _ _ s5
  exact ⟨⟨x0,x1,x2,x3,x4,x5⟩,rfl,⟨p0,p1,p2,p3,p4,p5⟩⟩
end Go.Sx
namespace Go.Sx
open Go.Proofs
section
variable {α β:Type} {o:Option α} {y:α} {f:Nat} {a args:List D} {l:List Ob} {e:α->D} {l':α->List Ob} {G:Nat->Option (List D)} {K:D->List Ob->Prop}
theorem OK.t [h:OK o f a l e l'] (ho:o=some y) (hw:GW G) (hf:Zh args a) (hK:K (e y) (l' y)) (t:Prf args):CallG Tryz.prog G f args l K t:=CallG.ofE (h.h G hw y ho) hf hK t
theorem OO [h:OK o f a l e l'] (ho:o=some y) (hw:GW G) (hf:Zh args a) (hK:K (e y) (l' y)) (t:Prf args):CallD Tryz.prog G f args l K t:=CallD.ofE (h.h G hw y ho) hf hK t
theorem OP {β:Type} {k:α->Option β} {r:β} {C:Cx} {s:Heap} {K':D->Prop} [h:OK o f a [] e l'] (hr:bnd o k=some r) (hw:GW G) (hG:C.G=G) (hro:RoA Tryz.prog C s args a) (hsc:∀ y,scal (e y)=true) (hK:∀ y,k y=some r->K' (e y)) (t:Prf args):Xnd Tryz.prog C s f args K' t :=
 Xcn hr λ y hy hr=>⟨a,Eqs (e y) (l' y),hro,hG▸h.h G hw y hy,⟨_,_,rfl,rfl⟩,λ _ _ h1=>h1.1▸⟨hsc y,hK y hr⟩⟩
end
end Go.Sx
