import Derived.KernelRfl
import Derived.Test.YtgdnaekdnmegbaaGreatDoorChecked
import Derived.Test.YtgdnaekdnmegbaaGreatDoorB
import Derived.Test.YtgdnaekdnmegbaaGreatDoorE
set_option linter.all false
namespace Go.Sx
open Go.Proofs
theorem ty3:tyOf Tryz.prog 3=some ⟨1,8,(.int .i64 0),.int .i64⟩:=by kernel_rfl
theorem bytes3:Tryz.prog.bytesOf 3=8:=by kernel_rfl
theorem ty4:tyOf Tryz.prog 4=some ⟨1,1,(.bool false),.bool⟩:=by kernel_rfl
theorem bytes4:Tryz.prog.bytesOf 4=1:=by kernel_rfl
theorem ty23:tyOf Tryz.prog 23=some ⟨2,16,(.agg #[(.int .i64 0),(.int .i64 0)]),.struct [(0,1,3),(1,1,3)]⟩:=by kernel_rfl
theorem bytes23:Tryz.prog.bytesOf 23=16:=by kernel_rfl
theorem ty24:tyOf Tryz.prog 24=some ⟨1,24,(.slice none 0 0),.slice 99 4⟩:=by kernel_rfl
theorem ty25:tyOf Tryz.prog 25=some ⟨1,24,(.slice none 0 0),.slice 179 3⟩:=by kernel_rfl
theorem ty26:tyOf Tryz.prog 26=some ⟨1,24,(.slice none 0 0),.slice 134 3⟩:=by kernel_rfl
theorem ty27:tyOf Tryz.prog 27=some ⟨1,24,(.slice none 0 0),.slice 3 1⟩:=by kernel_rfl
theorem ty29:tyOf Tryz.prog 29=some ⟨3,72,(.agg #[(.slice none 0 0),(.slice none 0 0),(.slice none 0 0)]),.struct [(0,1,25),(1,1,26),(2,1,27)]⟩:=by kernel_rfl
theorem bytes29:Tryz.prog.bytesOf 29=72:=by kernel_rfl
theorem ty30:tyOf Tryz.prog 30=some ⟨1,24,(.slice none 0 0),.slice 148 3⟩:=by kernel_rfl
theorem ty32:tyOf Tryz.prog 32=some ⟨1,24,(.agg #[(.slice none 0 0)]),.struct [(0,1,30)]⟩:=by kernel_rfl
theorem bytes32:Tryz.prog.bytesOf 32=24:=by kernel_rfl
theorem ty33:tyOf Tryz.prog 33=some ⟨1,24,(.slice none 0 0),.slice 74 3⟩:=by kernel_rfl
theorem ty34:tyOf Tryz.prog 34=some ⟨1,24,(.slice none 0 0),.slice 37 1⟩:=by kernel_rfl
theorem bytes34:Tryz.prog.bytesOf 34=24:=by kernel_rfl
theorem ty36:tyOf Tryz.prog 36=some ⟨10,208,(.agg #[(.int .i64 0),(.int .i64 0),(.slice none 0 0),(.slice none 0 0),(.slice none 0 0),(.slice none 0 0),(.slice none 0 0),(.slice none 0 0),(.slice none 0 0),(.slice none 0 0)]),.struct [(0,2,23),(2,1,24),(3,3,29),(6,1,32),(7,1,32),(8,1,33),(9,1,34)]⟩:=by kernel_rfl
theorem bytes36:Tryz.prog.bytesOf 36=208:=by kernel_rfl
theorem ty37:tyOf Tryz.prog 37=some ⟨1,8,(.int .u64 0),.int .u64⟩:=by kernel_rfl
theorem bytes37:Tryz.prog.bytesOf 37=8:=by kernel_rfl
theorem ty38:tyOf Tryz.prog 38=some ⟨1,24,(.slice none 0 0),.slice 260 4⟩:=by kernel_rfl
theorem ty40:tyOf Tryz.prog 40=some ⟨6,80,(.agg #[(.int .i64 0),(.int .i64 0),(.slice none 0 0),(.slice none 0 0),(.int .i64 0),(.int .i64 0)]),.struct [(0,2,23),(2,1,34),(3,1,38),(4,1,3),(5,1,3)]⟩:=by kernel_rfl
theorem bytes40:Tryz.prog.bytesOf 40=80:=by kernel_rfl
theorem ty41:tyOf Tryz.prog 41=some ⟨1,24,(.slice none 0 0),.slice 193 2⟩:=by kernel_rfl
theorem ty43:tyOf Tryz.prog 43=some ⟨13,248,(.agg #[(.int .i64 0),(.int .i64 0),(.slice none 0 0),(.slice none 0 0),(.int .i64 0),(.int .i64 0),(.slice none 0 0),(.slice none 0 0),(.slice none 0 0),(.slice none 0 0),(.slice none 0 0),(.slice none 0 0),(.slice none 0 0)]),.struct [(0,6,40),(6,3,29),(9,1,32),(10,1,32),(11,1,41),(12,1,34)]⟩:=by kernel_rfl
theorem bytes43:Tryz.prog.bytesOf 43=248:=by kernel_rfl
theorem ty45:tyOf Tryz.prog 45=some ⟨24,480,(.agg #[(.int .i64 0),(.int .i64 0),(.slice none 0 0),(.slice none 0 0),(.int .i64 0),(.int .i64 0),(.slice none 0 0),(.slice none 0 0),(.slice none 0 0),(.slice none 0 0),(.slice none 0 0),(.slice none 0 0),(.slice none 0 0),(.int .i64 0),(.int .i64 0),(.slice none 0 0),(.slice none 0 0),(.slice none 0 0),(.slice none 0 0),(.slice none 0 0),(.slice none 0 0),(.slice none 0 0),(.slice none 0 0),(.slice none 0 0)]),.struct [(0,13,43),(13,10,36),(23,1,34)]⟩:=by kernel_rfl
theorem bytes45:Tryz.prog.bytesOf 45=480:=by kernel_rfl
theorem ty49:tyOf Tryz.prog 49=some ⟨2,32,(.agg #[(.slice none 0 0),(.int .i64 0)]),.struct [(0,1,27),(1,1,3)]⟩:=by kernel_rfl
theorem bytes49:Tryz.prog.bytesOf 49=32:=by kernel_rfl
theorem ty51:tyOf Tryz.prog 51=some ⟨4,32,(.agg #[(.int .i64 0),(.int .u64 0),(.int .u64 0),(.int .u64 0)]),.struct [(0,1,3),(1,1,37),(2,1,37),(3,1,37)]⟩:=by kernel_rfl
theorem bytes51:Tryz.prog.bytesOf 51=32:=by kernel_rfl
theorem ty52:tyOf Tryz.prog 52=some ⟨1,24,(.slice none 0 0),.slice 51 4⟩:=by kernel_rfl
theorem ty54:tyOf Tryz.prog 54=some ⟨1,24,(.slice none 0 0),.slice 36 10⟩:=by kernel_rfl
theorem ty58:tyOf Tryz.prog 58=some ⟨1,24,(.slice none 0 0),.slice 100 4⟩:=by kernel_rfl
theorem ty59:tyOf Tryz.prog 59=some ⟨1,24,(.slice none 0 0),.slice 101 3⟩:=by kernel_rfl
theorem ty61:tyOf Tryz.prog 61=some ⟨10,208,(.agg #[(.int .i64 0),(.int .i64 0),(.slice none 0 0),(.slice none 0 0),(.slice none 0 0),(.slice none 0 0),(.slice none 0 0),(.slice none 0 0),(.slice none 0 0),(.slice none 0 0)]),.struct [(0,2,23),(2,1,58),(3,3,29),(6,1,32),(7,1,32),(8,1,59),(9,1,34)]⟩:=by kernel_rfl
theorem bytes61:Tryz.prog.bytesOf 61=208:=by kernel_rfl
theorem ty74:tyOf Tryz.prog 74=some ⟨3,24,(.agg #[(.int .u64 0),(.int .i64 0),(.int .u64 0)]),.struct [(0,1,37),(1,1,3),(2,1,37)]⟩:=by kernel_rfl
theorem bytes74:Tryz.prog.bytesOf 74=24:=by kernel_rfl
theorem ty84:tyOf Tryz.prog 84=some ⟨1,8,(.int .u64 0),.int .u64⟩:=by kernel_rfl
theorem ty87:tyOf Tryz.prog 87=some ⟨1,8,.nilFunc,.other⟩:=by kernel_rfl
theorem ty89:tyOf Tryz.prog 89=some ⟨1,8,(.agg #[.nilFunc]),.struct [(0,1,87)]⟩:=by kernel_rfl
theorem ty94:tyOf Tryz.prog 94=some ⟨14,240,(.agg #[(.int .i64 0),(.int .i64 0),(.slice none 0 0),(.slice none 0 0),(.slice none 0 0),(.slice none 0 0),(.slice none 0 0),(.slice none 0 0),(.slice none 0 0),(.slice none 0 0),(.int .u64 0),(.int .u64 0),(.int .u64 0),(.bool false)]),.struct [(0,10,61),(10,1,37),(11,1,37),(12,1,37),(13,1,4)]⟩:=by kernel_rfl
theorem bytes94:Tryz.prog.bytesOf 94=240:=by kernel_rfl
theorem ty95:tyOf Tryz.prog 95=some ⟨1,4,(.int .u32 0),.int .u32⟩:=by kernel_rfl
theorem ty97:tyOf Tryz.prog 97=some ⟨3,24,(.agg #[(.int .i64 0),(.int .i64 0),(.int .u32 0)]),.struct [(0,1,3),(1,1,3),(2,1,95)]⟩:=by kernel_rfl
theorem bytes97:Tryz.prog.bytesOf 97=24:=by kernel_rfl
theorem flat97:flatKinds Tryz.prog 97=some [some .i64,some .i64,some .u32]:=by kernel_rfl
theorem ty99:tyOf Tryz.prog 99=some ⟨4,48,(.agg #[(.int .i64 0),(.int .i64 0),(.int .u32 0),(.slice none 0 0)]),.struct [(0,3,97),(3,1,34)]⟩:=by kernel_rfl
theorem bytes99:Tryz.prog.bytesOf 99=48:=by kernel_rfl
theorem ty100:tyOf Tryz.prog 100=some ⟨4,48,(.agg #[(.int .i64 0),(.int .i64 0),(.int .u32 0),(.slice none 0 0)]),.struct [(0,3,97),(3,1,34)]⟩:=by kernel_rfl
theorem bytes100:Tryz.prog.bytesOf 100=48:=by kernel_rfl
theorem ty101:tyOf Tryz.prog 101=some ⟨3,24,(.agg #[(.int .u64 0),(.int .i64 0),(.int .u64 0)]),.struct [(0,1,37),(1,1,3),(2,1,37)]⟩:=by kernel_rfl
theorem bytes101:Tryz.prog.bytesOf 101=24:=by kernel_rfl
theorem ty122:tyOf Tryz.prog 122=some ⟨3,24,(.agg #[(.int .i64 0),(.int .i64 0),(.int .i64 0)]),.struct [(0,1,3),(1,1,3),(2,1,3)]⟩:=by kernel_rfl
theorem bytes122:Tryz.prog.bytesOf 122=24:=by kernel_rfl
theorem ty134:tyOf Tryz.prog 134=some ⟨3,24,(.agg #[(.int .i64 0),(.int .i64 0),(.bool false)]),.struct [(0,1,3),(1,1,3),(2,1,4)]⟩:=by kernel_rfl
theorem bytes134:Tryz.prog.bytesOf 134=24:=by kernel_rfl
theorem ty136:tyOf Tryz.prog 136=some ⟨6,48,(.agg #[(.int .i64 0),(.int .i64 0),(.int .i64 0),(.int .i64 0),(.int .i64 0),(.int .i64 0)]),.struct [(0,1,3),(1,1,3),(2,1,3),(3,1,3),(4,1,3),(5,1,3)]⟩:=by kernel_rfl
theorem bytes136:Tryz.prog.bytesOf 136=48:=by kernel_rfl
theorem ty143:tyOf Tryz.prog 143=some ⟨3,16,(.agg #[(.bool false),(.bool false),(.int .u64 0)]),.struct [(0,1,4),(1,1,4),(2,1,37)]⟩:=by kernel_rfl
theorem bytes143:Tryz.prog.bytesOf 143=16:=by kernel_rfl
theorem ty148:tyOf Tryz.prog 148=some ⟨3,24,(.agg #[(.int .i64 0),(.int .u64 0),(.bool false)]),.struct [(0,1,3),(1,1,37),(2,1,4)]⟩:=by kernel_rfl
theorem bytes148:Tryz.prog.bytesOf 148=24:=by kernel_rfl
theorem ty167:tyOf Tryz.prog 167=some ⟨3,72,(.agg #[(.slice none 0 0),(.slice none 0 0),(.slice none 0 0)]),.struct [(0,3,29)]⟩:=by kernel_rfl
theorem bytes167:Tryz.prog.bytesOf 167=72:=by kernel_rfl
theorem ty176:tyOf Tryz.prog 176=some ⟨1,24,(.slice none 0 0),.slice 34 1⟩:=by kernel_rfl
theorem ty179:tyOf Tryz.prog 179=some ⟨3,24,(.agg #[(.int .i64 0),(.int .u64 0),(.bool false)]),.struct [(0,1,3),(1,1,37),(2,1,4)]⟩:=by kernel_rfl
theorem bytes179:Tryz.prog.bytesOf 179=24:=by kernel_rfl
theorem ty193:tyOf Tryz.prog 193=some ⟨2,16,(.agg #[(.int .u64 0),(.int .i64 0)]),.struct [(0,1,37),(1,1,3)]⟩:=by kernel_rfl
theorem bytes193:Tryz.prog.bytesOf 193=16:=by kernel_rfl
theorem ty194:tyOf Tryz.prog 194=some ⟨1,24,(.slice none 0 0),.slice 4 1⟩:=by kernel_rfl
theorem ty220:tyOf Tryz.prog 220=some ⟨3,24,(.agg #[(.int .i64 0),(.int .i64 0),(.int .i64 0)]),.array 3 3 1⟩:=by kernel_rfl
theorem ty227:tyOf Tryz.prog 227=some ⟨16,208,(.agg #[(.int .i64 0),(.int .i64 0),(.slice none 0 0),(.slice none 0 0),(.int .i64 0),(.int .i64 0),(.slice none 0 0),(.slice none 0 0),(.slice none 0 0),(.int .i64 0),(.int .i64 0),(.int .i64 0),(.int .i64 0),(.int .i64 0),(.int .i64 0),(.int .i64 0)]),.struct [(0,6,40),(6,1,34),(7,1,27),(8,1,34),(9,1,3),(10,6,136)]⟩:=by kernel_rfl
theorem bytes227:Tryz.prog.bytesOf 227=208:=by kernel_rfl
theorem ty260:tyOf Tryz.prog 260=some ⟨4,32,(.agg #[(.int .i64 0),(.int .i64 0),(.int .i64 0),(.int .i64 0)]),.struct [(0,1,3),(1,1,3),(2,1,3),(3,1,3)]⟩:=by kernel_rfl
theorem bytes260:Tryz.prog.bytesOf 260=32:=by kernel_rfl
theorem flat260:flatKinds Tryz.prog 260=some [some .i64,some .i64,some .i64,some .i64]:=by kernel_rfl
theorem ty284:tyOf Tryz.prog 284=some ⟨1,8,(.map none),.other⟩:=by kernel_rfl
theorem ty287:tyOf Tryz.prog 287=some ⟨3,24,(.agg #[(.int .i64 0),(.int .i64 0),(.int .u64 0)]),.struct [(0,1,3),(1,1,3),(2,1,37)]⟩:=by kernel_rfl
theorem bytes287:Tryz.prog.bytesOf 287=24:=by kernel_rfl
theorem flat287:flatKinds Tryz.prog 287=some [some .i64,some .i64,some .u64]:=by kernel_rfl
theorem ty313:tyOf Tryz.prog 313=some ⟨1,24,(.slice none 0 0),.slice 316 2⟩:=by kernel_rfl
theorem ty316:tyOf Tryz.prog 316=some ⟨2,16,(.agg #[(.int .i64 0),(.int .i64 0)]),.struct [(0,1,3),(1,1,3)]⟩:=by kernel_rfl
theorem bytes316:Tryz.prog.bytesOf 316=16:=by kernel_rfl
attribute [go_sem] ty3 ty4 ty23 ty24 ty25 ty26 ty27 ty29 ty30 ty32 ty33 ty34 ty36 ty37 ty38 ty40 ty41 ty43 ty45 ty49 ty51 ty52 ty54 ty58 ty59 ty61 ty74 ty84 ty87 ty89 ty94 ty95 ty97 flat97 ty99 ty100 ty101 ty122 ty134 ty136 ty143 ty148 ty167 ty176 ty179 ty193 ty194 ty220 ty227 ty260 flat260 ty284 ty287 flat287 ty313 ty316
end Go.Sx
namespace Go.Sx
def e3 (x:Int):List D:=[.v (.int .i64 x)]
def e49 (x:TTape):List D:=[.isl 3 1 (x.L.map e3),.v (.int .i64 x.at_)]
def e37 (x:Int):List D:=[.v (.int .u64 x)]
def e260 (x:TPage):List D:=[.v (.int .i64 x.Kind),.v (.int .i64 x.Space),.v (.int .i64 x.Used),.v (.int .i64 x.Pins)]
def e179 (x:TSlot):List D:=[.v (.int .i64 x.Stamp),.v (.int .u64 x.Ref),.v (.bool x.Live)]
def e134 (x:TScope):List D:=[.v (.int .i64 x.From),.v (.int .i64 x.Cap),.v (.bool x.Base)]
def e148 (x:TEntry):List D:=[.v (.int .i64 x.Gen),.v (.int .u64 x.Ref),.v (.bool x.Live)]
def e193 (x:TPin):List D:=[.v (.int .u64 x.Ref),.v (.int .i64 x.Count)]
def e99 (x:TThing):List D:=[.v (.int .i64 x.Header.Kind),.v (.int .i64 x.Header.Length),.v (.int .u32 x.Header.Map),.isl 37 1 (x.Fields.map e37)]
def e74 (x:TMark):List D:=[.v (.int .u64 x.Id),.v (.int .i64 x.Count),.v (.int .u64 x.Base)]
def e45 (x:TPair):List D:=[.v (.int .i64 x.Env.Heap.Conf.PageWords),.v (.int .i64 x.Env.Heap.Conf.Pages),.isl 37 1 (x.Env.Heap.Words.map e37),.isl 260 4 (x.Env.Heap.Pages.map e260),.v (.int .i64 x.Env.Heap.Space),.v (.int .i64 x.Env.Heap.Bump),.isl 179 3 (x.Env.Locals.Slots.map e179),.isl 134 3 (x.Env.Locals.Scopes.map e134),.isl 3 1 (x.Env.Locals.Issued.map e3),.isl 148 3 (x.Env.Globals.Entries.map e148),.isl 148 3 (x.Env.Weaks.Entries.map e148),.isl 193 2 (x.Env.Pins.map e193),.isl 37 1 (x.Env.Roots.map e37),.v (.int .i64 x.World.Conf.PageWords),.v (.int .i64 x.World.Conf.Pages),.isl 99 4 (x.World.Things.map e99),.isl 179 3 (x.World.Locals.Slots.map e179),.isl 134 3 (x.World.Locals.Scopes.map e134),.isl 3 1 (x.World.Locals.Issued.map e3),.isl 148 3 (x.World.Globals.Entries.map e148),.isl 148 3 (x.World.Weaks.Entries.map e148),.isl 74 3 (x.World.Marks.map e74),.isl 37 1 (x.World.Roots.map e37),.isl 37 1 (x.Words.map e37)]
def e51 (x:TDeed):List D:=[.v (.int .i64 x.Op),.v (.int .u64 x.A),.v (.int .u64 x.B),.v (.int .u64 x.C)]
def e23 (x:TConf):List D:=[.v (.int .i64 x.PageWords),.v (.int .i64 x.Pages)]
def e40 (x:THeap):List D:=[.v (.int .i64 x.Conf.PageWords),.v (.int .i64 x.Conf.Pages),.isl 37 1 (x.Words.map e37),.isl 260 4 (x.Pages.map e260),.v (.int .i64 x.Space),.v (.int .i64 x.Bump)]
def e43 (x:TEnv):List D:=[.v (.int .i64 x.Heap.Conf.PageWords),.v (.int .i64 x.Heap.Conf.Pages),.isl 37 1 (x.Heap.Words.map e37),.isl 260 4 (x.Heap.Pages.map e260),.v (.int .i64 x.Heap.Space),.v (.int .i64 x.Heap.Bump),.isl 179 3 (x.Locals.Slots.map e179),.isl 134 3 (x.Locals.Scopes.map e134),.isl 3 1 (x.Locals.Issued.map e3),.isl 148 3 (x.Globals.Entries.map e148),.isl 148 3 (x.Weaks.Entries.map e148),.isl 193 2 (x.Pins.map e193),.isl 37 1 (x.Roots.map e37)]
def e36 (x:TWorld):List D:=[.v (.int .i64 x.Conf.PageWords),.v (.int .i64 x.Conf.Pages),.isl 99 4 (x.Things.map e99),.isl 179 3 (x.Locals.Slots.map e179),.isl 134 3 (x.Locals.Scopes.map e134),.isl 3 1 (x.Locals.Issued.map e3),.isl 148 3 (x.Globals.Entries.map e148),.isl 148 3 (x.Weaks.Entries.map e148),.isl 74 3 (x.Marks.map e74),.isl 37 1 (x.Roots.map e37)]
def e32 (x:TTable):List D:=[.isl 148 3 (x.Entries.map e148)]
def e29 (x:TLocals):List D:=[.isl 179 3 (x.Slots.map e179),.isl 134 3 (x.Scopes.map e134),.isl 3 1 (x.Issued.map e3)]
def e97 (x:THeader):List D:=[.v (.int .i64 x.Kind),.v (.int .i64 x.Length),.v (.int .u32 x.Map)]
def e4 (x:Bool):List D:=[.v (.bool x)]
def e287 (x:TFinding):List D:=[.v (.int .i64 x.Fault),.v (.int .i64 x.Page),.v (.int .u64 x.Addr)]
def e227 (x:TWork):List D:=[.v (.int .i64 x.Heap.Conf.PageWords),.v (.int .i64 x.Heap.Conf.Pages),.isl 37 1 (x.Heap.Words.map e37),.isl 260 4 (x.Heap.Pages.map e260),.v (.int .i64 x.Heap.Space),.v (.int .i64 x.Heap.Bump),.isl 37 1 (x.Old.map e37),.isl 3 1 (x.Taken.map e3),.isl 37 1 (x.Queue.map e37),.v (.int .i64 x.Scanned),.v (.int .i64 x.Report.Copied),.v (.int .i64 x.Report.Kept),.v (.int .i64 x.Report.Filled),.v (.int .i64 x.Report.Freed),.v (.int .i64 x.Report.Cleared),.v (.int .i64 x.Report.Steps)]
def e316 (x:TRun):List D:=[.v (.int .i64 x.From),.v (.int .i64 x.Len)]
def e136 (x:TReport):List D:=[.v (.int .i64 x.Copied),.v (.int .i64 x.Kept),.v (.int .i64 x.Filled),.v (.int .i64 x.Freed),.v (.int .i64 x.Cleared),.v (.int .i64 x.Steps)]
def e122 (x:THandle):List D:=[.v (.int .i64 x.Tag),.v (.int .i64 x.Index),.v (.int .i64 x.Stamp)]
def e143 (x:TFact):List D:=[.v (.bool x.Failed),.v (.bool x.Collected),.v (.int .u64 x.Base)]
def e167 (x:Tframes):List D:=[.isl 179 3 (x.Locals.Slots.map e179),.isl 134 3 (x.Locals.Scopes.map e134),.isl 3 1 (x.Locals.Issued.map e3)]
def e100 (x:TThing):List D:=[.v (.int .i64 x.Header.Kind),.v (.int .i64 x.Header.Length),.v (.int .u32 x.Header.Map),.isl 37 1 (x.Fields.map e37)]
def e101 (x:TMark):List D:=[.v (.int .u64 x.Id),.v (.int .i64 x.Count),.v (.int .u64 x.Base)]
def e61 (x:TWorld):List D:=[.v (.int .i64 x.Conf.PageWords),.v (.int .i64 x.Conf.Pages),.isl 100 4 (x.Things.map e100),.isl 179 3 (x.Locals.Slots.map e179),.isl 134 3 (x.Locals.Scopes.map e134),.isl 3 1 (x.Locals.Issued.map e3),.isl 148 3 (x.Globals.Entries.map e148),.isl 148 3 (x.Weaks.Entries.map e148),.isl 101 3 (x.Marks.map e101),.isl 37 1 (x.Roots.map e37)]
def e34 (x:List Int):List D:=[.isl 37 1 (x.map e37)]
def e94 (x:Tasked):List D:=[.v (.int .i64 x.World.Conf.PageWords),.v (.int .i64 x.World.Conf.Pages),.isl 100 4 (x.World.Things.map e100),.isl 179 3 (x.World.Locals.Slots.map e179),.isl 134 3 (x.World.Locals.Scopes.map e134),.isl 3 1 (x.World.Locals.Issued.map e3),.isl 148 3 (x.World.Globals.Entries.map e148),.isl 148 3 (x.World.Weaks.Entries.map e148),.isl 101 3 (x.World.Marks.map e101),.isl 37 1 (x.World.Roots.map e37),.v (.int .u64 x.a),.v (.int .u64 x.b),.v (.int .u64 x.c),.v (.bool x.failed)]
attribute [go_sem] e3 e49 e37 e260 e179 e134 e148 e193 e99 e74 e45 e51 e23 e40 e43 e36 e32 e29 e97 e4 e287 e227 e316 e136 e122 e143 e167 e100 e101 e61 e34 e94 bytes3 bytes49 bytes37 bytes260 bytes179 bytes134 bytes148 bytes193 bytes99 bytes74 bytes45 bytes51 bytes23 bytes40 bytes43 bytes36 bytes32 bytes29 bytes97 bytes4 bytes287 bytes227 bytes316 bytes136 bytes122 bytes143 bytes167 bytes100 bytes101 bytes61 bytes34 bytes94
theorem mixed:Go.Proofs.Tryz.prog.follows .mixedOrders=true:=by kernel_rfl
def GW (G:Nat->Option (List D)):Prop:=G 0=some [.v (.int .i64 2),.v (.int .i64 16),.v (.int .i64 32)]
end Go.Sx
namespace Go.Sx
open Go.Proofs
theorem E:True:=trivial
theorem hd:True:=trivial
theorem hx3:True:=trivial
theorem hx49:True:=trivial
theorem hx37:True:=trivial
theorem hx260:True:=trivial
theorem hx179:True:=trivial
theorem hx134:True:=trivial
theorem hx148:True:=trivial
theorem hx193:True:=trivial
theorem hx99:True:=trivial
theorem hx74:True:=trivial
theorem hx45:True:=trivial
theorem hx51:True:=trivial
theorem hx23:True:=trivial
theorem hx40:True:=trivial
theorem hx43:True:=trivial
theorem hx36:True:=trivial
theorem hx32:True:=trivial
theorem hx29:True:=trivial
theorem hx97:True:=trivial
theorem hx4:True:=trivial
theorem hx287:True:=trivial
theorem hx227:True:=trivial
theorem hx316:True:=trivial
theorem hx136:True:=trivial
theorem hx122:True:=trivial
theorem hx143:True:=trivial
theorem hx167:True:=trivial
theorem hx100:True:=trivial
theorem hx101:True:=trivial
theorem hx61:True:=trivial
theorem hx34:True:=trivial
theorem hx94:True:=trivial
theorem hl3:True:=trivial
theorem hl49:True:=trivial
theorem hl37:True:=trivial
theorem hl260:True:=trivial
theorem hl179:True:=trivial
theorem hl134:True:=trivial
theorem hl148:True:=trivial
theorem hl193:True:=trivial
theorem hl99:True:=trivial
theorem hl74:True:=trivial
theorem hl45:True:=trivial
theorem hl51:True:=trivial
theorem hl23:True:=trivial
theorem hl40:True:=trivial
theorem hl43:True:=trivial
theorem hl36:True:=trivial
theorem hl32:True:=trivial
theorem hl29:True:=trivial
theorem hl97:True:=trivial
theorem hl4:True:=trivial
theorem hl287:True:=trivial
theorem hl227:True:=trivial
theorem hl316:True:=trivial
theorem hl136:True:=trivial
theorem hl122:True:=trivial
theorem hl143:True:=trivial
theorem hl167:True:=trivial
theorem hl100:True:=trivial
theorem hl101:True:=trivial
theorem hl61:True:=trivial
theorem hl34:True:=trivial
theorem hl94:True:=trivial
attribute [go_sem] Option.get!
structure Fn (n:Nat):Prop where
class OK {α:Type} (o:Option α) (f:outParam Nat) (a:outParam (List D)) (l:outParam (List Ob)) (e:outParam (α->D)) (l':outParam (α->List Ob)):Prop where
 h:∀ G,GW G->∀ r,o=some r->ACalls Tryz.prog G f a l (Eqs (e r) (l' r))
section
variable {α β:Type} {o:Option α} {k:α->Option β} {f:Nat} {a args:List D} {l:List Ob} {e:α->D} {l':α->List Ob} {G:Nat->Option (List D)} {r:β} {K:D->List Ob->Prop}
theorem OK.c [h:OK o f a l e l'] (hr:bnd o k=some r) (hw:GW G) (hf:fitsL args a) (hK:∀ y,k y=some r->K (e y) (l' y)) (t:Prf args):CallG Tryz.prog G f args l K t :=
 bnd_e hr fun y hy hr=>CallG.ofE (h.h G hw y hy) hf (hK y hr) t
theorem OK.d [h:OK o f a l e l'] (hr:bnd o k=some r) (hw:GW G) (hf:fitsL args a) (hK:∀ y,k y=some r->K (e y) (l' y)) (t:Prf args):CallD Tryz.prog G f args l K t :=
 bnd_e hr fun y hy hr=>CallD.ofE (h.h G hw y hy) hf (hK y hr) t
theorem rn (fn:Func) (rs:List ResultVar) (fr:List Nat) (nt:Nat)
 (hk:(Tryz.prog.funcs[f]?,fn.body,fn.name== "runtime.NumGoroutine",fn.results,fn.ntmps,a.length.ble nt)=(some fn,some (fn.body.get!),false,⟨rs⟩,nt,true))
 (h:∀ G,GW G->∀ r,o=some r->∀ C:Cx,C.G=G->WfL Tryz.prog a->Fn f->run Tryz.prog C (retP Tryz.prog rs fr l.length (Eqs (e r) (l' r))) 1000 [.code (fn.body.get!)] (st0 a l nt)):OK o f a l e l':=by
 injection hk with h1 hk;injection hk with h2 hk;injection hk with h3 hk;injection hk with h4 hk;injection hk with h5 h6
 exact ⟨fun G hw r hr=>acalls_of_run 1000 fr nt h1 h2 h3 h4 h5 (Nat.le_of_ble_eq_true h6) fun C hG hwf=>h G hw r hr C hG hwf ⟨⟩⟩
end
theorem db {C:Cx} {R:St->Prop} {k:List It} {st:St} {l:List Oper} (f id:Nat) (_:Fn f) (aux:List (List Nat×List Nat×List Nat×List Nat)) (ho:(mkEn 0 l aux).map (·.o)=l) (hi:(mkEn 0 l aux).map (·.i)=List.range (mkEn 0 l aux).length) (hc:chkD (mkEn 0 l aux)=true)
 (h:dr Tryz.prog C ⟨l⟩ st.k (mkEn 0 l aux) st fun st'=>run Tryz.prog C R 1000 k ⟨st'.t,st'.s,st'.n,st.k+(mkEn 0 l aux).length⟩) (t:Prf (⟨l⟩:Array Oper)):DrawnG Tryz.prog C R id ⟨l⟩ k st t :=
 DrawnG.by aux 1000 mixed ho hi hc h t
class El {α:Type} (x:Option α) (r:α) (K:outParam (Prop->Prop)):Prop where
 el:∀ {G:Prop},x=some r->K G->G
instance {α:Type} {p:Prop} [Decidable p] {x:Option α} {r:α}:El (grd p x) r fun G=>x=some r->p->G:=⟨fun h k=>grd_e h fun a b=>k b a⟩
instance {κ α:Type} {k:κ} {f:κ->Option α} {r:α}:El (jn k f) r fun G=>f k=some r->G:=⟨fun h k=>jn_e h k⟩
instance {α β γ:Type} {b:β} {f:α->Option γ} {k:β->Option γ} {r:γ}:El (exK (.nxt b) f k) r fun G=>k b=some r->G:=⟨fun h k=>exn_e h k⟩
instance {α β γ:Type} {b:α} {f:α->Option γ} {k:β->Option γ} {r:γ}:El (exK (.ret b) f k) r fun G=>f b=some r->G:=⟨fun h k=>exr_e h k⟩
instance {α:Type} {x y:Option α} {r:α}:El (bif true then x else y) r fun G=>x=some r->G:=⟨fun h k=>k h⟩
instance {α:Type} {x y:Option α} {r:α}:El (bif false then x else y) r fun G=>y=some r->G:=⟨fun h k=>k h⟩
instance {α:Type} {x y:Option α} {r:α}:El (bif !false then x else y) r fun G=>x=some r->G:=⟨fun h k=>k h⟩
instance {α:Type} {x y:Option α} {r:α}:El (bif !true then x else y) r fun G=>y=some r->G:=⟨fun h k=>k h⟩
theorem bc_e {α:Type} {G:Prop} {b c:Bool} {x y:Option α} {r:α} (h:(bif b then x else y)=some r) (hb:b=c) (g:(bif c then x else y)=some r->G):G:=g (hb▸h)
theorem some_k {α:Type} {G:Prop} {x r:α} {Q:α->Prop} (h:some x=some r) (hk:Q r) (g:Q x->G):G:=g ((Option.some.inj h)▸hk)
end Go.Sx
namespace Go.Sx
open Go.Proofs
set_option maxRecDepth 10000
theorem list_enc {α:Type} {e:α->List D} {p:α->Prop}:∀ {es:List (List D)},(∀ x∈es,∃ y,x=e y∧p y)->∃ l:List α,es=l.map e∧∀ x∈l,p x
 | [],_=>⟨[],rfl,fun x h=>by cases h⟩
 | x::es,h=>by
  obtain ⟨y,rfl,hy⟩:=h x (by simp)
  obtain ⟨l,rfl,hl⟩:=list_enc (e:=e) (p:=p) (es:=es) fun z hz=>h z (List.mem_cons_of_mem _ hz)
  exact ⟨y::l,rfl,fun z hz=>by rcases List.mem_cons.1 hz with rfl | hz;exact hy;exact hl z hz⟩
section
variable {P:Program} {t e:TypeId} {fs:List (Nat×Nat×Nat)} {a b s:Nat} {z:Value}
theorem sh_sl (m:Nat) (h:tyOf P t=some ⟨a,b,z,.slice e s⟩) (ds:List D):Sh P (m+1) t ds=∃ es,ds=[.isl e (P.cellsOf e) es]∧es.length<=top47∧es.length*P.bytesOf e<=top47∧∀ x∈es,Sh P m e x:=by simp only[Sh,(und_slice h).1]
theorem sh_st (m:Nat) (h:tyOf P t=some ⟨a,b,z,.struct fs⟩) (ds:List D):Sh P (m+1) t ds=ShF (Sh P m) (fs.map (·.2.2)) ds:=by
 obtain ⟨fields,h1,h2,_⟩:=und_struct h
 simp only[Sh,h1]
 rw[h2,List.map_map]
 rfl
theorem sh_u64 (h:tyOf P t=some ⟨a,b,z,.int .u64⟩):∀ (m:Nat) (ds:List D),Sh P m t ds->∃ n,ds=[.v (.int .u64 n)]∧tU n
 | 0,_,h'=>h'.elim
 | m+1,ds,h'=>by
  simp only[Sh,und_int h] at h'
  obtain ⟨n,rfl,h1,h2⟩:=h'
  exact ⟨n,rfl,by unfold tU;rw[min_u64] at h1;rw[max_u64] at h2;exact ⟨h1,h2⟩⟩
theorem sh_u32 (h:tyOf P t=some ⟨a,b,z,.int .u32⟩):∀ (m:Nat) (ds:List D),Sh P m t ds->∃ n,ds=[.v (.int .u32 n)]∧tW n
 | 0,_,h'=>h'.elim
 | m+1,ds,h'=>by
  simp only[Sh,und_int h] at h'
  obtain ⟨n,rfl,h1,h2⟩:=h'
  exact ⟨n,rfl,by unfold tW;rw[min_u32] at h1;rw[max_u32] at h2;exact ⟨h1,h2⟩⟩
theorem sh_i64 (h:tyOf P t=some ⟨a,b,z,.int .i64⟩):∀ (m:Nat) (ds:List D),Sh P m t ds->∃ n,ds=[.v (.int .i64 n)]∧True
 | 0,_,h'=>h'.elim
 | m+1,ds,h'=>by
  simp only[Sh,und_int h] at h'
  obtain ⟨n,rfl,h1,h2⟩:=h'
  exact ⟨n,rfl,trivial⟩
theorem sh_bool (h:tyOf P t=some ⟨a,b,z,.bool⟩):∀ (m:Nat) (ds:List D),Sh P m t ds->∃ b,ds=[.v (.bool b)]∧True
 | 0,_,h'=>h'.elim
 | m+1,ds,h'=>by
  simp only[Sh,und_bool h] at h'
  obtain ⟨n,rfl⟩:=h'
  exact ⟨n,rfl,trivial⟩
end
theorem cel3:Tryz.prog.cellsOf 3=1:=by kernel_rfl
theorem cel37:Tryz.prog.cellsOf 37=1:=by kernel_rfl
theorem cel74:Tryz.prog.cellsOf 74=3:=by kernel_rfl
theorem cel99:Tryz.prog.cellsOf 99=4:=by kernel_rfl
theorem cel134:Tryz.prog.cellsOf 134=3:=by kernel_rfl
theorem cel148:Tryz.prog.cellsOf 148=3:=by kernel_rfl
theorem cel179:Tryz.prog.cellsOf 179=3:=by kernel_rfl
theorem sh_23:∀ (m:Nat) (ds:List D),Sh Tryz.prog m 23 ds->∃ x:TConf,ds=e23 x∧True
 | 0,_,h=>h.elim
 | m+1,ds,h=>by
  rw[show Sh Tryz.prog (m+1) 23 ds=_ from sh_st m ty23 ds] at h
  simp only[List.map_cons,List.map_nil,ShF] at h
  obtain ⟨c0,_,rfl,s0,⟨c1,_,rfl,s1,rfl⟩⟩:=h
  obtain ⟨x0,rfl,p0⟩:=sh_i64 ty3 _ _ s0
  obtain ⟨x1,rfl,p1⟩:=sh_i64 ty3 _ _ s1
  exact ⟨⟨x0,x1⟩,rfl,trivial⟩
theorem sh_97:∀ (m:Nat) (ds:List D),Sh Tryz.prog m 97 ds->∃ x:THeader,ds=e97 x∧tTHeader x
 | 0,_,h=>h.elim
 | m+1,ds,h=>by
  rw[show Sh Tryz.prog (m+1) 97 ds=_ from sh_st m ty97 ds] at h
  simp only[List.map_cons,List.map_nil,ShF] at h
  obtain ⟨c0,_,rfl,s0,⟨c1,_,rfl,s1,⟨c2,_,rfl,s2,rfl⟩⟩⟩:=h
  obtain ⟨x0,rfl,p0⟩:=sh_i64 ty3 _ _ s0
  obtain ⟨x1,rfl,p1⟩:=sh_i64 ty3 _ _ s1
  obtain ⟨x2,rfl,p2⟩:=sh_u32 ty95 _ _ s2
  exact ⟨⟨x0,x1,x2⟩,rfl,p2⟩
theorem sh_e37 (m:Nat) (x:List D) (h:Sh Tryz.prog m 37 x):∃ y:Int,x=e37 y∧tU y:=by
 obtain ⟨n,rfl,hp⟩:=sh_u64 ty37 m x h
 exact ⟨n,rfl,hp⟩
theorem sh_34:∀ (m:Nat) (ds:List D),Sh Tryz.prog m 34 ds->∃ l:List Int,ds=[.isl 37 1 (l.map e37)]∧l.length*8<=top47∧∀ x∈l,(fun x=>tU x) x
 | 0,_,h=>h.elim
 | m+1,ds,h=>by
  rw[show Sh Tryz.prog (m+1) 34 ds=_ from sh_sl m ty34 ds] at h
  obtain ⟨es,rfl,_,hb,hs⟩:=h
  obtain ⟨l,rfl,hl⟩:=list_enc (p:=(fun x=>tU x)) (fun x hx=>sh_e37 m x (hs x hx))
  exact ⟨l,by rw[cel37],by rw[List.length_map,bytes37] at hb;exact hb,hl⟩
theorem sh_99:∀ (m:Nat) (ds:List D),Sh Tryz.prog m 99 ds->∃ x:TThing,ds=e99 x∧tTThing x
 | 0,_,h=>h.elim
 | m+1,ds,h=>by
  rw[show Sh Tryz.prog (m+1) 99 ds=_ from sh_st m ty99 ds] at h
  simp only[List.map_cons,List.map_nil,ShF] at h
  obtain ⟨c0,_,rfl,s0,⟨c1,_,rfl,s1,rfl⟩⟩:=h
  obtain ⟨x0,rfl,p0⟩:=sh_97 _ _ s0
  obtain ⟨x1,rfl,_,p1⟩:=sh_34 _ _ s1
  exact ⟨⟨x0,x1⟩,rfl,⟨p0,p1⟩⟩
theorem sh_e99 (m:Nat) (x:List D) (h:Sh Tryz.prog m 99 x):∃ y:TThing,x=e99 y∧tTThing y:=by
 obtain ⟨n,rfl,hp⟩:=sh_99 m x h
 exact ⟨n,rfl,hp⟩
theorem sh_24:∀ (m:Nat) (ds:List D),Sh Tryz.prog m 24 ds->∃ l:List TThing,ds=[.isl 99 4 (l.map e99)]∧l.length*48<=top47∧∀ x∈l,(fun x=>tTThing x) x
 | 0,_,h=>h.elim
 | m+1,ds,h=>by
  rw[show Sh Tryz.prog (m+1) 24 ds=_ from sh_sl m ty24 ds] at h
  obtain ⟨es,rfl,_,hb,hs⟩:=h
  obtain ⟨l,rfl,hl⟩:=list_enc (p:=(fun x=>tTThing x)) (fun x hx=>sh_e99 m x (hs x hx))
  exact ⟨l,by rw[cel99],by rw[List.length_map,bytes99] at hb;exact hb,hl⟩
theorem sh_179:∀ (m:Nat) (ds:List D),Sh Tryz.prog m 179 ds->∃ x:TSlot,ds=e179 x∧tTSlot x
 | 0,_,h=>h.elim
 | m+1,ds,h=>by
  rw[show Sh Tryz.prog (m+1) 179 ds=_ from sh_st m ty179 ds] at h
  simp only[List.map_cons,List.map_nil,ShF] at h
  obtain ⟨c0,_,rfl,s0,⟨c1,_,rfl,s1,⟨c2,_,rfl,s2,rfl⟩⟩⟩:=h
  obtain ⟨x0,rfl,p0⟩:=sh_i64 ty3 _ _ s0
  obtain ⟨x1,rfl,p1⟩:=sh_u64 ty37 _ _ s1
  obtain ⟨x2,rfl,p2⟩:=sh_bool ty4 _ _ s2
  exact ⟨⟨x0,x1,x2⟩,rfl,p1⟩
theorem sh_e179 (m:Nat) (x:List D) (h:Sh Tryz.prog m 179 x):∃ y:TSlot,x=e179 y∧tTSlot y:=by
 obtain ⟨n,rfl,hp⟩:=sh_179 m x h
 exact ⟨n,rfl,hp⟩
theorem sh_25:∀ (m:Nat) (ds:List D),Sh Tryz.prog m 25 ds->∃ l:List TSlot,ds=[.isl 179 3 (l.map e179)]∧l.length*24<=top47∧∀ x∈l,(fun x=>tTSlot x) x
 | 0,_,h=>h.elim
 | m+1,ds,h=>by
  rw[show Sh Tryz.prog (m+1) 25 ds=_ from sh_sl m ty25 ds] at h
  obtain ⟨es,rfl,_,hb,hs⟩:=h
  obtain ⟨l,rfl,hl⟩:=list_enc (p:=(fun x=>tTSlot x)) (fun x hx=>sh_e179 m x (hs x hx))
  exact ⟨l,by rw[cel179],by rw[List.length_map,bytes179] at hb;exact hb,hl⟩
theorem sh_134:∀ (m:Nat) (ds:List D),Sh Tryz.prog m 134 ds->∃ x:TScope,ds=e134 x∧True
 | 0,_,h=>h.elim
 | m+1,ds,h=>by
  rw[show Sh Tryz.prog (m+1) 134 ds=_ from sh_st m ty134 ds] at h
  simp only[List.map_cons,List.map_nil,ShF] at h
  obtain ⟨c0,_,rfl,s0,⟨c1,_,rfl,s1,⟨c2,_,rfl,s2,rfl⟩⟩⟩:=h
  obtain ⟨x0,rfl,p0⟩:=sh_i64 ty3 _ _ s0
  obtain ⟨x1,rfl,p1⟩:=sh_i64 ty3 _ _ s1
  obtain ⟨x2,rfl,p2⟩:=sh_bool ty4 _ _ s2
  exact ⟨⟨x0,x1,x2⟩,rfl,trivial⟩
theorem sh_e134 (m:Nat) (x:List D) (h:Sh Tryz.prog m 134 x):∃ y:TScope,x=e134 y∧True:=by
 obtain ⟨n,rfl,hp⟩:=sh_134 m x h
 exact ⟨n,rfl,hp⟩
theorem sh_26:∀ (m:Nat) (ds:List D),Sh Tryz.prog m 26 ds->∃ l:List TScope,ds=[.isl 134 3 (l.map e134)]∧l.length*24<=top47∧∀ x∈l,(fun _=>True) x
 | 0,_,h=>h.elim
 | m+1,ds,h=>by
  rw[show Sh Tryz.prog (m+1) 26 ds=_ from sh_sl m ty26 ds] at h
  obtain ⟨es,rfl,_,hb,hs⟩:=h
  obtain ⟨l,rfl,hl⟩:=list_enc (p:=(fun _=>True)) (fun x hx=>sh_e134 m x (hs x hx))
  exact ⟨l,by rw[cel134],by rw[List.length_map,bytes134] at hb;exact hb,hl⟩
theorem sh_e3 (m:Nat) (x:List D) (h:Sh Tryz.prog m 3 x):∃ y:Int,x=e3 y∧True:=by
 obtain ⟨n,rfl,hp⟩:=sh_i64 ty3 m x h
 exact ⟨n,rfl,hp⟩
theorem sh_27:∀ (m:Nat) (ds:List D),Sh Tryz.prog m 27 ds->∃ l:List Int,ds=[.isl 3 1 (l.map e3)]∧l.length*8<=top47∧∀ x∈l,(fun _=>True) x
 | 0,_,h=>h.elim
 | m+1,ds,h=>by
  rw[show Sh Tryz.prog (m+1) 27 ds=_ from sh_sl m ty27 ds] at h
  obtain ⟨es,rfl,_,hb,hs⟩:=h
  obtain ⟨l,rfl,hl⟩:=list_enc (p:=(fun _=>True)) (fun x hx=>sh_e3 m x (hs x hx))
  exact ⟨l,by rw[cel3],by rw[List.length_map,bytes3] at hb;exact hb,hl⟩
theorem sh_29:∀ (m:Nat) (ds:List D),Sh Tryz.prog m 29 ds->∃ x:TLocals,ds=e29 x∧tTLocals x
 | 0,_,h=>h.elim
 | m+1,ds,h=>by
  rw[show Sh Tryz.prog (m+1) 29 ds=_ from sh_st m ty29 ds] at h
  simp only[List.map_cons,List.map_nil,ShF] at h
  obtain ⟨c0,_,rfl,s0,⟨c1,_,rfl,s1,⟨c2,_,rfl,s2,rfl⟩⟩⟩:=h
  obtain ⟨x0,rfl,_,p0⟩:=sh_25 _ _ s0
  obtain ⟨x1,rfl,_,p1⟩:=sh_26 _ _ s1
  obtain ⟨x2,rfl,_,p2⟩:=sh_27 _ _ s2
  exact ⟨⟨x0,x1,x2⟩,rfl,p0⟩
theorem sh_148:∀ (m:Nat) (ds:List D),Sh Tryz.prog m 148 ds->∃ x:TEntry,ds=e148 x∧tTEntry x
 | 0,_,h=>h.elim
 | m+1,ds,h=>by
  rw[show Sh Tryz.prog (m+1) 148 ds=_ from sh_st m ty148 ds] at h
  simp only[List.map_cons,List.map_nil,ShF] at h
  obtain ⟨c0,_,rfl,s0,⟨c1,_,rfl,s1,⟨c2,_,rfl,s2,rfl⟩⟩⟩:=h
  obtain ⟨x0,rfl,p0⟩:=sh_i64 ty3 _ _ s0
  obtain ⟨x1,rfl,p1⟩:=sh_u64 ty37 _ _ s1
  obtain ⟨x2,rfl,p2⟩:=sh_bool ty4 _ _ s2
  exact ⟨⟨x0,x1,x2⟩,rfl,p1⟩
theorem sh_e148 (m:Nat) (x:List D) (h:Sh Tryz.prog m 148 x):∃ y:TEntry,x=e148 y∧tTEntry y:=by
 obtain ⟨n,rfl,hp⟩:=sh_148 m x h
 exact ⟨n,rfl,hp⟩
theorem sh_30:∀ (m:Nat) (ds:List D),Sh Tryz.prog m 30 ds->∃ l:List TEntry,ds=[.isl 148 3 (l.map e148)]∧l.length*24<=top47∧∀ x∈l,(fun x=>tTEntry x) x
 | 0,_,h=>h.elim
 | m+1,ds,h=>by
  rw[show Sh Tryz.prog (m+1) 30 ds=_ from sh_sl m ty30 ds] at h
  obtain ⟨es,rfl,_,hb,hs⟩:=h
  obtain ⟨l,rfl,hl⟩:=list_enc (p:=(fun x=>tTEntry x)) (fun x hx=>sh_e148 m x (hs x hx))
  exact ⟨l,by rw[cel148],by rw[List.length_map,bytes148] at hb;exact hb,hl⟩
theorem sh_32:∀ (m:Nat) (ds:List D),Sh Tryz.prog m 32 ds->∃ x:TTable,ds=e32 x∧tTTable x
 | 0,_,h=>h.elim
 | m+1,ds,h=>by
  rw[show Sh Tryz.prog (m+1) 32 ds=_ from sh_st m ty32 ds] at h
  simp only[List.map_cons,List.map_nil,ShF] at h
  obtain ⟨c0,_,rfl,s0,rfl⟩:=h
  obtain ⟨x0,rfl,_,p0⟩:=sh_30 _ _ s0
  exact ⟨⟨x0⟩,rfl,p0⟩
theorem sh_74:∀ (m:Nat) (ds:List D),Sh Tryz.prog m 74 ds->∃ x:TMark,ds=e74 x∧tTMark x
 | 0,_,h=>h.elim
 | m+1,ds,h=>by
  rw[show Sh Tryz.prog (m+1) 74 ds=_ from sh_st m ty74 ds] at h
  simp only[List.map_cons,List.map_nil,ShF] at h
  obtain ⟨c0,_,rfl,s0,⟨c1,_,rfl,s1,⟨c2,_,rfl,s2,rfl⟩⟩⟩:=h
  obtain ⟨x0,rfl,p0⟩:=sh_u64 ty37 _ _ s0
  obtain ⟨x1,rfl,p1⟩:=sh_i64 ty3 _ _ s1
  obtain ⟨x2,rfl,p2⟩:=sh_u64 ty37 _ _ s2
  exact ⟨⟨x0,x1,x2⟩,rfl,⟨p0,p2⟩⟩
theorem sh_e74 (m:Nat) (x:List D) (h:Sh Tryz.prog m 74 x):∃ y:TMark,x=e74 y∧tTMark y:=by
 obtain ⟨n,rfl,hp⟩:=sh_74 m x h
 exact ⟨n,rfl,hp⟩
theorem sh_33:∀ (m:Nat) (ds:List D),Sh Tryz.prog m 33 ds->∃ l:List TMark,ds=[.isl 74 3 (l.map e74)]∧l.length*24<=top47∧∀ x∈l,(fun x=>tTMark x) x
 | 0,_,h=>h.elim
 | m+1,ds,h=>by
  rw[show Sh Tryz.prog (m+1) 33 ds=_ from sh_sl m ty33 ds] at h
  obtain ⟨es,rfl,_,hb,hs⟩:=h
  obtain ⟨l,rfl,hl⟩:=list_enc (p:=(fun x=>tTMark x)) (fun x hx=>sh_e74 m x (hs x hx))
  exact ⟨l,by rw[cel74],by rw[List.length_map,bytes74] at hb;exact hb,hl⟩
theorem sh_36:∀ (m:Nat) (ds:List D),Sh Tryz.prog m 36 ds->∃ x:TWorld,ds=e36 x∧tTWorld x
 | 0,_,h=>h.elim
 | m+1,ds,h=>by
  rw[show Sh Tryz.prog (m+1) 36 ds=_ from sh_st m ty36 ds] at h
  simp only[List.map_cons,List.map_nil,ShF] at h
  obtain ⟨c0,_,rfl,s0,⟨c1,_,rfl,s1,⟨c2,_,rfl,s2,⟨c3,_,rfl,s3,⟨c4,_,rfl,s4,⟨c5,_,rfl,s5,⟨c6,_,rfl,s6,rfl⟩⟩⟩⟩⟩⟩⟩:=h
  obtain ⟨x0,rfl,p0⟩:=sh_23 _ _ s0
  obtain ⟨x1,rfl,_,p1⟩:=sh_24 _ _ s1
  obtain ⟨x2,rfl,p2⟩:=sh_29 _ _ s2
  obtain ⟨x3,rfl,p3⟩:=sh_32 _ _ s3
  obtain ⟨x4,rfl,p4⟩:=sh_32 _ _ s4
  obtain ⟨x5,rfl,_,p5⟩:=sh_33 _ _ s5
  obtain ⟨x6,rfl,_,p6⟩:=sh_34 _ _ s6
  exact ⟨⟨x0,x1,x2,x3,x4,x5,x6⟩,rfl,⟨p1,p2,p3,p4,p5,p6⟩⟩
end Go.Sx
