import Derived.KernelRfl
import Derived.Test.YtgdhlnfcogcicaaGreatDoorChecked
import Derived.Test.YtgdhlnfcogcicaaGreatDoorSB
import Derived.Test.YtgdhlnfcogcicaaGreatDoorSE
set_option linter.all false
namespace Go.Sx
open Go.Proofs
theorem ty3:tyOf Tryz.prog 3=some ⟨1,8,(.int .i64 0),.int .i64⟩:=by kernel_rfl
theorem bytes3:Tryz.prog.bytesOf 3=8:=by kernel_rfl
theorem ty4:tyOf Tryz.prog 4=some ⟨1,1,(.bool false),.bool⟩:=by kernel_rfl
theorem bytes4:Tryz.prog.bytesOf 4=1:=by kernel_rfl
theorem ty23:tyOf Tryz.prog 23=some ⟨2,16,(.agg #[(.int .i64 0),(.int .i64 0)]),.struct [(0,1,3),(1,1,3)]⟩:=by kernel_rfl
theorem bytes23:Tryz.prog.bytesOf 23=16:=by kernel_rfl
theorem flat23:flatKinds Tryz.prog 23=some [some .i64,some .i64]:=by kernel_rfl
theorem ty24:tyOf Tryz.prog 24=some ⟨1,24,(.slice none 0 0),.slice 115 4⟩:=by kernel_rfl
theorem ty25:tyOf Tryz.prog 25=some ⟨1,24,(.slice none 0 0),.slice 210 3⟩:=by kernel_rfl
theorem ty26:tyOf Tryz.prog 26=some ⟨1,24,(.slice none 0 0),.slice 159 3⟩:=by kernel_rfl
theorem ty27:tyOf Tryz.prog 27=some ⟨1,24,(.slice none 0 0),.slice 3 1⟩:=by kernel_rfl
theorem ty29:tyOf Tryz.prog 29=some ⟨3,72,(.agg #[(.slice none 0 0),(.slice none 0 0),(.slice none 0 0)]),.struct [(0,1,25),(1,1,26),(2,1,27)]⟩:=by kernel_rfl
theorem bytes29:Tryz.prog.bytesOf 29=72:=by kernel_rfl
theorem ty30:tyOf Tryz.prog 30=some ⟨1,24,(.slice none 0 0),.slice 132 3⟩:=by kernel_rfl
theorem ty32:tyOf Tryz.prog 32=some ⟨1,24,(.agg #[(.slice none 0 0)]),.struct [(0,1,30)]⟩:=by kernel_rfl
theorem bytes32:Tryz.prog.bytesOf 32=24:=by kernel_rfl
theorem ty33:tyOf Tryz.prog 33=some ⟨1,24,(.slice none 0 0),.slice 96 3⟩:=by kernel_rfl
theorem ty34:tyOf Tryz.prog 34=some ⟨1,24,(.slice none 0 0),.slice 37 1⟩:=by kernel_rfl
theorem bytes34:Tryz.prog.bytesOf 34=24:=by kernel_rfl
theorem ty36:tyOf Tryz.prog 36=some ⟨10,208,(.agg #[(.int .i64 0),(.int .i64 0),(.slice none 0 0),(.slice none 0 0),(.slice none 0 0),(.slice none 0 0),(.slice none 0 0),(.slice none 0 0),(.slice none 0 0),(.slice none 0 0)]),.struct [(0,2,23),(2,1,24),(3,3,29),(6,1,32),(7,1,32),(8,1,33),(9,1,34)]⟩:=by kernel_rfl
theorem bytes36:Tryz.prog.bytesOf 36=208:=by kernel_rfl
theorem ty37:tyOf Tryz.prog 37=some ⟨1,8,(.int .u64 0),.int .u64⟩:=by kernel_rfl
theorem bytes37:Tryz.prog.bytesOf 37=8:=by kernel_rfl
theorem ty39:tyOf Tryz.prog 39=some ⟨3,16,(.agg #[(.bool false),(.bool false),(.int .u64 0)]),.struct [(0,1,4),(1,1,4),(2,1,37)]⟩:=by kernel_rfl
theorem bytes39:Tryz.prog.bytesOf 39=16:=by kernel_rfl
theorem ty40:tyOf Tryz.prog 40=some ⟨1,24,(.slice none 0 0),.slice 306 4⟩:=by kernel_rfl
theorem ty42:tyOf Tryz.prog 42=some ⟨6,80,(.agg #[(.int .i64 0),(.int .i64 0),(.slice none 0 0),(.slice none 0 0),(.int .i64 0),(.int .i64 0)]),.struct [(0,2,23),(2,1,34),(3,1,40),(4,1,3),(5,1,3)]⟩:=by kernel_rfl
theorem bytes42:Tryz.prog.bytesOf 42=80:=by kernel_rfl
theorem ty43:tyOf Tryz.prog 43=some ⟨1,24,(.slice none 0 0),.slice 229 2⟩:=by kernel_rfl
theorem ty45:tyOf Tryz.prog 45=some ⟨13,248,(.agg #[(.int .i64 0),(.int .i64 0),(.slice none 0 0),(.slice none 0 0),(.int .i64 0),(.int .i64 0),(.slice none 0 0),(.slice none 0 0),(.slice none 0 0),(.slice none 0 0),(.slice none 0 0),(.slice none 0 0),(.slice none 0 0)]),.struct [(0,6,42),(6,3,29),(9,1,32),(10,1,32),(11,1,43),(12,1,34)]⟩:=by kernel_rfl
theorem bytes45:Tryz.prog.bytesOf 45=248:=by kernel_rfl
theorem ty47:tyOf Tryz.prog 47=some ⟨24,480,(.agg #[(.int .i64 0),(.int .i64 0),(.slice none 0 0),(.slice none 0 0),(.int .i64 0),(.int .i64 0),(.slice none 0 0),(.slice none 0 0),(.slice none 0 0),(.slice none 0 0),(.slice none 0 0),(.slice none 0 0),(.slice none 0 0),(.int .i64 0),(.int .i64 0),(.slice none 0 0),(.slice none 0 0),(.slice none 0 0),(.slice none 0 0),(.slice none 0 0),(.slice none 0 0),(.slice none 0 0),(.slice none 0 0),(.slice none 0 0)]),.struct [(0,13,45),(13,10,36),(23,1,34)]⟩:=by kernel_rfl
theorem bytes47:Tryz.prog.bytesOf 47=480:=by kernel_rfl
theorem ty51:tyOf Tryz.prog 51=some ⟨2,32,(.agg #[(.slice none 0 0),(.int .i64 0)]),.struct [(0,1,27),(1,1,3)]⟩:=by kernel_rfl
theorem bytes51:Tryz.prog.bytesOf 51=32:=by kernel_rfl
theorem ty53:tyOf Tryz.prog 53=some ⟨4,32,(.agg #[(.int .i64 0),(.int .u64 0),(.int .u64 0),(.int .u64 0)]),.struct [(0,1,3),(1,1,37),(2,1,37),(3,1,37)]⟩:=by kernel_rfl
theorem bytes53:Tryz.prog.bytesOf 53=32:=by kernel_rfl
theorem ty56:tyOf Tryz.prog 56=some ⟨1,24,(.slice none 0 0),.slice 36 10⟩:=by kernel_rfl
theorem ty58:tyOf Tryz.prog 58=some ⟨1,24,(.slice none 0 0),.slice 77 4⟩:=by kernel_rfl
theorem ty59:tyOf Tryz.prog 59=some ⟨1,24,(.slice none 0 0),.slice 116 3⟩:=by kernel_rfl
theorem ty61:tyOf Tryz.prog 61=some ⟨10,208,(.agg #[(.int .i64 0),(.int .i64 0),(.slice none 0 0),(.slice none 0 0),(.slice none 0 0),(.slice none 0 0),(.slice none 0 0),(.slice none 0 0),(.slice none 0 0),(.slice none 0 0)]),.struct [(0,2,23),(2,1,58),(3,3,29),(6,1,32),(7,1,32),(8,1,59),(9,1,34)]⟩:=by kernel_rfl
theorem bytes61:Tryz.prog.bytesOf 61=208:=by kernel_rfl
theorem ty66:tyOf Tryz.prog 66=some ⟨3,16,(.agg #[(.bool false),(.bool false),(.int .u64 0)]),.struct [(0,1,4),(1,1,4),(2,1,37)]⟩:=by kernel_rfl
theorem bytes66:Tryz.prog.bytesOf 66=16:=by kernel_rfl
theorem ty73:tyOf Tryz.prog 73=some ⟨1,4,(.int .u32 0),.int .u32⟩:=by kernel_rfl
theorem ty75:tyOf Tryz.prog 75=some ⟨3,24,(.agg #[(.int .i64 0),(.int .i64 0),(.int .u32 0)]),.struct [(0,1,3),(1,1,3),(2,1,73)]⟩:=by kernel_rfl
theorem bytes75:Tryz.prog.bytesOf 75=24:=by kernel_rfl
theorem flat75:flatKinds Tryz.prog 75=some [some .i64,some .i64,some .u32]:=by kernel_rfl
theorem ty77:tyOf Tryz.prog 77=some ⟨4,48,(.agg #[(.int .i64 0),(.int .i64 0),(.int .u32 0),(.slice none 0 0)]),.struct [(0,3,75),(3,1,34)]⟩:=by kernel_rfl
theorem bytes77:Tryz.prog.bytesOf 77=48:=by kernel_rfl
theorem ty85:tyOf Tryz.prog 85=some ⟨1,24,(.slice none 0 0),.slice 4 1⟩:=by kernel_rfl
theorem ty96:tyOf Tryz.prog 96=some ⟨3,24,(.agg #[(.int .u64 0),(.int .i64 0),(.int .u64 0)]),.struct [(0,1,37),(1,1,3),(2,1,37)]⟩:=by kernel_rfl
theorem bytes96:Tryz.prog.bytesOf 96=24:=by kernel_rfl
theorem flat96:flatKinds Tryz.prog 96=some [some .u64,some .i64,some .u64]:=by kernel_rfl
theorem ty107:tyOf Tryz.prog 107=some ⟨1,8,(.int .u64 0),.int .u64⟩:=by kernel_rfl
theorem ty115:tyOf Tryz.prog 115=some ⟨4,48,(.agg #[(.int .i64 0),(.int .i64 0),(.int .u32 0),(.slice none 0 0)]),.struct [(0,3,75),(3,1,34)]⟩:=by kernel_rfl
theorem bytes115:Tryz.prog.bytesOf 115=48:=by kernel_rfl
theorem ty116:tyOf Tryz.prog 116=some ⟨3,24,(.agg #[(.int .u64 0),(.int .i64 0),(.int .u64 0)]),.struct [(0,1,37),(1,1,3),(2,1,37)]⟩:=by kernel_rfl
theorem bytes116:Tryz.prog.bytesOf 116=24:=by kernel_rfl
theorem ty132:tyOf Tryz.prog 132=some ⟨3,24,(.agg #[(.int .i64 0),(.int .u64 0),(.bool false)]),.struct [(0,1,3),(1,1,37),(2,1,4)]⟩:=by kernel_rfl
theorem bytes132:Tryz.prog.bytesOf 132=24:=by kernel_rfl
theorem flat132:flatKinds Tryz.prog 132=some [some .i64,some .u64,none]:=by kernel_rfl
theorem ty135:tyOf Tryz.prog 135=some ⟨1,8,(.map none),.other⟩:=by kernel_rfl
theorem ty159:tyOf Tryz.prog 159=some ⟨3,24,(.agg #[(.int .i64 0),(.int .i64 0),(.bool false)]),.struct [(0,1,3),(1,1,3),(2,1,4)]⟩:=by kernel_rfl
theorem bytes159:Tryz.prog.bytesOf 159=24:=by kernel_rfl
theorem flat159:flatKinds Tryz.prog 159=some [some .i64,some .i64,none]:=by kernel_rfl
theorem ty161:tyOf Tryz.prog 161=some ⟨6,48,(.agg #[(.int .i64 0),(.int .i64 0),(.int .i64 0),(.int .i64 0),(.int .i64 0),(.int .i64 0)]),.struct [(0,1,3),(1,1,3),(2,1,3),(3,1,3),(4,1,3),(5,1,3)]⟩:=by kernel_rfl
theorem bytes161:Tryz.prog.bytesOf 161=48:=by kernel_rfl
theorem ty166:tyOf Tryz.prog 166=some ⟨1,8,.nilFunc,.other⟩:=by kernel_rfl
theorem ty168:tyOf Tryz.prog 168=some ⟨1,8,(.agg #[.nilFunc]),.struct [(0,1,166)]⟩:=by kernel_rfl
theorem ty173:tyOf Tryz.prog 173=some ⟨14,240,(.agg #[(.int .i64 0),(.int .i64 0),(.slice none 0 0),(.slice none 0 0),(.slice none 0 0),(.slice none 0 0),(.slice none 0 0),(.slice none 0 0),(.slice none 0 0),(.slice none 0 0),(.int .u64 0),(.int .u64 0),(.int .u64 0),(.bool false)]),.struct [(0,10,61),(10,1,37),(11,1,37),(12,1,37),(13,1,4)]⟩:=by kernel_rfl
theorem bytes173:Tryz.prog.bytesOf 173=240:=by kernel_rfl
theorem ty193:tyOf Tryz.prog 193=some ⟨3,24,(.agg #[(.int .i64 0),(.int .i64 0),(.int .i64 0)]),.struct [(0,1,3),(1,1,3),(2,1,3)]⟩:=by kernel_rfl
theorem bytes193:Tryz.prog.bytesOf 193=24:=by kernel_rfl
theorem ty210:tyOf Tryz.prog 210=some ⟨3,24,(.agg #[(.int .i64 0),(.int .u64 0),(.bool false)]),.struct [(0,1,3),(1,1,37),(2,1,4)]⟩:=by kernel_rfl
theorem bytes210:Tryz.prog.bytesOf 210=24:=by kernel_rfl
theorem flat210:flatKinds Tryz.prog 210=some [some .i64,some .u64,none]:=by kernel_rfl
theorem ty214:tyOf Tryz.prog 214=some ⟨1,24,(.slice none 0 0),.slice 34 1⟩:=by kernel_rfl
theorem ty229:tyOf Tryz.prog 229=some ⟨2,16,(.agg #[(.int .u64 0),(.int .i64 0)]),.struct [(0,1,37),(1,1,3)]⟩:=by kernel_rfl
theorem bytes229:Tryz.prog.bytesOf 229=16:=by kernel_rfl
theorem ty255:tyOf Tryz.prog 255=some ⟨3,72,(.agg #[(.slice none 0 0),(.slice none 0 0),(.slice none 0 0)]),.struct [(0,3,29)]⟩:=by kernel_rfl
theorem bytes255:Tryz.prog.bytesOf 255=72:=by kernel_rfl
theorem ty265:tyOf Tryz.prog 265=some ⟨16,208,(.agg #[(.int .i64 0),(.int .i64 0),(.slice none 0 0),(.slice none 0 0),(.int .i64 0),(.int .i64 0),(.slice none 0 0),(.slice none 0 0),(.slice none 0 0),(.int .i64 0),(.int .i64 0),(.int .i64 0),(.int .i64 0),(.int .i64 0),(.int .i64 0),(.int .i64 0)]),.struct [(0,6,42),(6,1,34),(7,1,27),(8,1,34),(9,1,3),(10,6,161)]⟩:=by kernel_rfl
theorem bytes265:Tryz.prog.bytesOf 265=208:=by kernel_rfl
theorem ty287:tyOf Tryz.prog 287=some ⟨3,24,(.agg #[(.int .i64 0),(.int .i64 0),(.int .i64 0)]),.array 3 3 1⟩:=by kernel_rfl
theorem ty289:tyOf Tryz.prog 289=some ⟨1,24,(.slice none 0 0),.slice 291 2⟩:=by kernel_rfl
theorem ty291:tyOf Tryz.prog 291=some ⟨2,16,(.agg #[(.int .i64 0),(.int .u64 0)]),.struct [(0,1,3),(1,1,37)]⟩:=by kernel_rfl
theorem bytes291:Tryz.prog.bytesOf 291=16:=by kernel_rfl
theorem ty306:tyOf Tryz.prog 306=some ⟨4,32,(.agg #[(.int .i64 0),(.int .i64 0),(.int .i64 0),(.int .i64 0)]),.struct [(0,1,3),(1,1,3),(2,1,3),(3,1,3)]⟩:=by kernel_rfl
theorem bytes306:Tryz.prog.bytesOf 306=32:=by kernel_rfl
theorem flat306:flatKinds Tryz.prog 306=some [some .i64,some .i64,some .i64,some .i64]:=by kernel_rfl
theorem ty330:tyOf Tryz.prog 330=some ⟨3,24,(.agg #[(.int .i64 0),(.int .i64 0),(.int .u64 0)]),.struct [(0,1,3),(1,1,3),(2,1,37)]⟩:=by kernel_rfl
theorem bytes330:Tryz.prog.bytesOf 330=24:=by kernel_rfl
theorem flat330:flatKinds Tryz.prog 330=some [some .i64,some .i64,some .u64]:=by kernel_rfl
theorem ty356:tyOf Tryz.prog 356=some ⟨1,24,(.slice none 0 0),.slice 359 2⟩:=by kernel_rfl
theorem ty359:tyOf Tryz.prog 359=some ⟨2,16,(.agg #[(.int .i64 0),(.int .i64 0)]),.struct [(0,1,3),(1,1,3)]⟩:=by kernel_rfl
theorem bytes359:Tryz.prog.bytesOf 359=16:=by kernel_rfl
attribute [go_sem] ty3 ty4 ty23 flat23 ty24 ty25 ty26 ty27 ty29 ty30 ty32 ty33 ty34 ty36 ty37 ty39 ty40 ty42 ty43 ty45 ty47 ty51 ty53 ty56 ty58 ty59 ty61 ty66 ty73 ty75 flat75 ty77 ty85 ty96 flat96 ty107 ty115 ty116 ty132 flat132 ty135 ty159 flat159 ty161 ty166 ty168 ty173 ty193 ty210 flat210 ty214 ty229 ty255 ty265 ty287 ty289 ty291 ty306 flat306 ty330 flat330 ty356 ty359
end Go.Sx
namespace Go.Sx
def e3 (x:Int):List D:=[.v (.int .i64 x)]
def e51 (x:TTape):List D:=[.isl 3 1 (x.L.map e3),.v (.int .i64 x.at_)]
def e37 (x:Int):List D:=[.v (.int .u64 x)]
def e306 (x:TPage):List D:=[.v (.int .i64 x.Kind),.v (.int .i64 x.Space),.v (.int .i64 x.Used),.v (.int .i64 x.Pins)]
def e210 (x:TSlot):List D:=[.v (.int .i64 x.Stamp),.v (.int .u64 x.Ref),.v (.bool x.Live)]
def e159 (x:TScope):List D:=[.v (.int .i64 x.From),.v (.int .i64 x.Cap),.v (.bool x.Base)]
def e132 (x:TEntry):List D:=[.v (.int .i64 x.Gen),.v (.int .u64 x.Ref),.v (.bool x.Live)]
def e229 (x:TPin):List D:=[.v (.int .u64 x.Ref),.v (.int .i64 x.Count)]
def e115 (x:TThing):List D:=[.v (.int .i64 x.Header.Kind),.v (.int .i64 x.Header.Length),.v (.int .u32 x.Header.Map),.isl 37 1 (x.Fields.map e37)]
def e96 (x:TMark):List D:=[.v (.int .u64 x.Id),.v (.int .i64 x.Count),.v (.int .u64 x.Base)]
def e47 (x:TPair):List D:=[.v (.int .i64 x.Env.Heap.Conf.PageWords),.v (.int .i64 x.Env.Heap.Conf.Pages),.isl 37 1 (x.Env.Heap.Words.map e37),.isl 306 4 (x.Env.Heap.Pages.map e306),.v (.int .i64 x.Env.Heap.Space),.v (.int .i64 x.Env.Heap.Bump),.isl 210 3 (x.Env.Locals.Slots.map e210),.isl 159 3 (x.Env.Locals.Scopes.map e159),.isl 3 1 (x.Env.Locals.Issued.map e3),.isl 132 3 (x.Env.Globals.Entries.map e132),.isl 132 3 (x.Env.Weaks.Entries.map e132),.isl 229 2 (x.Env.Pins.map e229),.isl 37 1 (x.Env.Roots.map e37),.v (.int .i64 x.World.Conf.PageWords),.v (.int .i64 x.World.Conf.Pages),.isl 115 4 (x.World.Things.map e115),.isl 210 3 (x.World.Locals.Slots.map e210),.isl 159 3 (x.World.Locals.Scopes.map e159),.isl 3 1 (x.World.Locals.Issued.map e3),.isl 132 3 (x.World.Globals.Entries.map e132),.isl 132 3 (x.World.Weaks.Entries.map e132),.isl 96 3 (x.World.Marks.map e96),.isl 37 1 (x.World.Roots.map e37),.isl 37 1 (x.Words.map e37)]
def e53 (x:TDeed):List D:=[.v (.int .i64 x.Op),.v (.int .u64 x.A),.v (.int .u64 x.B),.v (.int .u64 x.C)]
def e23 (x:TConf):List D:=[.v (.int .i64 x.PageWords),.v (.int .i64 x.Pages)]
def e36 (x:TWorld):List D:=[.v (.int .i64 x.Conf.PageWords),.v (.int .i64 x.Conf.Pages),.isl 115 4 (x.Things.map e115),.isl 210 3 (x.Locals.Slots.map e210),.isl 159 3 (x.Locals.Scopes.map e159),.isl 3 1 (x.Locals.Issued.map e3),.isl 132 3 (x.Globals.Entries.map e132),.isl 132 3 (x.Weaks.Entries.map e132),.isl 96 3 (x.Marks.map e96),.isl 37 1 (x.Roots.map e37)]
def e42 (x:THeap):List D:=[.v (.int .i64 x.Conf.PageWords),.v (.int .i64 x.Conf.Pages),.isl 37 1 (x.Words.map e37),.isl 306 4 (x.Pages.map e306),.v (.int .i64 x.Space),.v (.int .i64 x.Bump)]
def e45 (x:TEnv):List D:=[.v (.int .i64 x.Heap.Conf.PageWords),.v (.int .i64 x.Heap.Conf.Pages),.isl 37 1 (x.Heap.Words.map e37),.isl 306 4 (x.Heap.Pages.map e306),.v (.int .i64 x.Heap.Space),.v (.int .i64 x.Heap.Bump),.isl 210 3 (x.Locals.Slots.map e210),.isl 159 3 (x.Locals.Scopes.map e159),.isl 3 1 (x.Locals.Issued.map e3),.isl 132 3 (x.Globals.Entries.map e132),.isl 132 3 (x.Weaks.Entries.map e132),.isl 229 2 (x.Pins.map e229),.isl 37 1 (x.Roots.map e37)]
def e32 (x:TTable):List D:=[.isl 132 3 (x.Entries.map e132)]
def e75 (x:THeader):List D:=[.v (.int .i64 x.Kind),.v (.int .i64 x.Length),.v (.int .u32 x.Map)]
def e29 (x:TLocals):List D:=[.isl 210 3 (x.Slots.map e210),.isl 159 3 (x.Scopes.map e159),.isl 3 1 (x.Issued.map e3)]
def e4 (x:Bool):List D:=[.v (.bool x)]
def e193 (x:THandle):List D:=[.v (.int .i64 x.Tag),.v (.int .i64 x.Index),.v (.int .i64 x.Stamp)]
def e39 (x:TFact):List D:=[.v (.bool x.Failed),.v (.bool x.Collected),.v (.int .u64 x.Base)]
def e330 (x:TFinding):List D:=[.v (.int .i64 x.Fault),.v (.int .i64 x.Page),.v (.int .u64 x.Addr)]
def e265 (x:TWork):List D:=[.v (.int .i64 x.Heap.Conf.PageWords),.v (.int .i64 x.Heap.Conf.Pages),.isl 37 1 (x.Heap.Words.map e37),.isl 306 4 (x.Heap.Pages.map e306),.v (.int .i64 x.Heap.Space),.v (.int .i64 x.Heap.Bump),.isl 37 1 (x.Old.map e37),.isl 3 1 (x.Taken.map e3),.isl 37 1 (x.Queue.map e37),.v (.int .i64 x.Scanned),.v (.int .i64 x.Report.Copied),.v (.int .i64 x.Report.Kept),.v (.int .i64 x.Report.Filled),.v (.int .i64 x.Report.Freed),.v (.int .i64 x.Report.Cleared),.v (.int .i64 x.Report.Steps)]
def e359 (x:TRun):List D:=[.v (.int .i64 x.From),.v (.int .i64 x.Len)]
def e161 (x:TReport):List D:=[.v (.int .i64 x.Copied),.v (.int .i64 x.Kept),.v (.int .i64 x.Filled),.v (.int .i64 x.Freed),.v (.int .i64 x.Cleared),.v (.int .i64 x.Steps)]
def e77 (x:TThing):List D:=[.v (.int .i64 x.Header.Kind),.v (.int .i64 x.Header.Length),.v (.int .u32 x.Header.Map),.isl 37 1 (x.Fields.map e37)]
def e116 (x:TMark):List D:=[.v (.int .u64 x.Id),.v (.int .i64 x.Count),.v (.int .u64 x.Base)]
def e61 (x:TWorld):List D:=[.v (.int .i64 x.Conf.PageWords),.v (.int .i64 x.Conf.Pages),.isl 77 4 (x.Things.map e77),.isl 210 3 (x.Locals.Slots.map e210),.isl 159 3 (x.Locals.Scopes.map e159),.isl 3 1 (x.Locals.Issued.map e3),.isl 132 3 (x.Globals.Entries.map e132),.isl 132 3 (x.Weaks.Entries.map e132),.isl 116 3 (x.Marks.map e116),.isl 37 1 (x.Roots.map e37)]
def e34 (x:List Int):List D:=[.isl 37 1 (x.map e37)]
def e255 (x:Tframes):List D:=[.isl 210 3 (x.Locals.Slots.map e210),.isl 159 3 (x.Locals.Scopes.map e159),.isl 3 1 (x.Locals.Issued.map e3)]
def e173 (x:Tasked):List D:=[.v (.int .i64 x.World.Conf.PageWords),.v (.int .i64 x.World.Conf.Pages),.isl 77 4 (x.World.Things.map e77),.isl 210 3 (x.World.Locals.Slots.map e210),.isl 159 3 (x.World.Locals.Scopes.map e159),.isl 3 1 (x.World.Locals.Issued.map e3),.isl 132 3 (x.World.Globals.Entries.map e132),.isl 132 3 (x.World.Weaks.Entries.map e132),.isl 116 3 (x.World.Marks.map e116),.isl 37 1 (x.World.Roots.map e37),.v (.int .u64 x.a),.v (.int .u64 x.b),.v (.int .u64 x.c),.v (.bool x.failed)]
def e291 (x:TField):List D:=[.v (.int .i64 x.Width),.v (.int .u64 x.Value)]
def e66 (x:TFact):List D:=[.v (.bool x.Failed),.v (.bool x.Collected),.v (.int .u64 x.Base)]
attribute [go_sem] e3 e51 e37 e306 e210 e159 e132 e229 e115 e96 e47 e53 e23 e36 e42 e45 e32 e75 e29 e4 e193 e39 e330 e265 e359 e161 e77 e116 e61 e34 e255 e173 e291 e66 bytes3 bytes51 bytes37 bytes306 bytes210 bytes159 bytes132 bytes229 bytes115 bytes96 bytes47 bytes53 bytes23 bytes36 bytes42 bytes45 bytes32 bytes75 bytes29 bytes4 bytes193 bytes39 bytes330 bytes265 bytes359 bytes161 bytes77 bytes116 bytes61 bytes34 bytes255 bytes173 bytes291 bytes66
theorem mixed:Go.Proofs.Tryz.prog.follows .mixedOrders=true:=by kernel_rfl
def GW (G:Nat->Option (List D)):Prop:=G 0=some [.v (.int .i64 2),.v (.int .i64 16),.v (.int .i64 32)]
end Go.Sx
namespace Go.Sx
open Go.Proofs
theorem E:True:=trivial
theorem hd:True:=trivial
theorem hx3:True:=trivial
theorem hl3:True:=trivial
theorem hl4:True:=trivial
theorem hl34:True:=trivial
theorem hl36:True:=trivial
theorem hl37:True:=trivial
theorem hl77:True:=trivial
theorem hl96:True:=trivial
theorem hl115:True:=trivial
theorem hl116:True:=trivial
theorem hl132:True:=trivial
theorem hl159:True:=trivial
theorem hl210:True:=trivial
theorem hl229:True:=trivial
theorem hl291:True:=trivial
theorem hl306:True:=trivial
theorem hl359:True:=trivial
attribute [go_sem] Option.get!
structure Fn (n:Nat):Prop where
class OK {α:Type} (o:Option α) (f:outParam Nat) (a:outParam (List D)) (l:outParam (List Ob)) (e:outParam (α->D)) (l':outParam (α->List Ob)):Prop where
 h:∀ G,GW G->∀ r,o=some r->ACalls Tryz.prog G f a l (Eqs (e r) (l' r))
section
variable {α β:Type} {o:Option α} {k:α->Option β} {f:Nat} {a args:List D} {l:List Ob} {e:α->D} {l':α->List Ob} {G:Nat->Option (List D)} {r:β} {K:D->List Ob->Prop}
theorem OK.c [h:OK o f a l e l'] (hr:bnd o k=some r) (hw:GW G) (hf:fitsL args a) (hK:∀ y,k y=some r->K (e y) (l' y)) (t:Prf args):CallG Tryz.prog G f args l K t :=
 bnd_e hr fun y hy hr=>CallG.ofE (h.h G hw y hy) hf (hK y hr) t
theorem OK.d [h:OK o f a l e l'] (hr:bnd o k=some r) (hw:GW G) (hf:fitsL args a) (hK:∀ y,k y=some r->K (e y) (l' y)) (t:Prf args):CallD Tryz.prog G f args l K t :=
 bnd_e hr fun y hy hr=>CallD.ofE (h.h G hw y hy) hf (hK y hr) t
theorem rn (fn:Func) (rs:List ResultVar) (fr:List Nat) (nt:Nat)
 (hk:(Tryz.prog.funcs[f]?,fn.body,fn.name== "runtime.NumGoroutine",fn.results,fn.ntmps,a.length.ble nt)=(some fn,some (fn.body.get!),false,⟨rs⟩,nt,true))
 (h:∀ G,GW G->∀ r,o=some r->∀ (C:Cx) x,C.G=G->WfL Tryz.prog a->Fn f->run Tryz.prog (C.sub 0 x) (retP Tryz.prog rs fr l.length (Eqs (e r) (l' r))) 1000 [.code (fn.body.get!)] (st0 a l nt)):OK o f a l e l':=by
 injection hk with h1 hk;injection hk with h2 hk;injection hk with h3 hk;injection hk with h4 hk;injection hk with h5 h6
 exact ⟨fun G hw r hr=>acalls_of_run 1000 fr nt h1 h2 h3 h4 h5 (Nat.le_of_ble_eq_true h6) fun C x hG hwf=>h G hw r hr C x hG hwf ⟨⟩⟩
end
theorem db {C:Cx} {R:St->Prop} {k:List It} {st:St} {l:List Oper} (f id:Nat) (_:Fn f) (aux:List (List Nat×List Nat×List Nat×List Nat)) (ho:(mkEn 0 l aux).map (·.o)=l) (hi:(mkEn 0 l aux).map (·.i)=List.range (mkEn 0 l aux).length) (hc:chkD (mkEn 0 l aux)=true)
 (h:dr Tryz.prog C ⟨l⟩ st.k (mkEn 0 l aux) st fun st'=>run Tryz.prog C R 1000 k ⟨st'.t,st'.s,st'.n,st.k+(mkEn 0 l aux).length⟩) (t:Prf (⟨l⟩:Array Oper)):DrawnG Tryz.prog C R id ⟨l⟩ k st t :=
 DrawnG.by aux 1000 mixed ho hi hc h t
class El {α:Type} (x:Option α) (r:α) (K:outParam (Prop->Prop)):Prop where
 el:∀ {G:Prop},x=some r->K G->G
instance {α:Type} {p:Prop} [Decidable p] {x:Option α} {r:α}:El (grd p x) r fun G=>x=some r->p->G:=⟨fun h k=>grd_e h fun a b=>k b a⟩
instance {κ α:Type} {k:κ} {f:κ->Option α} {r:α}:El (jn k f) r fun G=>f k=some r->G:=⟨fun h k=>jn_e h k⟩
instance {α β γ:Type} {b:β} {f:α->Option γ} {k:β->Option γ} {r:γ}:El (exK (.nxt b) f k) r fun G=>k b=some r->G:=⟨fun h k=>exn_e h k⟩
instance {α β γ:Type} {b:α} {f:α->Option γ} {k:β->Option γ} {r:γ}:El (exK (.ret b) f k) r fun G=>f b=some r->G:=⟨fun h k=>exr_e h k⟩
instance {α:Type} {x y:Option α} {r:α}:El (bif true then x else y) r fun G=>x=some r->G:=⟨fun h k=>k h⟩
instance {α:Type} {x y:Option α} {r:α}:El (bif false then x else y) r fun G=>y=some r->G:=⟨fun h k=>k h⟩
instance {α:Type} {x y:Option α} {r:α}:El (bif !false then x else y) r fun G=>x=some r->G:=⟨fun h k=>k h⟩
instance {α:Type} {x y:Option α} {r:α}:El (bif !true then x else y) r fun G=>y=some r->G:=⟨fun h k=>k h⟩
theorem bc_e {α:Type} {G:Prop} {b c:Bool} {x y:Option α} {r:α} (h:(bif b then x else y)=some r) (hb:b=c) (g:(bif c then x else y)=some r->G):G:=g (hb▸h)
theorem wI_n:wI 1=1∧wI 2=2∧wI 3=3∧wI 4=4∧wI 5=5∧wI 6=6:=by unfold wI;decide
theorem spec_e {α:Type} {G:Prop} {a c:Int} {x:Option α} {r:α} (h:(bif (a==c) then x else none)=some r) (g:a=c->x=some r->G):G:=by
 by_cases hc:a=c
 ·subst hc;simp only[beq_self_eq_true,cond_true] at h;exact g rfl h
 ·simp only[beq_eq_false_iff_ne.2 hc,cond_false] at h;cases h
end Go.Sx
namespace Go.Sx
open Go.Proofs
set_option maxRecDepth 10000
theorem list_enc {α:Type} {e:α->List D} {p:α->Prop}:∀ {es:List (List D)},(∀ x∈es,∃ y,x=e y∧p y)->∃ l:List α,es=l.map e∧∀ x∈l,p x
 | [],_=>⟨[],rfl,fun x h=>by cases h⟩
 | x::es,h=>by
  obtain ⟨y,rfl,hy⟩:=h x (by simp)
  obtain ⟨l,rfl,hl⟩:=list_enc (e:=e) (p:=p) (es:=es) fun z hz=>h z (List.mem_cons_of_mem _ hz)
  exact ⟨y::l,rfl,fun z hz=>by rcases List.mem_cons.1 hz with rfl | hz;exact hy;exact hl z hz⟩
section
variable {P:Program} {t e:TypeId} {fs:List (Nat×Nat×Nat)} {a b s:Nat} {z:Value}
theorem sh_sl (m:Nat) (h:tyOf P t=some ⟨a,b,z,.slice e s⟩) (ds:List D):Sh P (m+1) t ds=∃ es,ds=[.isl e (P.cellsOf e) es]∧es.length<=top47∧es.length*P.bytesOf e<=top47∧∀ x∈es,Sh P m e x:=by simp only[Sh,(und_slice h).1]
theorem sh_st (m:Nat) (h:tyOf P t=some ⟨a,b,z,.struct fs⟩) (ds:List D):Sh P (m+1) t ds=ShF (Sh P m) (fs.map (·.2.2)) ds:=by
 obtain ⟨fields,h1,h2,_⟩:=und_struct h
 simp only[Sh,h1]
 rw[h2,List.map_map]
 rfl
theorem sh_u64 (h:tyOf P t=some ⟨a,b,z,.int .u64⟩):∀ (m:Nat) (ds:List D),Sh P m t ds->∃ n,ds=[.v (.int .u64 n)]∧tU n
 | 0,_,h'=>h'.elim
 | m+1,ds,h'=>by
  simp only[Sh,und_int h] at h'
  obtain ⟨n,rfl,h1,h2⟩:=h'
  exact ⟨n,rfl,by unfold tU;rw[min_u64] at h1;rw[max_u64] at h2;exact ⟨h1,h2⟩⟩
theorem sh_u32 (h:tyOf P t=some ⟨a,b,z,.int .u32⟩):∀ (m:Nat) (ds:List D),Sh P m t ds->∃ n,ds=[.v (.int .u32 n)]∧tW n
 | 0,_,h'=>h'.elim
 | m+1,ds,h'=>by
  simp only[Sh,und_int h] at h'
  obtain ⟨n,rfl,h1,h2⟩:=h'
  exact ⟨n,rfl,by unfold tW;rw[min_u32] at h1;rw[max_u32] at h2;exact ⟨h1,h2⟩⟩
theorem sh_i64 (h:tyOf P t=some ⟨a,b,z,.int .i64⟩):∀ (m:Nat) (ds:List D),Sh P m t ds->∃ n,ds=[.v (.int .i64 n)]∧True
 | 0,_,h'=>h'.elim
 | m+1,ds,h'=>by
  simp only[Sh,und_int h] at h'
  obtain ⟨n,rfl,h1,h2⟩:=h'
  exact ⟨n,rfl,trivial⟩
theorem sh_bool (h:tyOf P t=some ⟨a,b,z,.bool⟩):∀ (m:Nat) (ds:List D),Sh P m t ds->∃ b,ds=[.v (.bool b)]∧True
 | 0,_,h'=>h'.elim
 | m+1,ds,h'=>by
  simp only[Sh,und_bool h] at h'
  obtain ⟨n,rfl⟩:=h'
  exact ⟨n,rfl,trivial⟩
end
theorem cel3:Tryz.prog.cellsOf 3=1:=by kernel_rfl
theorem cel37:Tryz.prog.cellsOf 37=1:=by kernel_rfl
theorem cel96:Tryz.prog.cellsOf 96=3:=by kernel_rfl
theorem cel115:Tryz.prog.cellsOf 115=4:=by kernel_rfl
theorem cel132:Tryz.prog.cellsOf 132=3:=by kernel_rfl
theorem cel159:Tryz.prog.cellsOf 159=3:=by kernel_rfl
theorem cel210:Tryz.prog.cellsOf 210=3:=by kernel_rfl
theorem sh_23:∀ (m:Nat) (ds:List D),Sh Tryz.prog m 23 ds->∃ x:TConf,ds=e23 x∧True
 | 0,_,h=>h.elim
 | m+1,ds,h=>by
  rw[show Sh Tryz.prog (m+1) 23 ds=_ from sh_st m ty23 ds] at h
  simp only[List.map_cons,List.map_nil,ShF] at h
  obtain ⟨c0,_,rfl,s0,⟨c1,_,rfl,s1,rfl⟩⟩:=h
  obtain ⟨x0,rfl,p0⟩:=sh_i64 ty3 _ _ s0
  obtain ⟨x1,rfl,p1⟩:=sh_i64 ty3 _ _ s1
  exact ⟨⟨x0,x1⟩,rfl,trivial⟩
theorem sh_75:∀ (m:Nat) (ds:List D),Sh Tryz.prog m 75 ds->∃ x:THeader,ds=e75 x∧tTHeader x
 | 0,_,h=>h.elim
 | m+1,ds,h=>by
  rw[show Sh Tryz.prog (m+1) 75 ds=_ from sh_st m ty75 ds] at h
  simp only[List.map_cons,List.map_nil,ShF] at h
  obtain ⟨c0,_,rfl,s0,⟨c1,_,rfl,s1,⟨c2,_,rfl,s2,rfl⟩⟩⟩:=h
  obtain ⟨x0,rfl,p0⟩:=sh_i64 ty3 _ _ s0
  obtain ⟨x1,rfl,p1⟩:=sh_i64 ty3 _ _ s1
  obtain ⟨x2,rfl,p2⟩:=sh_u32 ty73 _ _ s2
  exact ⟨⟨x0,x1,x2⟩,rfl,p2⟩
theorem sh_e37 (m:Nat) (x:List D) (h:Sh Tryz.prog m 37 x):∃ y:Int,x=e37 y∧tU y:=by
 obtain ⟨n,rfl,hp⟩:=sh_u64 ty37 m x h
 exact ⟨n,rfl,hp⟩
theorem sh_34:∀ (m:Nat) (ds:List D),Sh Tryz.prog m 34 ds->∃ l:List Int,ds=[.isl 37 1 (l.map e37)]∧l.length*8<=top47∧∀ x∈l,(fun x=>tU x) x
 | 0,_,h=>h.elim
 | m+1,ds,h=>by
  rw[show Sh Tryz.prog (m+1) 34 ds=_ from sh_sl m ty34 ds] at h
  obtain ⟨es,rfl,_,hb,hs⟩:=h
  obtain ⟨l,rfl,hl⟩:=list_enc (p:=(fun x=>tU x)) (fun x hx=>sh_e37 m x (hs x hx))
  exact ⟨l,by rw[cel37],by rw[List.length_map,bytes37] at hb;exact hb,hl⟩
theorem sh_115:∀ (m:Nat) (ds:List D),Sh Tryz.prog m 115 ds->∃ x:TThing,ds=e115 x∧tTThing x
 | 0,_,h=>h.elim
 | m+1,ds,h=>by
  rw[show Sh Tryz.prog (m+1) 115 ds=_ from sh_st m ty115 ds] at h
  simp only[List.map_cons,List.map_nil,ShF] at h
  obtain ⟨c0,_,rfl,s0,⟨c1,_,rfl,s1,rfl⟩⟩:=h
  obtain ⟨x0,rfl,p0⟩:=sh_75 _ _ s0
  obtain ⟨x1,rfl,_,p1⟩:=sh_34 _ _ s1
  exact ⟨⟨x0,x1⟩,rfl,⟨p0,p1⟩⟩
theorem sh_e115 (m:Nat) (x:List D) (h:Sh Tryz.prog m 115 x):∃ y:TThing,x=e115 y∧tTThing y:=by
 obtain ⟨n,rfl,hp⟩:=sh_115 m x h
 exact ⟨n,rfl,hp⟩
theorem sh_24:∀ (m:Nat) (ds:List D),Sh Tryz.prog m 24 ds->∃ l:List TThing,ds=[.isl 115 4 (l.map e115)]∧l.length*48<=top47∧∀ x∈l,(fun x=>tTThing x) x
 | 0,_,h=>h.elim
 | m+1,ds,h=>by
  rw[show Sh Tryz.prog (m+1) 24 ds=_ from sh_sl m ty24 ds] at h
  obtain ⟨es,rfl,_,hb,hs⟩:=h
  obtain ⟨l,rfl,hl⟩:=list_enc (p:=(fun x=>tTThing x)) (fun x hx=>sh_e115 m x (hs x hx))
  exact ⟨l,by rw[cel115],by rw[List.length_map,bytes115] at hb;exact hb,hl⟩
theorem sh_210:∀ (m:Nat) (ds:List D),Sh Tryz.prog m 210 ds->∃ x:TSlot,ds=e210 x∧tTSlot x
 | 0,_,h=>h.elim
 | m+1,ds,h=>by
  rw[show Sh Tryz.prog (m+1) 210 ds=_ from sh_st m ty210 ds] at h
  simp only[List.map_cons,List.map_nil,ShF] at h
  obtain ⟨c0,_,rfl,s0,⟨c1,_,rfl,s1,⟨c2,_,rfl,s2,rfl⟩⟩⟩:=h
  obtain ⟨x0,rfl,p0⟩:=sh_i64 ty3 _ _ s0
  obtain ⟨x1,rfl,p1⟩:=sh_u64 ty37 _ _ s1
  obtain ⟨x2,rfl,p2⟩:=sh_bool ty4 _ _ s2
  exact ⟨⟨x0,x1,x2⟩,rfl,p1⟩
theorem sh_e210 (m:Nat) (x:List D) (h:Sh Tryz.prog m 210 x):∃ y:TSlot,x=e210 y∧tTSlot y:=by
 obtain ⟨n,rfl,hp⟩:=sh_210 m x h
 exact ⟨n,rfl,hp⟩
theorem sh_25:∀ (m:Nat) (ds:List D),Sh Tryz.prog m 25 ds->∃ l:List TSlot,ds=[.isl 210 3 (l.map e210)]∧l.length*24<=top47∧∀ x∈l,(fun x=>tTSlot x) x
 | 0,_,h=>h.elim
 | m+1,ds,h=>by
  rw[show Sh Tryz.prog (m+1) 25 ds=_ from sh_sl m ty25 ds] at h
  obtain ⟨es,rfl,_,hb,hs⟩:=h
  obtain ⟨l,rfl,hl⟩:=list_enc (p:=(fun x=>tTSlot x)) (fun x hx=>sh_e210 m x (hs x hx))
  exact ⟨l,by rw[cel210],by rw[List.length_map,bytes210] at hb;exact hb,hl⟩
theorem sh_159:∀ (m:Nat) (ds:List D),Sh Tryz.prog m 159 ds->∃ x:TScope,ds=e159 x∧True
 | 0,_,h=>h.elim
 | m+1,ds,h=>by
  rw[show Sh Tryz.prog (m+1) 159 ds=_ from sh_st m ty159 ds] at h
  simp only[List.map_cons,List.map_nil,ShF] at h
  obtain ⟨c0,_,rfl,s0,⟨c1,_,rfl,s1,⟨c2,_,rfl,s2,rfl⟩⟩⟩:=h
  obtain ⟨x0,rfl,p0⟩:=sh_i64 ty3 _ _ s0
  obtain ⟨x1,rfl,p1⟩:=sh_i64 ty3 _ _ s1
  obtain ⟨x2,rfl,p2⟩:=sh_bool ty4 _ _ s2
  exact ⟨⟨x0,x1,x2⟩,rfl,trivial⟩
theorem sh_e159 (m:Nat) (x:List D) (h:Sh Tryz.prog m 159 x):∃ y:TScope,x=e159 y∧True:=by
 obtain ⟨n,rfl,hp⟩:=sh_159 m x h
 exact ⟨n,rfl,trivial⟩
theorem sh_26:∀ (m:Nat) (ds:List D),Sh Tryz.prog m 26 ds->∃ l:List TScope,ds=[.isl 159 3 (l.map e159)]∧l.length*24<=top47∧∀ x∈l,(fun _=>True) x
 | 0,_,h=>h.elim
 | m+1,ds,h=>by
  rw[show Sh Tryz.prog (m+1) 26 ds=_ from sh_sl m ty26 ds] at h
  obtain ⟨es,rfl,_,hb,hs⟩:=h
  obtain ⟨l,rfl,hl⟩:=list_enc (p:=(fun _=>True)) (fun x hx=>sh_e159 m x (hs x hx))
  exact ⟨l,by rw[cel159],by rw[List.length_map,bytes159] at hb;exact hb,hl⟩
theorem sh_e3 (m:Nat) (x:List D) (h:Sh Tryz.prog m 3 x):∃ y:Int,x=e3 y∧True:=by
 obtain ⟨n,rfl,hp⟩:=sh_i64 ty3 m x h
 exact ⟨n,rfl,trivial⟩
theorem sh_27:∀ (m:Nat) (ds:List D),Sh Tryz.prog m 27 ds->∃ l:List Int,ds=[.isl 3 1 (l.map e3)]∧l.length*8<=top47∧∀ x∈l,(fun _=>True) x
 | 0,_,h=>h.elim
 | m+1,ds,h=>by
  rw[show Sh Tryz.prog (m+1) 27 ds=_ from sh_sl m ty27 ds] at h
  obtain ⟨es,rfl,_,hb,hs⟩:=h
  obtain ⟨l,rfl,hl⟩:=list_enc (p:=(fun _=>True)) (fun x hx=>sh_e3 m x (hs x hx))
  exact ⟨l,by rw[cel3],by rw[List.length_map,bytes3] at hb;exact hb,hl⟩
theorem sh_29:∀ (m:Nat) (ds:List D),Sh Tryz.prog m 29 ds->∃ x:TLocals,ds=e29 x∧tTLocals x
 | 0,_,h=>h.elim
 | m+1,ds,h=>by
  rw[show Sh Tryz.prog (m+1) 29 ds=_ from sh_st m ty29 ds] at h
  simp only[List.map_cons,List.map_nil,ShF] at h
  obtain ⟨c0,_,rfl,s0,⟨c1,_,rfl,s1,⟨c2,_,rfl,s2,rfl⟩⟩⟩:=h
  obtain ⟨x0,rfl,_,p0⟩:=sh_25 _ _ s0
  obtain ⟨x1,rfl,_,p1⟩:=sh_26 _ _ s1
  obtain ⟨x2,rfl,_,p2⟩:=sh_27 _ _ s2
  exact ⟨⟨x0,x1,x2⟩,rfl,p0⟩
theorem sh_132:∀ (m:Nat) (ds:List D),Sh Tryz.prog m 132 ds->∃ x:TEntry,ds=e132 x∧tTEntry x
 | 0,_,h=>h.elim
 | m+1,ds,h=>by
  rw[show Sh Tryz.prog (m+1) 132 ds=_ from sh_st m ty132 ds] at h
  simp only[List.map_cons,List.map_nil,ShF] at h
  obtain ⟨c0,_,rfl,s0,⟨c1,_,rfl,s1,⟨c2,_,rfl,s2,rfl⟩⟩⟩:=h
  obtain ⟨x0,rfl,p0⟩:=sh_i64 ty3 _ _ s0
  obtain ⟨x1,rfl,p1⟩:=sh_u64 ty37 _ _ s1
  obtain ⟨x2,rfl,p2⟩:=sh_bool ty4 _ _ s2
  exact ⟨⟨x0,x1,x2⟩,rfl,p1⟩
theorem sh_e132 (m:Nat) (x:List D) (h:Sh Tryz.prog m 132 x):∃ y:TEntry,x=e132 y∧tTEntry y:=by
 obtain ⟨n,rfl,hp⟩:=sh_132 m x h
 exact ⟨n,rfl,hp⟩
theorem sh_30:∀ (m:Nat) (ds:List D),Sh Tryz.prog m 30 ds->∃ l:List TEntry,ds=[.isl 132 3 (l.map e132)]∧l.length*24<=top47∧∀ x∈l,(fun x=>tTEntry x) x
 | 0,_,h=>h.elim
 | m+1,ds,h=>by
  rw[show Sh Tryz.prog (m+1) 30 ds=_ from sh_sl m ty30 ds] at h
  obtain ⟨es,rfl,_,hb,hs⟩:=h
  obtain ⟨l,rfl,hl⟩:=list_enc (p:=(fun x=>tTEntry x)) (fun x hx=>sh_e132 m x (hs x hx))
  exact ⟨l,by rw[cel132],by rw[List.length_map,bytes132] at hb;exact hb,hl⟩
theorem sh_32:∀ (m:Nat) (ds:List D),Sh Tryz.prog m 32 ds->∃ x:TTable,ds=e32 x∧tTTable x
 | 0,_,h=>h.elim
 | m+1,ds,h=>by
  rw[show Sh Tryz.prog (m+1) 32 ds=_ from sh_st m ty32 ds] at h
  simp only[List.map_cons,List.map_nil,ShF] at h
  obtain ⟨c0,_,rfl,s0,rfl⟩:=h
  obtain ⟨x0,rfl,_,p0⟩:=sh_30 _ _ s0
  exact ⟨⟨x0⟩,rfl,p0⟩
theorem sh_96:∀ (m:Nat) (ds:List D),Sh Tryz.prog m 96 ds->∃ x:TMark,ds=e96 x∧tTMark x
 | 0,_,h=>h.elim
 | m+1,ds,h=>by
  rw[show Sh Tryz.prog (m+1) 96 ds=_ from sh_st m ty96 ds] at h
  simp only[List.map_cons,List.map_nil,ShF] at h
  obtain ⟨c0,_,rfl,s0,⟨c1,_,rfl,s1,⟨c2,_,rfl,s2,rfl⟩⟩⟩:=h
  obtain ⟨x0,rfl,p0⟩:=sh_u64 ty37 _ _ s0
  obtain ⟨x1,rfl,p1⟩:=sh_i64 ty3 _ _ s1
  obtain ⟨x2,rfl,p2⟩:=sh_u64 ty37 _ _ s2
  exact ⟨⟨x0,x1,x2⟩,rfl,⟨p0,p2⟩⟩
theorem sh_e96 (m:Nat) (x:List D) (h:Sh Tryz.prog m 96 x):∃ y:TMark,x=e96 y∧tTMark y:=by
 obtain ⟨n,rfl,hp⟩:=sh_96 m x h
 exact ⟨n,rfl,hp⟩
theorem sh_33:∀ (m:Nat) (ds:List D),Sh Tryz.prog m 33 ds->∃ l:List TMark,ds=[.isl 96 3 (l.map e96)]∧l.length*24<=top47∧∀ x∈l,(fun x=>tTMark x) x
 | 0,_,h=>h.elim
 | m+1,ds,h=>by
  rw[show Sh Tryz.prog (m+1) 33 ds=_ from sh_sl m ty33 ds] at h
  obtain ⟨es,rfl,_,hb,hs⟩:=h
  obtain ⟨l,rfl,hl⟩:=list_enc (p:=(fun x=>tTMark x)) (fun x hx=>sh_e96 m x (hs x hx))
  exact ⟨l,by rw[cel96],by rw[List.length_map,bytes96] at hb;exact hb,hl⟩
theorem sh_36:∀ (m:Nat) (ds:List D),Sh Tryz.prog m 36 ds->∃ x:TWorld,ds=e36 x∧tTWorld x
 | 0,_,h=>h.elim
 | m+1,ds,h=>by
  rw[show Sh Tryz.prog (m+1) 36 ds=_ from sh_st m ty36 ds] at h
  simp only[List.map_cons,List.map_nil,ShF] at h
  obtain ⟨c0,_,rfl,s0,⟨c1,_,rfl,s1,⟨c2,_,rfl,s2,⟨c3,_,rfl,s3,⟨c4,_,rfl,s4,⟨c5,_,rfl,s5,⟨c6,_,rfl,s6,rfl⟩⟩⟩⟩⟩⟩⟩:=h
  obtain ⟨x0,rfl,p0⟩:=sh_23 _ _ s0
  obtain ⟨x1,rfl,_,p1⟩:=sh_24 _ _ s1
  obtain ⟨x2,rfl,p2⟩:=sh_29 _ _ s2
  obtain ⟨x3,rfl,p3⟩:=sh_32 _ _ s3
  obtain ⟨x4,rfl,p4⟩:=sh_32 _ _ s4
  obtain ⟨x5,rfl,_,p5⟩:=sh_33 _ _ s5
  obtain ⟨x6,rfl,_,p6⟩:=sh_34 _ _ s6
  exact ⟨⟨x0,x1,x2,x3,x4,x5,x6⟩,rfl,⟨p1,p2,p3,p4,p5,p6⟩⟩
end Go.Sx
namespace Go.Sx
open Go.Proofs
section
variable {α β:Type} {o:Option α} {y:α} {f:Nat} {a args:List D} {l:List Ob} {e:α->D} {l':α->List Ob} {G:Nat->Option (List D)} {K:D->List Ob->Prop}
theorem OK.t [h:OK o f a l e l'] (ho:o=some y) (hw:GW G) (hf:fitsL args a) (hK:K (e y) (l' y)) (t:Prf args):CallG Tryz.prog G f args l K t:=CallG.ofE (h.h G hw y ho) hf hK t
theorem OK.td [h:OK o f a l e l'] (ho:o=some y) (hw:GW G) (hf:fitsL args a) (hK:K (e y) (l' y)) (t:Prf args):CallD Tryz.prog G f args l K t:=CallD.ofE (h.h G hw y ho) hf hK t
theorem OK.r {β:Type} {k:α->Option β} {r:β} {C:Cx} {s:Heap} {K':D->Prop} [h:OK o f a [] e l'] (hr:bnd o k=some r) (hw:GW G) (hG:C.G=G) (hro:RoA Tryz.prog C s args a) (hsc:∀ y,scal (e y)=true) (hK:∀ y,k y=some r->K' (e y)) (t:Prf args):CallR Tryz.prog C s f args K' t :=
 bnd_e hr fun y hy hr=>⟨a,Eqs (e y) (l' y),hro,hG▸h.h G hw y hy,⟨_,_,rfl,rfl⟩,fun _ _ h1=>h1.1▸⟨hsc y,hK y hr⟩⟩
end
end Go.Sx
