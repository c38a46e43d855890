import PyProof.Rows.All
import Wide.All
import OpenK.AllK
import Wide.FinOn
import HandS.ForMost
import HandS.ForExc
import HandS.Walk
import HandS.TupAny
import HandS.Conv
import HandS.IsInst
import HandS.Wide
import HandS.TupMul
import HandS.Style
import HandS.Property
import KE.KOpsOwn
import KE.KCallOwn
import OpenK.KOps
import PyProof.ReprRoads
import PyProof.InstNe
import HandS.Defaults
import PyProof.InstEq
import HandS.Star
import HandS.ExcIs
import HandS.ExcField
import HandS.ExcInit
import HandS.ClsMeth
import HandS.ExcOwn
import PyProof.ExcBaseAll.RuntimeError
import HandS.Words
import HandS.Codes
import HandS.Lambda
import HandS.EndTab
import HandS.HeadHook4
import HandS.Head0
import HandS.Head1
import HandS.Head2
import KE.KStateDown
import HandS.EndBits
import KE.KRevSl
import KE.GoesMore
import PyProof.EnumMake
import HandS.Iter
import HandS.Zip
import HandS.Dict
import HandS.Zip0
import PyProof.WalksMore
import HandS.Small
import PySem.Challenge.RW_setbooks_k20_whole_pairs_run
set_option Elab.async false
set_option linter.all false
set_option maxRecDepth 100000
set_option maxHeartbeats 4000000
/-! ## what is looked at behind the top, and the top's run by the kernel -/
namespace K2
open PySem L2 PySem.Spec PyProof.Rows
def top (i : Nat) : Stmt := PySem.Challenge.pw_setbooks_k20_whole_pairs_run.main.body.getD i (.Pass ⟨0, 0, 0, 0⟩)
def meth (i j : Nat) : Stmt := (C8.clsBody (top i)).getD j (.Pass ⟨0, 0, 0, 0⟩)
/-- own classes, then the base's -/
def refsB (bmB : List Value) : List Value → Bool
  | .ref _ :: r => refsB bmB r
  | l => l == bmB
abbrev veB : List Value := [.type "ValueError", .type "Exception", .type "BaseException", .type "object"]
abbrev rtB : List Value := [.type "RuntimeError", .type "Exception", .type "BaseException", .type "object"]
/-- the classes that the law names -/
inductive EC where
  | world
  | start
  | bound
  | stand
  | round
  | ranges
  | number
  | rule
  | run
  | paper
  | row
  | text
  | great
  | left
def EC.nm : EC → Str
  | .world => "BadWorld"
  | .start => "BadStart"
  | .bound => "BadBound"
  | .stand => "BadStand"
  | .round => "BadRound"
  | .ranges => "BadRanges"
  | .number => "BadNumber"
  | .rule => "BadRule"
  | .run => "BadRun"
  | .paper => "BadPaper"
  | .row => "BadRow"
  | .text => "BadText"
  | .great => "TooGreat"
  | .left => "NothingLeft"
def EC.eq : EC → EC → Bool
  | .world, .world => true
  | .start, .start => true
  | .bound, .bound => true
  | .stand, .stand => true
  | .round, .round => true
  | .ranges, .ranges => true
  | .number, .number => true
  | .rule, .rule => true
  | .run, .run => true
  | .paper, .paper => true
  | .row, .row => true
  | .text, .text => true
  | .great, .great => true
  | .left, .left => true
  | _, _ => false
/-- the kinds of refusals that come -/
inductive EK where
  | rd | rn | nb | lf
def EK.c : EK → EC
  | .rd => .round
  | .rn => .run
  | .nb => .number
  | .lf => .left
def EK.fld : EK → Str
  | .rd => "given"
  | .rn => "number"
  | .nb => "given"
  | .lf => "many"
def EK.word : EK → Str
  | .rd => "round"
  | .rn => "run"
  | .nb => "number"
  | .lf => "left"
def cs1 : List EC := [.world, .rule, .start, .bound, .stand, .round, .run, .ranges, .paper, .row]
def cs2 : List EC := [.text, .number, .great, .left]
/-- what is looked at -/
def refsK (o : Obj) : List Addr := match o.data with
  | .dict es _ => es.toList.flatMap fun e => He.refV e.val
  | .func fd => He.refV fd.code ++ He.refV fd.defaults
  | .cls cd => [cd.ns]
  | .fields vs => (match o.cls with
    | .type t => (match decide (t = "property") with
      | true => vs.toList.flatMap He.refV
      | false => [])
    | _ => [])
  | _ => []
def refsG (g : Addr → Option Obj) (a : Addr) : List Addr := match g a with
  | some o => refsK o
  | none => []
/-- level by level -/
def levs (g : Addr → Option Obj) : Nat → List Addr → List Addr
  | 0, l => l
  | n + 1, l => l ++ levs g n (l.flatMap (refsG g))
def seen (g : Addr → Option Obj) : PySem.W.Frag := He.frT g (cStatics :: levs g 5 [mainGlobals])
structure DG where
  ad : PySem.W.Frag → Addr
  name : Str
  qual : Str
  st : Stmt
  dfl : List V
abbrev Sig : Type := Option ((Str × Str) × (Arguments × FuncBody × Scope) × (Addr × List (Str × Addr) × Addr))
def sigF (fd : FuncData) : (Str × Str) × (Arguments × FuncBody × Scope) × (Addr × List (Str × Addr) × Addr) := ((fd.name, fd.qualname), (fd.params, fd.body, fd.scope), (fd.globals, fd.closure, fd.builtins))
def sigAt (K : PySem.W.Frag) (a : Addr) : Sig := (K.lookup a).bind fun o => match o.data with
  | .func fd => some (sigF fd)
  | _ => none
def codeAt (K : PySem.W.Frag) (a : Addr) : Addr := match ((K.lookup a).map Obj.data : Option Data) with
  | some (.func fd) => (match fd.code with
    | .ref c => c
    | _ => 0)
  | _ => 0
def DG.sig (d : DG) : Sig := some ((d.name, d.qual), (defArgs d.st, .stmts (defBody d.st), defScope d.st), (mainGlobals, [], builtinsNs))
def fitsF (K : PySem.W.Frag) (d : DG) (fd : FuncData) : Bool := PySem.W.codeIn K fd.code d.qual && He.dflB K fd.defaults d.dfl
def fits (K : PySem.W.Frag) (d : DG) : Bool := PySem.W.keepIn K (.ref (d.ad K)) && match ((K.lookup (d.ad K)).map Obj.data : Option Data) with
  | some (.func fd) => fitsF K d fd
  | _ => false
def gtr (K : PySem.W.Frag) (m : Str) : Addr := match PySem.W.recIn K (He.ma K (He.ga K "Pair") m) "property" with
  | some (.ref g :: _) => g
  | _ => 0
def propB (K : PySem.W.Frag) (m : Str) : Bool := He.eqO (PySem.W.findIn K (.ref (He.ga K "Pair")) m) (some (some (.ref (He.ma K (He.ga K "Pair") m)))) && (He.eqO (PySem.W.specialIn K (.ref (He.ma K (He.ga K "Pair") m)) "__get__") (some (some (.builtin "property.__get__"))) &&
  (decide (PySem.W.takesIn K (.ref (He.ma K (He.ga K "Pair") m)) = some true) && match PySem.W.recIn K (He.ma K (He.ga K "Pair") m) "property" with
  | some (.ref _ :: _) => true
  | _ => false))
def oexC (C : Addr) (newId : String) (bmB : List Value) (cd : ClassData) (sl : List (Option Value)) : Bool := match cd.mro, sl with
  | .ref D :: bm, [_, _, _, _, some (.builtin n), _] => decide (D = C) && (decide (n = newId) && (!cd.hasDel && (cd.hasDict && refsB bmB bm)))
  | _, _ => false
def oexB (K : PySem.W.Frag) (C : Addr) (newId : String) (bmB : List Value) : Bool := match K.lookup C with
  | some ⟨.type t, _, .cls cd, sl⟩ => decide (t = "type") && oexC C newId bmB cd sl.toList
  | _ => false
def excNew : EK → String
  | .lf => "RuntimeError.__new__"
  | _ => "ValueError.__new__"
def excBm : EK → List Value
  | .lf => rtB
  | _ => veB
def eks : List EK := [.rd, .rn, .nb, .lf]
def ecs : List EC := [.world, .start, .bound, .stand, .round, .ranges, .number, .rule, .run, .paper, .row, .text, .great, .left]
def caK (K : PySem.W.Frag) (x : EC) : Addr := He.ga K x.nm
def excB (K : PySem.W.Frag) (e : EK) : Bool := oexB K (caK K e.c) (excNew e) (excBm e) && (He.eqO (PySem.W.findIn K (.ref (caK K e.c)) "__setattr__") (some (some (.builtin "object.__setattr__"))) && (decide (PySem.W.subIn K (.ref (caK K e.c)) (.type "BaseException") = some true) &&
  (decide (PySem.W.typeIn K (.ref (caK K e.c)) = some (.type "type")) && (PySem.W.keepIn K (.ref (caK K e.c)) && (He.eqO (PySem.W.findIn K (.ref (caK K e.c)) e.fld) (some none) && (He.eqO (PySem.W.findIn K (.ref (caK K e.c)) "__init__") (some (some (.ref (He.ma K (caK K e.c) "__init__")))) &&
  decide (PySem.W.typeIn K (.ref (He.ma K (caK K e.c) "__init__")) = some (.type "function"))))))))
def keptB (K : PySem.W.Frag) (D : Addr) : Bool := He.eqO (PySem.W.findIn K (.ref D) "__getattribute__") (some (some (.builtin "BaseException.__getattribute__"))) && (He.eqO (PySem.W.findIn K (.ref D) "__getattr__") (some none) && (decide (PySem.W.subIn K (.ref D) (.type "BaseException") = some true) && (PySem.W.hasDictIn K D &&
  (He.eqO (PySem.W.findIn K (.ref D) "__class__") (some (some (.builtin "object.__class__"))) && (He.eqO (PySem.W.specialIn K (.builtin "object.__class__") "__get__") (some (some (.builtin "getset_descriptor.__get__"))) && (decide (PySem.W.takesIn K (.builtin "object.__class__") = some true) && decide (PySem.W.mroIn K D (.type "object") = some true)))))))
def cfB : Option PySem.W.CFound → String → Bool
  | some (.val (.builtin x)), y => decide (x = y)
  | _, _ => false
def setB (K : PySem.W.Frag) : Bool := PySem.W.readsIn K (He.ga K "SetError") (.type "type") && (He.eqO (PySem.W.specialIn K (.ref (He.ga K "SetError")) "__getattribute__") (some (some (.builtin "type.__getattribute__"))) && (cfB (PySem.W.findCls K (.ref (He.ga K "SetError")) (.type "type") "__init__") "ValueError.__init__" &&
  cfB (PySem.W.findCls K (.type "RuntimeError") (.type "type") "__init__") "RuntimeError.__init__"))
def flds : List Str := ["own_world", "own_rule", "begin", "now", "past", "coming"]
def pairB (K : PySem.W.Frag) : Bool := (He.Fa.cls "Pair").ok K && ((flds.all fun f => (He.Fa.noat "Pair" f).ok K) && (PySem.W.keepIn K (.ref (He.ga K "Pair")) && (He.eqO (PySem.W.findIn K (.ref (He.ga K "Pair")) "__class__") (some (some (.builtin "object.__class__"))) &&
  (He.eqO (PySem.W.specialIn K (.builtin "object.__class__") "__get__") (some (some (.builtin "getset_descriptor.__get__"))) && (decide (PySem.W.takesIn K (.builtin "object.__class__") = some true) && (decide (PySem.W.mroIn K (He.ga K "Pair") (.type "object") = some true) && (decide (PySem.W.kitOne K (.ref (He.ga K "Pair")) (.ref (He.ga K "Pair")) = some true) &&
  (decide (PySem.W.kitOne K (.type "int") (.ref (He.ga K "Pair")) = some false) && (PySem.W.selfFirst K (He.ga K "Pair") && (PySem.W.notFirst K (He.ga K "Pair") (.type "int") && He.eqO (PySem.W.findIn K (.ref (He.ga K "Pair")) "__ne__") (some (some (.builtin "object.__ne__")))))))))))))
def meths : List Str := ["__init__", "do", "__call__", "__iadd__", "__len__", "__contains__", "__eq__", "undo", "redo", "reruled"]
def props : List Str := ["world", "rule", "stand", "rounds", "farthest"]
def lamD : List Str := ["_law_refused_right", "_law_others_right", "law"]
def cdL (K : PySem.W.Frag) (x : Str) : Addr := codeAt K (He.ga K x)
def tbL (K : PySem.W.Frag) (x : Str) : Addr := He.tabOf K (cdL K x)
def tabB (g : Addr → Option Obj) (K : PySem.W.Frag) (x : Str) : Bool := PySem.W.codeHdIn K (cdL K x) (tbL K x) && (g (tbL K x)).any He.emptyTab
def globs : List Str := (["SetError", "BadWorld", "BadRule", "BadStart", "BadBound", "BadStand", "BadRound", "BadRun", "BadRanges", "BadPaper", "BadRow", "BadText"] : List Str) ++ (["BadNumber", "TooGreat", "NothingLeft", "Pair", "is_integer", "is_whole", "is_world", "need_world", "is_deed", "is_entry", "are_cuts", "is_mode"] : List Str) ++ (["need_rule", "taken_by", "is_round", "entry_at", "stepped", "gone_through", "need_many", "_law_begin", "_law_next", "_law_pick", "_law_deed", "_law_mode"] : List Str) ++ (["_law_rule", "_law_world", "_law_taken", "_law_entry", "_law_done", "_law_rounds", "_law_walked", "_law_fault", "_law_said", "_law_is_so", "_law_row", "_law_added"] : List Str) ++ (["_law_refused_right", "_law_done_more", "_law_steps_right", "_law_others_right", "law"] : List Str)
def frees : List Str := ["isinstance", "int", "bool", "tuple", "str", "len", "all", "zip", "enumerate", "max", "min", "abs", "sum", "list", "range", "repr", "RuntimeError"]
def intL : List (Str × Int) := [("MOST_DRIFT", 60), ("MOST_ERROR", 60), ("MOST_LOSSES", 3), ("MOST_RUN", 60), ("MOST_PARTS", 60), ("MOST_MODES", 3), ("MOST_CUTS", 4), ("MOST_CUT", 300), ("MOST_BEGIN", 500), ("MOST_DONE", 1000)]
def strL : List (Str × Str) := [("HOLD", "hold"), ("SHIFT", "shift"), ("RUN", "run"), ("JUMP", "jump")]
def defsL : List DG := [
⟨fun K => He.ga K "is_integer", "is_integer", "is_integer", top 18, []⟩,
⟨fun K => He.ga K "is_whole", "is_whole", "is_whole", top 19, []⟩,
⟨fun K => He.ga K "is_world", "is_world", "is_world", top 34, []⟩,
⟨fun K => He.ga K "need_world", "need_world", "need_world", top 35, []⟩,
⟨fun K => He.ga K "is_deed", "is_deed", "is_deed", top 36, []⟩,
⟨fun K => He.ga K "is_entry", "is_entry", "is_entry", top 37, []⟩,
⟨fun K => He.ga K "are_cuts", "are_cuts", "are_cuts", top 38, []⟩,
⟨fun K => He.ga K "is_mode", "is_mode", "is_mode", top 39, []⟩,
⟨fun K => He.ga K "need_rule", "need_rule", "need_rule", top 40, []⟩,
⟨fun K => He.ga K "taken_by", "taken_by", "taken_by", top 41, []⟩,
⟨fun K => He.ga K "is_round", "is_round", "is_round", top 42, []⟩,
⟨fun K => He.ga K "entry_at", "entry_at", "entry_at", top 43, []⟩,
⟨fun K => He.ga K "stepped", "stepped", "stepped", top 44, []⟩,
⟨fun K => He.ga K "gone_through", "gone_through", "gone_through", top 45, []⟩,
⟨fun K => He.ga K "need_many", "need_many", "need_many", top 49, []⟩,
⟨fun K => He.ga K "_law_begin", "_law_begin", "_law_begin", top 51, []⟩,
⟨fun K => He.ga K "_law_next", "_law_next", "_law_next", top 52, []⟩,
⟨fun K => He.ga K "_law_pick", "_law_pick", "_law_pick", top 53, []⟩,
⟨fun K => He.ga K "_law_deed", "_law_deed", "_law_deed", top 54, []⟩,
⟨fun K => He.ga K "_law_mode", "_law_mode", "_law_mode", top 55, []⟩,
⟨fun K => He.ga K "_law_rule", "_law_rule", "_law_rule", top 56, []⟩,
⟨fun K => He.ga K "_law_world", "_law_world", "_law_world", top 57, []⟩,
⟨fun K => He.ga K "_law_taken", "_law_taken", "_law_taken", top 58, []⟩,
⟨fun K => He.ga K "_law_entry", "_law_entry", "_law_entry", top 59, []⟩,
⟨fun K => He.ga K "_law_done", "_law_done", "_law_done", top 60, []⟩,
⟨fun K => He.ga K "_law_rounds", "_law_rounds", "_law_rounds", top 61, []⟩,
⟨fun K => He.ga K "_law_walked", "_law_walked", "_law_walked", top 62, []⟩,
⟨fun K => He.ga K "_law_fault", "_law_fault", "_law_fault", top 63, []⟩,
⟨fun K => He.ga K "_law_said", "_law_said", "_law_said", top 64, []⟩,
⟨fun K => He.ga K "_law_is_so", "_law_is_so", "_law_is_so", top 65, []⟩]
  ++ [
⟨fun K => He.ga K "_law_row", "_law_row", "_law_row", top 66, []⟩,
⟨fun K => He.ga K "_law_added", "_law_added", "_law_added", top 67, []⟩,
⟨fun K => He.ga K "_law_refused_right", "_law_refused_right", "_law_refused_right", top 68, []⟩,
⟨fun K => He.ga K "_law_done_more", "_law_done_more", "_law_done_more", top 69, []⟩,
⟨fun K => He.ga K "_law_steps_right", "_law_steps_right", "_law_steps_right", top 70, []⟩,
⟨fun K => He.ga K "_law_others_right", "_law_others_right", "_law_others_right", top 71, []⟩,
⟨fun K => He.ga K "law", "law", "law", top 72, []⟩,
⟨fun K => He.ma K (He.ga K "Pair") "__init__", "__init__", "Pair.__init__", meth 48 0, []⟩,
⟨fun K => He.ma K (He.ga K "Pair") "do", "do", "Pair.do", meth 48 6, []⟩,
⟨fun K => He.ma K (He.ga K "Pair") "__call__", "__call__", "Pair.__call__", meth 48 7, [.non]⟩,
⟨fun K => He.ma K (He.ga K "Pair") "__iadd__", "__iadd__", "Pair.__iadd__", meth 48 8, []⟩,
⟨fun K => He.ma K (He.ga K "Pair") "__len__", "__len__", "Pair.__len__", meth 48 9, []⟩,
⟨fun K => He.ma K (He.ga K "Pair") "__contains__", "__contains__", "Pair.__contains__", meth 48 11, []⟩,
⟨fun K => He.ma K (He.ga K "Pair") "__eq__", "__eq__", "Pair.__eq__", meth 48 12, []⟩,
⟨fun K => He.ma K (He.ga K "Pair") "undo", "undo", "Pair.undo", meth 48 13, [.int 1]⟩,
⟨fun K => He.ma K (He.ga K "Pair") "redo", "redo", "Pair.redo", meth 48 14, [.int 1]⟩,
⟨fun K => He.ma K (He.ga K "Pair") "reruled", "reruled", "Pair.reruled", meth 48 15, []⟩,
⟨fun K => gtr K "world", "world", "Pair.world", meth 48 1, []⟩,
⟨fun K => gtr K "rule", "rule", "Pair.rule", meth 48 2, []⟩,
⟨fun K => gtr K "stand", "stand", "Pair.stand", meth 48 3, []⟩,
⟨fun K => gtr K "rounds", "rounds", "Pair.rounds", meth 48 4, []⟩,
⟨fun K => gtr K "farthest", "farthest", "Pair.farthest", meth 48 5, []⟩,
⟨fun K => He.ma K (He.ga K "BadRound") "__init__", "__init__", "BadRound.__init__", meth 8 0, []⟩,
⟨fun K => He.ma K (He.ga K "BadRun") "__init__", "__init__", "BadRun.__init__", meth 9 0, []⟩,
⟨fun K => He.ma K (He.ga K "BadNumber") "__init__", "__init__", "BadNumber.__init__", meth 14 0, []⟩,
⟨fun K => He.ma K (He.ga K "NothingLeft") "__init__", "__init__", "NothingLeft.__init__", meth 16 0, []⟩]
def facG (K : PySem.W.Frag) : Bool := (globs.all fun x => (He.Fa.glo x).ok K) && ((frees.all fun x => (He.Fa.free x).ok K) && ((intL.all fun q => (He.Fa.int q.1 q.2).ok K) && strL.all fun q => (He.Fa.str q.1 q.2).ok K))
def facP (K : PySem.W.Frag) : Bool := pairB K && ((meths.all fun m => (He.Fa.meth "Pair" m).ok K) && ((He.Fa.mkr "Pair").ok K && (PySem.W.fnIn K (He.ma K (He.ga K "Pair") "__call__") && props.all fun m => propB K m)))
def facE (K : PySem.W.Frag) : Bool := (eks.all fun e => excB K e) && ((eks.all fun e => keptB K (caK K e.c)) && setB K)
def facK (K : PySem.W.Frag) : Bool := (eks.all fun e => ecs.all fun x => decide (PySem.W.kitOne K (.ref (caK K e.c)) (.ref (caK K x)) = some (e.c.eq x))) && ((eks.all fun e => decide (PySem.W.exmAny K (.ref (caK K e.c)) (cs1.map fun x => .ref (caK K x)) = some (cs1.any fun x => e.c.eq x))) &&
  eks.all fun e => decide (PySem.W.exmAny K (.ref (caK K e.c)) (cs2.map fun x => .ref (caK K x)) = some (cs2.any fun x => e.c.eq x)))
def facT (K : PySem.W.Frag) : Bool := decide (tbL K "_law_refused_right" ≠ tbL K "_law_others_right") && (decide (tbL K "_law_refused_right" ≠ tbL K "law") && decide (tbL K "_law_others_right" ≠ tbL K "law"))
def facA (K : PySem.W.Frag) : Bool := facG K && (facP K && (facE K && (facK K && facT K)))
abbrev AlK : Type := List Sig × (Bool × (Bool × Bool))
def obsK (g : Addr → Option Obj) (K : PySem.W.Frag) : AlK := (defsL.map fun d => sigAt K (d.ad K), facA K, (lamD.all fun x => tabB g K x), defsL.all fun d => fits K d)
def valK : AlK := (defsL.map DG.sig, true, true, true)
def obsG (g : Addr → Option Obj) : AlK := obsK g (seen g)
def obT (s : PySem.W.SharedT) : AlK := obsG (HandSHeadRun.getT s)
end K2
set_option maxHeartbeats 0
namespace K2
open PySem PySem.W PySem.Calls PyProof.Rows
abbrev RWK : OpenRow := OpenLaw.row PySem.Challenge.rw_setbooks_k20_whole_pairs_run
abbrev qvK : Program := view RWK.prog [72]
def looseK : List PySem.Str := (["_wall", "SetError", "BadWorld", "BadRule", "BadStart", "BadBound", "BadStand", "BadRound", "BadRun", "BadRanges", "BadPaper", "BadRow"] : List PySem.Str) ++ (["BadText", "BadNumber", "TooGreat", "NothingLeft", "is_integer", "is_whole", "MOST_DRIFT", "MOST_ERROR", "MOST_LOSSES", "MOST_RUN", "MOST_PARTS", "MOST_MODES"] : List PySem.Str) ++ (["MOST_CUTS", "MOST_CUT", "MOST_BEGIN", "HOLD", "SHIFT", "RUN", "JUMP", "is_world", "need_world", "is_deed", "is_entry", "are_cuts"] : List PySem.Str) ++ (["is_mode", "need_rule", "taken_by", "is_round", "entry_at", "stepped", "gone_through", "MOST_DONE", "Pair", "need_many", "_law_begin", "_law_next"] : List PySem.Str) ++ (["_law_pick", "_law_deed", "_law_mode", "_law_rule", "_law_world", "_law_taken", "_law_entry", "_law_done", "_law_rounds", "_law_walked", "_law_fault", "_law_said"] : List PySem.Str) ++ (["_law_is_so", "_law_row", "_law_added", "_law_refused_right", "_law_done_more", "_law_steps_right", "_law_others_right"] : List PySem.Str)
theorem run0 (w : World) (os : OsState) : (HandSHeadRun.endF (HandSHeadRun.stepQ (HandSHeadRun.denQ HandSHeadRun.tabQ) RWK.prog w) 15000 RWK.prog w os).map (fun s => (HandSHeadRun.looksF RWK.prog (boot_heap w.params) s.abs, HandSHeadRun.seenQ qvK looseK (importedModules RWK.prog.main.body) (fun s => xlAt qvK [] s && recOk RWK.toRowW.records s) s.abs, obT s)) = some (true, openGood qvK looseK, valK) := by
  kernel_rfl
end K2

set_option Elab.async false
set_option linter.all false
set_option maxRecDepth 100000
set_option maxHeartbeats 1000000
namespace K2
open PySem L2
/-! ## heaps that grow, and what stays -/
/-- what holds items: it stays through every call of this program -/
def seqO : HO → Bool
  | .tup _ => true
  | .lst _ => true
  | _ => false
structure Ft (H H' : Hp) : Prop where
  sq : ∀ b o, H b = some o → seqO o = true → H' b = some o
  fr : ∀ b, H' b = none → H b = none
/-- nothing but the objects at M (none of which holds items) may be another -/
structure Fr (M : List Addr) (H H' : Hp) : Prop where
  kp : ∀ b o, H b = some o → (b ∉ M ∨ seqO o = true) → H' b = some o
  fr : ∀ b, H' b = none → H b = none
theorem Ft.refl (H : Hp) : Ft H H := ⟨fun _ _ h _ => h, fun _ h => h⟩
theorem Ft.trans {H H1 H2 : Hp} (a : Ft H H1) (b : Ft H1 H2) : Ft H H2 := ⟨fun c o h s => b.sq c o (a.sq c o h s) s, fun c h => a.fr c (b.fr c h)⟩
theorem Fr.refl {M : List Addr} (H : Hp) : Fr M H H := ⟨fun _ _ h _ => h, fun _ h => h⟩
theorem Fr.trans {M : List Addr} {H H1 H2 : Hp} (a : Fr M H H1) (b : Fr M H1 H2) : Fr M H H2 := ⟨fun c o h s => b.kp c o (a.kp c o h s) s, fun c h => a.fr c (b.fr c h)⟩
theorem Fr.mono {M M' : List Addr} {H H1 : Hp} (a : Fr M H H1) (h : ∀ b ∈ M, b ∈ M') : Fr M' H H1 := ⟨fun c o e s => a.kp c o e (s.imp (fun z m => z (h c m)) id), a.fr⟩
theorem Fr.ft {M : List Addr} {H H1 : Hp} (a : Fr M H H1) : Ft H H1 := ⟨fun b o h s => a.kp b o h (.inr s), a.fr⟩
theorem _root_.L2.Same.frq {M : List Addr} {H H1 : Hp} (a : Same H H1) : Fr M H H1 := ⟨fun b o h _ => a b o h, fun b h => a.free h⟩
theorem _root_.L2.Same.ftq {H H1 : Hp} (a : Same H H1) : Ft H H1 := ⟨fun b o h _ => a b o h, fun b h => a.free h⟩
theorem Fr.same {H H1 : Hp} (a : Fr [] H H1) : Same H H1 := fun b o h => a.kp b o h (.inl (by simp))
theorem Same.new {H : Hp} {p : Addr} {o : HO} (h : H p = none) : Same H (upd H p o) := fun b u e => by
  rw [upd_ne (ne_of_none e h)]
  exact e
theorem upd_fr {H : Hp} {p b : Addr} {o : HO} (h : upd H p o b = none) : H b = none := by
  unfold upd at h
  split at h
  · cases h
  · exact h
theorem Fr.at {H : Hp} {m : Addr} {o o' : HO} (h : H m = some o) (hs : seqO o = false) : Fr [m] H (upd H m o') := by
  refine ⟨fun b u e s => ?_, fun b e => upd_fr e⟩
  rw [upd_ne]
  · exact e
  · rintro rfl
    rcases s with s | s
    · exact s (List.mem_singleton.mpr rfl)
    · rw [h] at e
      cases e
      rw [hs] at s
      cases s
mutual
/-- what a value stands for: none, bools, ints, texts, tracked lists and tuples of such -/
inductive Dq (H : Hp) : V → PyData → Prop
  | non : Dq H .non .none
  | bl (b : Bool) : Dq H (.bl b) (.bool b)
  | int (i : Int) : Dq H (.int i) (.int i)
  | str (x : Str) : Dq H (.str x) (.str x)
  | lst {a : Addr} {xs : List V} {ds : List PyData} : H a = some (.lst xs) → DqAll H xs ds → Dq H (.ref a) (.list ds)
  | tup {a : Addr} {xs : List V} {ds : List PyData} : H a = some (.tup xs) → DqAll H xs ds → Dq H (.ref a) (.tuple ds)
inductive DqAll (H : Hp) : List V → List PyData → Prop
  | nil : DqAll H [] []
  | cons {v : V} {vs : List V} {d : PyData} {ds : List PyData} : Dq H v d → DqAll H vs ds → DqAll H (v :: vs) (d :: ds)
end
mutual
theorem ft_dp {H H' : Hp} (f : Ft H H') : ∀ (d : PyData) (v : V), Dq H v d → Dq H' v d
  | .none, _, h => by cases h; exact .non
  | .bool _, _, h => by cases h; exact .bl _
  | .int _, _, h => by cases h; exact .int _
  | .str _, _, h => by cases h; exact .str _
  | .list ds, _, h => by
    cases h with
    | lst a b => exact .lst (f.sq _ _ a rfl) (ft_dps f ds _ b)
  | .tuple ds, _, h => by
    cases h with
    | tup a b => exact .tup (f.sq _ _ a rfl) (ft_dps f ds _ b)
  | .dict _, _, h => by cases h
theorem ft_dps {H H' : Hp} (f : Ft H H') : ∀ (ds : List PyData) (vs : List V), DqAll H vs ds → DqAll H' vs ds
  | [], _, h => by cases h; exact .nil
  | d :: ds, _, h => by
    cases h with
    | cons a b => exact .cons (ft_dp f d _ a) (ft_dps f ds _ b)
end
mutual
/-- no list in it -/
def noL : PyData → Bool
  | .none | .bool _ | .int _ | .str _ => true
  | .list _ | .dict _ => false
  | .tuple xs => noLs xs
def noLs : List PyData → Bool
  | [] => true
  | x :: xs => noL x && noLs xs
end
/-- a list that H tracks is changed: what holds no list stays -/
theorem updl_t {H : Hp} {l a : Addr} {ys xs : List V} {o : HO} (hl : H l = some (.lst ys)) (h : H a = some (.tup xs)) : upd H l o a = some (.tup xs) := by
  rw [upd_ne (ne_of h hl (by intro z; cases z))]
  exact h
mutual
theorem updl_dp {H : Hp} {l : Addr} {ys : List V} {o : HO} (hl : H l = some (.lst ys)) : ∀ (d : PyData) (v : V), noL d = true → Dq H v d → Dq (upd H l o) v d
  | .none, _, _, h => by cases h; exact .non
  | .bool _, _, _, h => by cases h; exact .bl _
  | .int _, _, _, h => by cases h; exact .int _
  | .str _, _, _, h => by cases h; exact .str _
  | .list ds, _, n, _ => by simp [noL] at n
  | .tuple ds, _, n, h => by
    cases h with
    | tup a b => exact .tup (updl_t hl a) (updl_dps hl ds _ (by simpa [noL] using n) b)
  | .dict _, _, _, h => by cases h
theorem updl_dps {H : Hp} {l : Addr} {ys : List V} {o : HO} (hl : H l = some (.lst ys)) : ∀ (ds : List PyData) (vs : List V), noLs ds = true → DqAll H vs ds → DqAll (upd H l o) vs ds
  | [], _, _, h => by cases h; exact .nil
  | d :: ds, _, n, h => by
    have n' : noL d = true ∧ noLs ds = true := by simpa [noLs] using n
    cases h with
    | cons a b => exact .cons (updl_dp hl d _ n'.1 a) (updl_dps hl ds _ n'.2 b)
end
/-! ## data and objects -/
/-- what a name holds: data, or an object told apart -/
inductive Dx where
  | d (x : PyData)
  | o (v : V)
def DxR (H : Hp) (v : V) : Dx → Prop
  | .d x => Dq H v x
  | .o u => v = u
theorem ft_dx {H H' : Hp} (f : Ft H H') {v : V} : ∀ {x : Dx}, DxR H v x → DxR H' v x
  | .d x, h => ft_dp f x v h
  | .o _, h => h
def noLx : Dx → Bool
  | .d x => noL x
  | .o _ => true
theorem updl_dx {H : Hp} {l : Addr} {ys : List V} {o : HO} (hl : H l = some (.lst ys)) {v : V} : ∀ {x : Dx}, noLx x = true → DxR H v x → DxR (upd H l o) v x
  | .d x, n, h => updl_dp hl x v n h
  | .o _, _, h => h
inductive DxAll (H : Hp) : List V → List Dx → Prop
  | nil : DxAll H [] []
  | cons {v : V} {vs : List V} {x : Dx} {xs : List Dx} : DxR H v x → DxAll H vs xs → DxAll H (v :: vs) (x :: xs)
theorem ft_dxs {H H' : Hp} (f : Ft H H') {vs : List V} {xs : List Dx} (h : DxAll H vs xs) : DxAll H' vs xs := by
  induction h with
  | nil => exact .nil
  | cons a _ ih => exact .cons (ft_dx f a) ih
theorem DxAll.len {H : Hp} {vs : List V} {xs : List Dx} (h : DxAll H vs xs) : vs.length = xs.length := by
  induction h with
  | nil => rfl
  | cons _ _ ih => rw [List.length_cons, List.length_cons, ih]
theorem DxAll.data {H : Hp} : ∀ {vs : List V} {ds : List PyData}, DxAll H vs (ds.map .d) → DqAll H vs ds
  | _, [], h => by cases h; exact .nil
  | _, _ :: _, h => by
    cases h with
    | cons a b => exact .cons a (DxAll.data b)
theorem DxAll.ofData {H : Hp} : ∀ {vs : List V} {ds : List PyData}, DqAll H vs ds → DxAll H vs (ds.map .d)
  | _, [], h => by cases h; exact .nil
  | _, _ :: _, h => by
    cases h with
    | cons a b => exact .cons a (DxAll.ofData b)
theorem DqAll.len {H : Hp} : ∀ {vs : List V} {ds : List PyData}, DqAll H vs ds → vs.length = ds.length
  | _, [], h => by cases h; rfl
  | _, _ :: _, h => by
    cases h with
    | cons a b => rw [List.length_cons, List.length_cons, DqAll.len b]
theorem DqAll.get {H : Hp} : ∀ {vs : List V} {ds : List PyData} {i : Nat} {d : PyData}, DqAll H vs ds → ds[i]? = some d → ∃ v, vs[i]? = some v ∧ Dq H v d
  | _, [], _, _, _, e => by simp at e
  | _, _ :: _, 0, _, h, e => by
    cases h with
    | cons a b =>
      simp at e
      subst e
      exact ⟨_, rfl, a⟩
  | _, _ :: _, i + 1, _, h, e => by
    cases h with
    | cons a b =>
      obtain ⟨v, h1, h2⟩ := DqAll.get (i := i) b (by simpa using e)
      exact ⟨v, by simpa using h1, h2⟩
theorem DqAll.getV {H : Hp} {vs : List V} {ds : List PyData} {i : Nat} {v : V} (h : DqAll H vs ds) (e : vs[i]? = some v) : ∃ d, ds[i]? = some d ∧ Dq H v d := by
  have hi : i < vs.length := (List.getElem?_eq_some_iff.mp e).1
  have hj : i < ds.length := by rw [← h.len]; exact hi
  obtain ⟨w, h1, h2⟩ := h.get (List.getElem?_eq_getElem hj)
  rw [e] at h1
  cases h1
  exact ⟨_, List.getElem?_eq_getElem hj, h2⟩
theorem DqAll.append {H : Hp} : ∀ {vs ws : List V} {ds es : List PyData}, DqAll H vs ds → DqAll H ws es → DqAll H (vs ++ ws) (ds ++ es)
  | _, _, [], _, h, g => by cases h; exact g
  | _, _, _ :: _, _, h, g => by
    cases h with
    | cons a b => exact .cons a (DqAll.append b g)
theorem DqAll.take {H : Hp} : ∀ (n : Nat) {vs : List V} {ds : List PyData}, DqAll H vs ds → DqAll H (vs.take n) (ds.take n)
  | 0, _, _, _ => by simp; exact .nil
  | n + 1, _, [], h => by cases h; simp; exact .nil
  | n + 1, _, _ :: _, h => by
    cases h with
    | cons a b => exact .cons a (DqAll.take n b)
theorem DqAll.drop {H : Hp} : ∀ (n : Nat) {vs : List V} {ds : List PyData}, DqAll H vs ds → DqAll H (vs.drop n) (ds.drop n)
  | 0, _, _, h => by simpa using h
  | n + 1, _, [], h => by cases h; simp; exact .nil
  | n + 1, _, _ :: _, h => by
    cases h with
    | cons a b => exact DqAll.drop n b
theorem DqAll.ints {H : Hp} : ∀ {ns : List Int} {vs : List V}, DqAll H vs (ns.map .int) → vs = ns.map .int
  | [], _, h => by cases h; rfl
  | _ :: _, _, h => by
    cases h with
    | cons a b =>
      cases a
      rw [DqAll.ints b]
      rfl
theorem DqAll.bls {H : Hp} : ∀ {ns : List Bool} {vs : List V}, DqAll H vs (ns.map .bool) → vs = ns.map .bl
  | [], _, h => by cases h; rfl
  | _ :: _, _, h => by
    cases h with
    | cons a b =>
      cases a
      rw [DqAll.bls b]
      rfl
theorem DqAll.ofInts {H : Hp} : ∀ (ns : List Int), DqAll H (ns.map .int) (ns.map .int)
  | [] => .nil
  | n :: ns => .cons (.int n) (DqAll.ofInts ns)
/-! ## the names' places -/
/-- a thing that is looked at besides (a walked tuple) -/
structure Gh where
  p : Hp → Prop
  ft : ∀ H H', Ft H H' → p H → p H'
  nl : Bool
  ul : nl = true → ∀ H l ys o, H l = some (.lst ys) → p H → p (upd H l o)
abbrev Rho := List (Option Dx)
/-- Γ: what is looked at besides (a walked thing); ρ: what the names hold -/
structure Sr (Γ : List Gh) (H : Hp) (σ : L2.St) (ρ : Rho) : Prop where
  len : σ.length = ρ.length
  at_ : ∀ (i : Nat) (x : Dx), ρ[i]? = some (some x) → ∃ v, σ[i]? = some (some v) ∧ DxR H v x
  gh : ∀ g ∈ Γ, g.p H
section
variable {Γ : List Gh} {H H' : Hp} {σ : L2.St} {ρ : Rho}
theorem Sr.ft (s : Sr Γ H σ ρ) (f : Ft H H') : Sr Γ H' σ ρ := ⟨s.len, fun i x e => by
  obtain ⟨v, h1, h2⟩ := s.at_ i x e
  exact ⟨v, h1, ft_dx f h2⟩, fun g hg => g.ft _ _ f (s.gh g hg)⟩
theorem Sr.set {i : Nat} {v : V} {x : Dx} (s : Sr Γ H σ ρ) (h : DxR H v x) : Sr Γ H (σ.set i (some v)) (ρ.set i (some x)) := by
  refine ⟨by rw [List.length_set, List.length_set, s.len], fun j y e => ?_, s.gh⟩
  by_cases hj : i = j
  · subst hj
    by_cases hl : i < ρ.length
    · rw [List.getElem?_set_self hl] at e
      cases e
      exact ⟨v, List.getElem?_set_self (by rw [s.len]; exact hl), h⟩
    · rw [List.getElem?_eq_none (by rw [List.length_set]; omega)] at e
      cases e
  · rw [List.getElem?_set_ne hj] at e
    obtain ⟨w, h1, h2⟩ := s.at_ j y e
    exact ⟨w, by rw [List.getElem?_set_ne hj]; exact h1, h2⟩
theorem Sr.ghost {g : Gh} (s : Sr Γ H σ ρ) (h : g.p H) : Sr (g :: Γ) H σ ρ := ⟨s.len, s.at_, fun p hp => by
  rcases List.mem_cons.mp hp with rfl | hp
  · exact h
  · exact s.gh p hp⟩
theorem Sr.unghost {p : Gh} (s : Sr (p :: Γ) H σ ρ) : Sr Γ H σ ρ := ⟨s.len, s.at_, fun q hq => s.gh q (List.mem_cons_of_mem _ hq)⟩
def noLr (Γ : List Gh) (ρ : Rho) : Bool := (ρ.all fun x => match x with | some y => noLx y | none => true) && Γ.all fun p => p.nl
theorem Sr.updl {l : Addr} {ys : List V} {o : HO} (s : Sr Γ H σ ρ) (hl : H l = some (.lst ys)) (n : noLr Γ ρ = true) : Sr Γ (upd H l o) σ ρ := by
  unfold noLr at n
  rw [Bool.and_eq_true, List.all_eq_true, List.all_eq_true] at n
  refine ⟨s.len, fun i x e => ?_, fun g hg => g.ul (n.2 g hg) _ _ _ _ hl (s.gh g hg)⟩
  obtain ⟨v, h1, h2⟩ := s.at_ i x e
  exact ⟨v, h1, updl_dx hl (n.1 (some x) (List.mem_of_getElem? e)) h2⟩
theorem Sr.start {N : List Str} {vs : List V} {xs : List Dx} (h : DxAll H vs xs) : Sr [] H (L2.start N vs) (xs.map some ++ List.replicate (N.length - xs.length) none) := by
  unfold L2.start
  rw [h.len]
  refine ⟨by simp [h.len], fun i x e => ?_, fun p hp => by cases hp⟩
  by_cases hi : i < xs.length
  · rw [List.getElem?_append_left (by simpa using hi)] at e
    have key : ∀ {vs : List V} {xs : List Dx} {i : Nat}, DxAll H vs xs → (xs.map some)[i]? = some (some x) → ∃ v, (vs.map some)[i]? = some (some v) ∧ DxR H v x := by
      intro vs xs i h
      induction h generalizing i with
      | nil => intro e; simp at e
      | cons a _ ih =>
        intro e
        cases i with
        | zero =>
          simp at e
          subst e
          exact ⟨_, rfl, a⟩
        | succ i =>
          obtain ⟨v, h1, h2⟩ := ih (i := i) (by simpa using e)
          exact ⟨v, by simpa using h1, h2⟩
    obtain ⟨v, h1, h2⟩ := key h e
    exact ⟨v, by rw [List.getElem?_append_left (by simpa [h.len] using hi)]; exact h1, h2⟩
  · rw [List.getElem?_append_right (by simpa using hi), List.getElem?_replicate] at e
    split at e <;> cases e
end
/-! ## expressions -/
abbrev PX := Dx → Hp → Prop
section
variable (Γ : List Gh)
/-- te comes to some x, behind which R -/
def W (te : TE) (ρ : Rho) (H : Hp) (R : PX) : Prop := ∀ σ H', Same H H' → Sr Γ H' σ ρ → ∀ Q : VK, (∀ x v H1 H'', R x H1 → Same H1 H'' → Ft H' H'' → DxR H'' v x → Q v H'') → te σ H' Q
def WT (tt : TT) (ρ : Rho) (H : Hp) (R : Bool → Hp → Prop) : Prop := ∀ σ H', Same H H' → Sr Γ H' σ ρ → ∀ Q : Bool → Hp → Prop, (∀ b H1 H'', R b H1 → Same H1 H'' → Ft H' H'' → Q b H'') → tt σ H' Q
def WA (ta : TA) (ρ : Rho) (H : Hp) (R : List Dx → Hp → Prop) : Prop := ∀ σ H', Same H H' → Sr Γ H' σ ρ → ∀ Q : List V → Hp → Prop, (∀ xs vs H1 H'', R xs H1 → Same H1 H'' → Ft H' H'' → DxAll H'' vs xs → Q vs H'') → ta σ H' Q
/-- an operation on two values, on one, on several -/
def O2 (r : R2) (x y : Dx) (H : Hp) (R : PX) : Prop := ∀ v u H', Same H H' → DxR H' v x → DxR H' u y → ∀ Q : VK, (∀ z w H1 H'', R z H1 → Same H1 H'' → Ft H' H'' → DxR H'' w z → Q w H'') → r v u H' Q
def O1 (r : V → Hp → VK → Prop) (x : Dx) (H : Hp) (R : PX) : Prop := ∀ v H', Same H H' → DxR H' v x → ∀ Q : VK, (∀ z w H1 H'', R z H1 → Same H1 H'' → Ft H' H'' → DxR H'' w z → Q w H'') → r v H' Q
def OA (r : List V → Hp → VK → Prop) (xs : List Dx) (H : Hp) (R : PX) : Prop := ∀ vs H', Same H H' → DxAll H' vs xs → ∀ Q : VK, (∀ z w H1 H'', R z H1 → Same H1 H'' → Ft H' H'' → DxR H'' w z → Q w H'') → r vs H' Q
end
section
variable {Γ : List Gh} {ρ : Rho} {H : Hp} {R : PX} {ta tb te : TE} {x y : Dx} {v : V}
theorem W.imp {R' : PX} (h : W Γ te ρ H R) (k : ∀ x H1, R x H1 → R' x H1) : W Γ te ρ H R' := fun σ H' e s Q q => h σ H' e s Q fun x v H1 H'' r => q x v H1 H'' (k x H1 r)
theorem w_var {i : Nat} (h : ρ[i]? = some (some x)) (k : R x H) : W Γ (tVar i) ρ H R := fun σ H' e s Q q => by
  obtain ⟨v, h1, h2⟩ := s.at_ i x h
  exact ⟨v, h1, q x v H H' k e (Ft.refl _) h2⟩
theorem w_c (h : ∀ H', DxR H' v x) (k : R x H) : W Γ (tC v) ρ H R := fun σ H' e s Q q => q x v H H' k e (Ft.refl _) (h H')
theorem w_int {i : Int} (k : R (.d (.int i)) H) : W Γ (tC (.int i)) ρ H R := w_c (x := .d (.int i)) (fun _ => Dq.int i) k
theorem w_bl {b : Bool} (k : R (.d (.bool b)) H) : W Γ (tC (.bl b)) ρ H R := w_c (x := .d (.bool b)) (fun _ => Dq.bl b) k
theorem w_non (k : R (.d .none) H) : W Γ (tC .non) ρ H R := w_c (x := .d .none) (fun _ => Dq.non) k
theorem w_str {s : Str} (k : R (.d (.str s)) H) : W Γ (tC (.str s)) ρ H R := w_c (x := .d (.str s)) (fun _ => Dq.str s) k
theorem w_o (k : R (.o v) H) : W Γ (tC v) ρ H R := w_c (x := .o v) (fun _ => rfl) k
theorem w_op {r : R2} (h : W Γ ta ρ H fun x H1 => W Γ tb ρ H1 fun y H2 => O2 r x y H2 R) : W Γ (tOp r ta tb) ρ H R := fun σ H' e s Q q =>
  h σ H' e s _ fun x v H1 H1' hx e1 f1 d1 => hx σ H1' e1 (s.ft f1) _ fun y u H2 H2' hy e2 f2 d2 => hy v u H2' e2 (ft_dx f2 d1) d2 Q fun z w H3 H3' hz e3 f3 d3 => q z w H3 H3' hz e3 ((f1.trans f2).trans f3) d3
theorem w_un {r : V → Hp → VK → Prop} (h : W Γ ta ρ H fun x H1 => O1 r x H1 R) : W Γ (tUn r ta) ρ H R := fun σ H' e s Q q =>
  h σ H' e s _ fun x v H1 H1' hx e1 f1 d1 => hx v H1' e1 d1 Q fun z w H3 H3' hz e3 f3 d3 => q z w H3 H3' hz e3 (f1.trans f3) d3
theorem wa_nil {R : List Dx → Hp → Prop} (k : R [] H) : WA Γ tNil ρ H R := fun σ H' e s Q q => q [] [] H H' k e (Ft.refl _) .nil
theorem wa_cons {ta : TE} {tr : TA} {R : List Dx → Hp → Prop} (h : W Γ ta ρ H fun x H1 => WA Γ tr ρ H1 fun xs H2 => R (x :: xs) H2) : WA Γ (tCons ta tr) ρ H R := fun σ H' e s Q q =>
  h σ H' e s _ fun x v H1 H1' hx e1 f1 d1 => hx σ H1' e1 (s.ft f1) _ fun xs vs H2 H2' hy e2 f2 d2 => q (x :: xs) (v :: vs) H2 H2' hy e2 (f1.trans f2) (.cons (ft_dx f2 d1) d2)
theorem w_cb {r : List V → Hp → VK → Prop} {ta : TA} (h : WA Γ ta ρ H fun xs H1 => OA r xs H1 R) : W Γ (tCB r ta) ρ H R := fun σ H' e s Q q =>
  h σ H' e s _ fun xs vs H1 H1' hx e1 f1 d1 => hx vs H1' e1 d1 Q fun z w H3 H3' hz e3 f3 d3 => q z w H3 H3' hz e3 (f1.trans f3) d3
/-- a new tuple, a new list, of data -/
theorem w_tup {ta : TA} (h : WA Γ ta ρ H fun xs H1 => ∃ ds : List PyData, xs = ds.map .d ∧ ds.length ≤ 100000 ∧ R (.d (.tuple ds)) H1) : W Γ (tTup ta) ρ H R := fun σ H' e s Q q =>
  h σ H' e s _ fun xs vs H1 H1' hx e1 f1 d1 => by
    obtain ⟨ds, rfl, hl, k⟩ := hx
    have dd := DxAll.data d1
    refine ⟨by rw [dd.len]; exact Nat.le_trans hl (by decide), fun p hp => ?_⟩
    have sm : Same H1' (upd H1' p (.tup vs)) := Same.new hp
    exact q _ _ H1 _ k (e1.trans sm) (f1.trans sm.ftq) (.tup upd_same (ft_dps sm.ftq _ _ dd))
theorem w_lst {ta : TA} (h : WA Γ ta ρ H fun xs H1 => ∃ ds : List PyData, xs = ds.map .d ∧ ds.length ≤ 100000 ∧ R (.d (.list ds)) H1) : W Γ (tLst ta) ρ H R := fun σ H' e s Q q =>
  h σ H' e s _ fun xs vs H1 H1' hx e1 f1 d1 => by
    obtain ⟨ds, rfl, hl, k⟩ := hx
    have dd := DxAll.data d1
    refine ⟨by rw [dd.len]; exact Nat.le_trans hl (by decide), fun p hp => ?_⟩
    have sm : Same H1' (upd H1' p (.lst vs)) := Same.new hp
    exact q _ _ H1 _ k (e1.trans sm) (f1.trans sm.ftq) (.lst upd_same (ft_dps sm.ftq _ _ dd))
/-- a new list told apart -/
theorem w_lstO {ta : TA} (h : WA Γ ta ρ H fun xs H1 => xs.length ≤ 100000 ∧ ∀ p vs H2, Same H1 H2 → H2 p = some (.lst vs) → DxAll H2 vs xs → H1 p = none → R (.o (.ref p)) H2) : W Γ (tLst ta) ρ H R := fun σ H' e s Q q =>
  h σ H' e s _ fun xs vs H1 H1' hx e1 f1 d1 => by
    obtain ⟨hl, k⟩ := hx
    refine ⟨by rw [d1.len]; exact Nat.le_trans hl (by decide), fun p hp => ?_⟩
    have sm : Same H1' (upd H1' p (.lst vs)) := Same.new hp
    exact q _ _ _ _ (k p vs _ (e1.trans sm) upd_same (ft_dxs sm.ftq d1) (e1.free hp)) (Same.refl _) (f1.trans sm.ftq) rfl
/-! tests -/
theorem WT.imp {tt : TT} {R R' : Bool → Hp → Prop} (h : WT Γ tt ρ H R) (k : ∀ x H1, R x H1 → R' x H1) : WT Γ tt ρ H R' := fun σ H' e s Q q => h σ H' e s Q fun x H1 H'' r => q x H1 H'' (k x H1 r)
theorem wt_test {R : Bool → Hp → Prop} (h : W Γ te ρ H fun x H1 => ∃ b, x = .d (.bool b) ∧ R b H1) : WT Γ (tTest te) ρ H R := fun σ H' e s Q q =>
  h σ H' e s _ fun x v H1 H1' hx e1 f1 d1 => by
    obtain ⟨b, rfl, k⟩ := hx
    cases d1
    exact ⟨b, rfl, q b H1 H1' k e1 f1⟩
theorem wt_B {R : Bool → Hp → Prop} (h : W Γ te ρ H fun x H1 => ∃ b, x = .d (.bool b) ∧ R b H1) : WT Γ (tB te) ρ H R := fun σ H' e s Q q =>
  h σ H' e s _ fun x v H1 H1' hx e1 f1 d1 => by
    obtain ⟨b, rfl, k⟩ := hx
    cases d1
    exact ⟨b, rfl, q b H1 H1' k e1 f1⟩
theorem wt_and {t u : TT} {R : Bool → Hp → Prop} (h : WT Γ t ρ H fun b H1 => (b = true → WT Γ u ρ H1 R) ∧ (b = false → R false H1)) : WT Γ (tAnd t u) ρ H R := fun σ H' e s Q q =>
  h σ H' e s _ fun b H1 H1' hb e1 f1 => by
    cases b with
    | true => exact iteT (hb.1 rfl σ H1' e1 (s.ft f1) Q fun c H2 H2' k e2 f2 => q c H2 H2' k e2 (f1.trans f2))
    | false => exact iteF (q false H1 H1' (hb.2 rfl) e1 f1)
theorem wt_or {t u : TT} {R : Bool → Hp → Prop} (h : WT Γ t ρ H fun b H1 => (b = false → WT Γ u ρ H1 R) ∧ (b = true → R true H1)) : WT Γ (tOr t u) ρ H R := fun σ H' e s Q q =>
  h σ H' e s _ fun b H1 H1' hb e1 f1 => by
    cases b with
    | false => exact iteF (hb.1 rfl σ H1' e1 (s.ft f1) Q fun c H2 H2' k e2 f2 => q c H2 H2' k e2 (f1.trans f2))
    | true => exact iteT (q true H1 H1' (hb.2 rfl) e1 f1)
theorem wt_not {t : TT} {R : Bool → Hp → Prop} (h : WT Γ t ρ H fun b H1 => R (!b) H1) : WT Γ (tNot t) ρ H R := fun σ H' e s Q q => h σ H' e s _ fun b H1 H1' k e1 f1 => q (!b) H1 H1' k e1 f1
theorem w_andV (h : W Γ ta ρ H fun x H1 => ∃ b, x = .d (.bool b) ∧ (b = true → W Γ tb ρ H1 R) ∧ (b = false → R (.d (.bool false)) H1)) : W Γ (tAndV ta tb) ρ H R := fun σ H' e s Q q =>
  h σ H' e s _ fun x v H1 H1' hx e1 f1 d1 => by
    obtain ⟨b, rfl, k1, k2⟩ := hx
    cases d1
    refine ⟨b, rfl, ?_⟩
    cases b with
    | true => exact iteT (k1 rfl σ H1' e1 (s.ft f1) Q fun z w H2 H2' k e2 f2 d2 => q z w H2 H2' k e2 (f1.trans f2) d2)
    | false => exact iteF (q _ _ H1 H1' (k2 rfl) e1 f1 (.bl false))
theorem w_orV (h : W Γ ta ρ H fun x H1 => ∃ b, x = .d (.bool b) ∧ (b = false → W Γ tb ρ H1 R) ∧ (b = true → R (.d (.bool true)) H1)) : W Γ (tOrV ta tb) ρ H R := fun σ H' e s Q q =>
  h σ H' e s _ fun x v H1 H1' hx e1 f1 d1 => by
    obtain ⟨b, rfl, k1, k2⟩ := hx
    cases d1
    refine ⟨b, rfl, ?_⟩
    cases b with
    | false => exact iteF (k1 rfl σ H1' e1 (s.ft f1) Q fun z w H2 H2' k e2 f2 d2 => q z w H2 H2' k e2 (f1.trans f2) d2)
    | true => exact iteT (q _ _ H1 H1' (k2 rfl) e1 f1 (.bl true))
theorem w_notV (h : W Γ ta ρ H fun x H1 => ∃ b, x = .d (.bool b) ∧ R (.d (.bool (!b))) H1) : W Γ (tNotV ta) ρ H R := fun σ H' e s Q q =>
  h σ H' e s _ fun x v H1 H1' hx e1 f1 d1 => by
    obtain ⟨b, rfl, k⟩ := hx
    cases d1
    exact ⟨b, rfl, q _ _ H1 H1' k e1 f1 (.bl _)⟩
theorem w_if {t : TT} (h : WT Γ t ρ H fun b H1 => (b = true → W Γ ta ρ H1 R) ∧ (b = false → W Γ tb ρ H1 R)) : W Γ (tIf t ta tb) ρ H R := fun σ H' e s Q q =>
  h σ H' e s _ fun b H1 H1' hb e1 f1 => by
    cases b with
    | true => exact iteT (hb.1 rfl σ H1' e1 (s.ft f1) Q fun z w H2 H2' k e2 f2 d2 => q z w H2 H2' k e2 (f1.trans f2) d2)
    | false => exact iteF (hb.2 rfl σ H1' e1 (s.ft f1) Q fun z w H2 H2' k e2 f2 d2 => q z w H2 H2' k e2 (f1.trans f2) d2)
theorem w_chain {r r' : R2} {tc : TE} (h : W Γ ta ρ H fun x H1 => W Γ tb ρ H1 fun y H2 => O2 r x y H2 fun z H3 => ∃ b, z = .d (.bool b) ∧ (b = true → W Γ tc ρ H3 fun c H4 => O2 r' y c H4 R) ∧ (b = false → R (.d (.bool false)) H3)) :
    W Γ (tChain r r' ta tb tc) ρ H R := fun σ H' e s Q q =>
  h σ H' e s _ fun x v H1 H1' hx e1 f1 d1 => hx σ H1' e1 (s.ft f1) _ fun y u H2 H2' hy e2 f2 d2 => hy v u H2' e2 (ft_dx f2 d1) d2 _ fun z w H3 H3' hz e3 f3 d3 => by
    obtain ⟨b, rfl, k1, k2⟩ := hz
    cases d3
    refine ⟨b, rfl, ?_⟩
    cases b with
    | true => exact iteT (k1 rfl σ H3' e3 (((s.ft f1).ft f2).ft f3) _ fun c cw H4 H4' hc e4 f4 d4 => hc u cw H4' e4 (ft_dx f4 (ft_dx f3 d2)) d4 Q fun z w H5 H5' k e5 f5 d5 => q z w H5 H5' k e5 ((((f1.trans f2).trans f3).trans f4).trans f5) d5)
    | false => exact iteF (q _ _ H3 H3' (k2 rfl) e3 ((f1.trans f2).trans f3) (.bl false))
end
end K2

set_option Elab.async false
set_option linter.all false
set_option maxRecDepth 100000
set_option maxHeartbeats 1000000
namespace K2
open PySem L2
/-! ## statements -/
structure EX where
  nx : Rho → Hp → Prop
  rt : PX
  bk : Rho → Hp → Prop := fun _ _ => False
  ct : Rho → Hp → Prop := fun _ _ => False
structure Le (Γ : List Gh) (E : EX) (D : Ends) : Prop where
  nx : ∀ ρ H1 σ H, E.nx ρ H1 → Same H1 H → Sr Γ H σ ρ → D.nx σ H
  rt : ∀ x v H1 H, E.rt x H1 → Same H1 H → DxR H v x → D.rt v H
  bk : ∀ ρ H1 σ H, E.bk ρ H1 → Same H1 H → Sr Γ H σ ρ → D.bk σ H
  ct : ∀ ρ H1 σ H, E.ct ρ H1 → Same H1 H → Sr Γ H σ ρ → D.ct σ H
def Go (Γ : List Gh) (t : TS) (E : EX) (ρ : Rho) (H : Hp) : Prop := ∀ D, Le Γ E D → ∀ σ H', Same H H' → Sr Γ H' σ ρ → t D σ H'
/-- a target gets x -/
def WG (Γ : List Gh) (g : TG) (x : Dx) (ρ : Rho) (H : Hp) (R : Rho → Hp → Prop) : Prop := ∀ v σ H', Same H H' → Sr Γ H' σ ρ → DxR H' v x → ∀ Q : L2.St → Hp → Prop, (∀ ρ1 H1 σ1 H'', R ρ1 H1 → Same H1 H'' → Ft H' H'' → Sr Γ H'' σ1 ρ1 → Q σ1 H'') → g v σ H' Q
def WGs (Γ : List Gh) (g : TGs) (xs : List Dx) (ρ : Rho) (H : Hp) (R : Rho → Hp → Prop) : Prop := ∀ vs σ H', Same H H' → Sr Γ H' σ ρ → DxAll H' vs xs → ∀ Q : L2.St → Hp → Prop, (∀ ρ1 H1 σ1 H'', R ρ1 H1 → Same H1 H'' → Ft H' H'' → Sr Γ H'' σ1 ρ1 → Q σ1 H'') → g vs σ H' Q
section
variable {Γ : List Gh} {ρ : Rho} {H : Hp} {E : EX} {t u : TS} {te ta : TE} {x : Dx}
theorem go_seq (h : Go Γ t { E with nx := fun ρ1 H1 => Go Γ u E ρ1 H1 } ρ H) : Go Γ (tSeq t u) E ρ H := fun D le σ H' e s =>
  h { D with nx := u D } ⟨fun ρ1 H1 σ1 H2 g e s => g D le σ1 H2 e s, le.rt, le.bk, le.ct⟩ σ H' e s
theorem wg_name {i : Nat} {R : Rho → Hp → Prop} (k : R (ρ.set i (some x)) H) : WG Γ (gName i) x ρ H R := fun v σ H' e s d Q q => q _ H _ H' k e (Ft.refl _) (s.set d)
theorem wgs_nil {R : Rho → Hp → Prop} (k : R ρ H) : WGs Γ gNil [] ρ H R := fun vs σ H' e s d Q q => by
  cases d
  exact ⟨rfl, q _ H _ H' k e (Ft.refl _) s⟩
theorem wgs_cons {g : TG} {gs : TGs} {xs : List Dx} {R : Rho → Hp → Prop} (h : WG Γ g x ρ H fun ρ1 H1 => WGs Γ gs xs ρ1 H1 R) : WGs Γ (gCons g gs) (x :: xs) ρ H R := fun vs σ H' e s d Q q => by
  cases d with
  | cons d1 d2 => exact ⟨_, _, rfl, h _ σ H' e s d1 _ fun ρ1 H1 σ1 H1' k e1 f1 s1 => k _ σ1 H1' e1 s1 (ft_dxs f1 d2) Q fun ρ2 H2 σ2 H2' k2 e2 f2 s2 => q ρ2 H2 σ2 H2' k2 e2 (f1.trans f2) s2⟩
theorem wg_tup {K : PySem.W.Frag} {n : Nat} {gs : TGs} {ds : List PyData} {R : Rho → Hp → Prop} (hn : ds.length = n) (h : WGs Γ gs (ds.map .d) ρ H R) : WG Γ (gTup K n gs) (.d (.tuple ds)) ρ H R := fun v σ H' e s d Q q => by
  cases d with
  | tup ha hd => exact ⟨_, _, rfl, SqT.of ha, by rw [hd.len]; exact hn, h _ σ H' e s (DxAll.ofData hd) Q q⟩
theorem go_asg {g : TG} (h : W Γ te ρ H fun x H1 => WG Γ g x ρ H1 E.nx) : Go Γ (tAsg te g) E ρ H := fun D le σ H' e s =>
  h σ H' e s _ fun x v H1 H'' k e1 f1 d1 => k v σ H'' e1 (s.ft f1) d1 _ fun ρ2 H2 σ2 H2' k2 e2 f2 s2 => le.nx ρ2 H2 σ2 H2' k2 e2 s2
theorem go_set {i : Nat} (h : W Γ te ρ H fun x H1 => E.nx (ρ.set i (some x)) H1) : Go Γ (tAsg te (gName i)) E ρ H := go_asg (h.imp fun _ _ k => wg_name k)
theorem go_par {i j : Nat} {ta : TA} (h : WA Γ ta ρ H fun xs H1 => ∃ x y, xs = [x, y] ∧ E.nx ((ρ.set i (some x)).set j (some y)) H1) : Go Γ (tPar i j ta) E ρ H := fun D le σ H' e s =>
  h σ H' e s _ fun xs vs H1 H'' k e1 f1 d1 => by
    obtain ⟨x, y, rfl, k⟩ := k
    cases d1 with
    | cons a b =>
      cases b with
      | cons b c =>
        cases c
        exact ⟨_, _, rfl, le.nx _ H1 _ H'' k e1 (((s.ft f1).set a).set b)⟩
theorem go_ret (h : W Γ te ρ H E.rt) : Go Γ (tRet te) E ρ H := fun D le σ H' e s => h σ H' e s _ fun x v H1 H'' k e1 f1 d1 => le.rt x v H1 H'' k e1 d1
theorem go_retN (h : E.rt (.d .none) H) : Go Γ tRetN E ρ H := fun D le σ H' e s => le.rt _ _ H H' h e Dq.non
theorem go_drop (h : W Γ te ρ H fun _ H1 => E.nx ρ H1) : Go Γ (tDrop te) E ρ H := fun D le σ H' e s => h σ H' e s _ fun x v H1 H'' k e1 f1 d1 => le.nx ρ H1 σ H'' k e1 (s.ft f1)
theorem go_next (h : E.nx ρ H) : Go Γ tNext E ρ H := fun D le σ H' e s => le.nx ρ H σ H' h e s
theorem go_if {c : TT} (h : WT Γ c ρ H fun b H1 => (b = true → Go Γ t E ρ H1) ∧ (b = false → Go Γ u E ρ H1)) : Go Γ (tIfS c t u) E ρ H := fun D le σ H' e s =>
  h σ H' e s _ fun b H1 H'' k e1 f1 => by
    cases b with
    | true => exact iteT (k.1 rfl D le σ H'' e1 (s.ft f1))
    | false => exact iteF (k.2 rfl D le σ H'' e1 (s.ft f1))
theorem go_never (h : False) : Go Γ tNever E ρ H := h.elim
theorem Go.imp {E' : EX} (h : Go Γ t E' ρ H) (n : ∀ ρ H, E'.nx ρ H → E.nx ρ H) (r : ∀ x H, E'.rt x H → E.rt x H) (b : ∀ ρ H, E'.bk ρ H → E.bk ρ H) (c : ∀ ρ H, E'.ct ρ H → E.ct ρ H) : Go Γ t E ρ H := fun D le σ H' e s =>
  h D ⟨fun ρ1 H1 σ H k => le.nx ρ1 H1 σ H (n _ _ k), fun x v H1 H k => le.rt x v H1 H (r _ _ k), fun ρ1 H1 σ H k => le.bk ρ1 H1 σ H (b _ _ k), fun ρ1 H1 σ H k => le.ct ρ1 H1 σ H (c _ _ k)⟩ σ H' e s
/-- a local list that is told apart is written: what else is named holds no list -/
theorem go_mut {l : Addr} {ys : List V} {o : HO} {P : Prop} (hl : H l = some (.lst ys)) (n : noLr Γ ρ = true) (k : E.nx ρ (upd H l o)) : ∀ D, Le Γ E D → ∀ σ H', Same H H' → Sr Γ H' σ ρ → D.nx σ (upd H' l o) := fun D le σ H' e s =>
  le.nx ρ (upd H l o) σ (upd H' l o) k (fun b u q => by
    by_cases hb : b = l
    · subst hb
      rw [upd_same] at q ⊢
      exact q
    · rw [upd_ne hb] at q ⊢
      exact e b u q) (s.updl (e l _ hl) n)
/-! ## loops -/
/-- the walked tuple -/
def ghT (a : Addr) (xs : List V) (ds : List PyData) : Gh where
  p := fun H => H a = some (.tup xs) ∧ DqAll H xs ds
  ft := fun H H' f h => ⟨f.sq _ _ h.1 rfl, ft_dps f _ _ h.2⟩
  nl := noLs ds
  ul := fun n H l ys o hl h => ⟨updl_t hl h.1, updl_dps hl _ _ n h.2⟩
theorem go_forT {K : PySem.W.Frag} {g : TG} (h : W Γ te ρ H fun x H1 => ∃ ds, x = .d (.tuple ds) ∧ ∃ J : Nat → Rho → Hp → Prop, J 0 ρ H1 ∧
    (∀ Γ', (noLs ds = true → (Γ.all fun p => p.nl) = true → (Γ'.all fun p => p.nl) = true) → ∀ i d ρ2 H2, ds[i]? = some d → J i ρ2 H2 → WG Γ' g (.d d) ρ2 H2 fun ρ3 H3 => Go Γ' t { E with nx := J (i + 1), ct := J (i + 1), bk := E.nx } ρ3 H3) ∧ (∀ ρ2 H2, J ds.length ρ2 H2 → E.nx ρ2 H2)) :
    Go Γ (tFor (iTup K te) g t) E ρ H := fun D le σ H' e s =>
  h σ H' e s _ fun x v H1 H'' k e1 f1 d1 => by
    obtain ⟨ds, rfl, J, h0, hs, hd⟩ := k
    cases d1 with
    | @tup a xs _ ha hds =>
      refine ⟨a, rfl, ⟨xs, SqT.of ha⟩, for_tup (K := K) (a := a) (xs := xs) (fun i σ2 H2' => ∃ ρ2 H2, J i ρ2 H2 ∧ Same H2 H2' ∧ Sr (ghT a xs ds :: Γ) H2' σ2 ρ2) ⟨ρ, H1, h0, e1, (s.ft f1).ghost ⟨ha, hds⟩⟩ (fun i σ2 H2' _ ⟨ρ2, H2, _, _, s2⟩ => SqT.of (s2.gh _ List.mem_cons_self).1) ?_ ?_⟩
      · rintro i v σ2 H2' hi ⟨ρ2, H2, j, e2, s2⟩
        obtain ⟨d, hd1, hd2⟩ := (s2.gh _ List.mem_cons_self).2.getV hi
        refine hs (ghT a xs ds :: Γ) (fun n n2 => ?_) i d ρ2 H2 hd1 j v σ2 H2' e2 s2 hd2 _ fun ρ3 H3 σ3 H3' g e3 f3 s3 => ?_
        · simp only [List.all_cons, n2, Bool.and_true]
          exact n
        · exact g { D with nx := fun σ2 H2' => ∃ ρ2 H2, J (i + 1) ρ2 H2 ∧ Same H2 H2' ∧ Sr (ghT a xs ds :: Γ) H2' σ2 ρ2, ct := fun σ2 H2' => ∃ ρ2 H2, J (i + 1) ρ2 H2 ∧ Same H2 H2' ∧ Sr (ghT a xs ds :: Γ) H2' σ2 ρ2, bk := D.nx } ⟨fun ρ4 H4 σ4 H4' k4 e4 s4 => ⟨ρ4, H4, k4, e4, s4⟩, le.rt, fun ρ4 H4 σ4 H4' k4 e4 s4 => le.nx ρ4 H4 σ4 H4' k4 e4 s4.unghost, fun ρ4 H4 σ4 H4' k4 e4 s4 => ⟨ρ4, H4, k4, e4, s4⟩⟩ σ3 H3' e3 s3
      · rintro σ2 H2' ⟨ρ2, H2, j, e2, s2⟩
        rw [hds.len] at j
        exact le.nx ρ2 H2 σ2 H2' (hd ρ2 H2 j) e2 s2.unghost
theorem go_rng {lo : Int} {n : Nat} {g : TG} (J : Nat → Rho → Hp → Prop) (h0 : J 0 ρ H) (hs : ∀ i ρ2 H2, i < n → J i ρ2 H2 → WG Γ g (.d (.int (lo + (i : Nat)))) ρ2 H2 fun ρ3 H3 => Go Γ t { E with nx := J (i + 1), ct := J (i + 1), bk := E.nx } ρ3 H3)
    (hd : ∀ ρ2 H2, J n ρ2 H2 → E.nx ρ2 H2) : ∀ D, Le Γ E D → ∀ σ H', Same H H' → Sr Γ H' σ ρ →
    ∃ W : Nat → Nat → L2.St → Hp → Prop, (∃ m, W 0 m σ H') ∧ ∀ i m σ H, W i m σ H →
      ((Itr lo n).stop i H ∧ D.nx σ H) ∨ ((Itr lo n).go i H ∧ ∃ N : L2.St → Hp → Prop, (∀ σ' H', N σ' H' → ∃ m', m' < m ∧ W (i + 1) m' σ' H') ∧ ∀ x H', (Itr lo n).yld i H x H' → g x σ H' fun σ2 H2 => t { D with nx := N, ct := N, bk := D.nx } σ2 H2) := fun D le σ H' e s => by
  refine for_range (fun i σ2 H2' => ∃ ρ2 H2, J i ρ2 H2 ∧ Same H2 H2' ∧ Sr Γ H2' σ2 ρ2) ⟨ρ, H, h0, e, s⟩ ?_ ?_
  · rintro i σ2 H2' hi ⟨ρ2, H2, j, e2, s2⟩
    refine hs i ρ2 H2 hi j _ σ2 H2' e2 s2 (Dq.int _) _ fun ρ3 H3 σ3 H3' g e3 f3 s3 => ?_
    exact g { D with nx := fun σ2 H2' => ∃ ρ2 H2, J (i + 1) ρ2 H2 ∧ Same H2 H2' ∧ Sr Γ H2' σ2 ρ2, ct := fun σ2 H2' => ∃ ρ2 H2, J (i + 1) ρ2 H2 ∧ Same H2 H2' ∧ Sr Γ H2' σ2 ρ2, bk := D.nx } ⟨fun ρ4 H4 σ4 H4' k4 e4 s4 => ⟨ρ4, H4, k4, e4, s4⟩, le.rt, fun ρ4 H4 σ4 H4' k4 e4 s4 => le.nx ρ4 H4 σ4 H4' k4 e4 s4, fun ρ4 H4 σ4 H4' k4 e4 s4 => ⟨ρ4, H4, k4, e4, s4⟩⟩ σ3 H3' e3 s3
  · rintro σ2 H2' ⟨ρ2, H2, j, e2, s2⟩
    exact le.nx ρ2 H2 σ2 H2' (hd ρ2 H2 j) e2 s2
theorem go_forR1 {ta : TA} {g : TG} (h : WA Γ ta ρ H fun xs H1 => ∃ n : Int, xs = [.d (.int n)] ∧ (-(2 ^ 62) ≤ n ∧ n < 2 ^ 62) ∧ ∃ J : Nat → Rho → Hp → Prop, J 0 ρ H1 ∧
    (∀ i ρ2 H2, i < n.toNat → J i ρ2 H2 → WG Γ g (.d (.int (0 + (i : Nat)))) ρ2 H2 fun ρ3 H3 => Go Γ t { E with nx := J (i + 1), ct := J (i + 1), bk := E.nx } ρ3 H3) ∧ (∀ ρ2 H2, J n.toNat ρ2 H2 → E.nx ρ2 H2)) :
    Go Γ (tFor (iRng1 ta) g t) E ρ H := fun D le σ H' e s =>
  h σ H' e s _ fun xs vs H1 H'' k e1 f1 d1 => by
    obtain ⟨n, rfl, ⟨b1, b2⟩, J, h0, hs, hd⟩ := k
    cases d1 with
    | cons a b =>
      cases a
      cases b
      exact ⟨n, rfl, b1, b2, go_rng J h0 hs hd D le σ H'' e1 (s.ft f1)⟩
theorem go_forR2 {ta : TA} {g : TG} (h : WA Γ ta ρ H fun xs H1 => ∃ lo n : Int, xs = [.d (.int lo), .d (.int n)] ∧ (-(2 ^ 62) ≤ lo ∧ lo < 2 ^ 62 ∧ -(2 ^ 62) ≤ n ∧ n < 2 ^ 62) ∧ ∃ J : Nat → Rho → Hp → Prop, J 0 ρ H1 ∧
    (∀ i ρ2 H2, i < (n - lo).toNat → J i ρ2 H2 → WG Γ g (.d (.int (lo + (i : Nat)))) ρ2 H2 fun ρ3 H3 => Go Γ t { E with nx := J (i + 1), ct := J (i + 1), bk := E.nx } ρ3 H3) ∧ (∀ ρ2 H2, J (n - lo).toNat ρ2 H2 → E.nx ρ2 H2)) :
    Go Γ (tFor (iRng2 ta) g t) E ρ H := fun D le σ H' e s =>
  h σ H' e s _ fun xs vs H1 H'' k e1 f1 d1 => by
    obtain ⟨lo, n, rfl, hb, J, h0, hs, hd⟩ := k
    cases d1 with
    | cons a b =>
      cases a
      cases b with
      | cons b c =>
        cases b
        cases c
        exact ⟨lo, n, rfl, hb, go_rng J h0 hs hd D le σ H'' e1 (s.ft f1)⟩
end
/-! ## comprehensions -/
/-- a comprehension's target gets x, its own names wiped ahead of it -/
def TW (Γ : List Gh) (g : TG) (vs : List Nat) (x : Dx) (ρ : Rho) (H : Hp) (R : Rho → Hp → Prop) : Prop := ∀ v σ H', Same H H' → Sr Γ H' σ ρ → DxR H' v x → ∀ Q : L2.St → Hp → Prop,
  (∀ ρ1 H1 σ1 H'', R ρ1 H1 → Same H1 H'' → Ft H' H'' → Sr Γ H'' σ1 ρ1 → wipe σ1 vs = wipe σ vs → Q σ1 H'') → g v (wipe σ vs) H' Q
section
variable {Γ : List Gh} {ρ : Rho} {H : Hp} {R : PX} {te tl : TE} {tt : TT} {x y : Dx}
theorem tw1 {j : Nat} {R : Rho → Hp → Prop} (k : R (ρ.set j (some x)) H) : TW Γ (gName j) [j] x ρ H R := fun v σ H' e s d Q q => by
  have e1 : (σ.set j none).set j (some v) = σ.set j (some v) := List.set_set ..
  show Q ((σ.set j none).set j (some v)) H'
  rw [e1]
  refine q _ H _ H' k e (Ft.refl _) (s.set d) ?_
  show (σ.set j (some v)).set j none = σ.set j none
  exact List.set_set ..
theorem tw2 {K : PySem.W.Frag} {i j : Nat} {a b : PyData} {R : Rho → Hp → Prop} (hij : i ≠ j) (k : R ((ρ.set i (some (.d a))).set j (some (.d b))) H) : TW Γ (gTup K 2 (gCons (gName i) (gCons (gName j) gNil))) [i, j] (.d (.tuple [a, b])) ρ H R := fun v σ H' e s d Q q => by
  cases d with
  | tup ha hd =>
    cases hd with
    | cons d1 hd =>
      cases hd with
      | cons d2 hd =>
        cases hd
        refine ⟨_, _, rfl, SqT.of ha, rfl, _, _, rfl, _, _, rfl, rfl, ?_⟩
        rename_i v1 v2
        have e1 : (((σ.set j none).set i none).set i (some v1)).set j (some v2) = (σ.set i (some v1)).set j (some v2) := by
          rw [List.set_set, List.set_comm _ _ hij.symm, List.set_set]
        show Q ((((σ.set j none).set i none).set i (some v1)).set j (some v2)) H'
        rw [e1]
        refine q _ H _ H' k e (Ft.refl _) ((s.set (x := .d a) d1).set (x := .d b) d2) ?_
        show (((σ.set i (some v1)).set j (some v2)).set j none).set i none = (σ.set j none).set i none
        rw [List.set_set, List.set_comm _ _ hij, List.set_set]
theorem Ft.offnew {H1 H' H'' : Hp} {D : Addr} {o' : HO} (f : Ft H1 H') (n : H1 D = none) (g : Ft H' H'') : Ft H1 (upd H'' D o') := by
  refine ⟨fun b u e s => ?_, fun b e => f.fr b (g.fr b (upd_fr e))⟩
  rw [upd_ne (ne_of_none e n)]
  exact g.sq b u (f.sq b u e s) s
theorem Same.offnew {H H2 : Hp} {D : Addr} {o : HO} (s : Same H H2) (n : H D = none) : Same H (upd H2 D o) := fun b u e => by
  rw [upd_ne (ne_of_none e n)]
  exact s b u e
theorem Fr.offnew {M : List Addr} {H H2 : Hp} {D : Addr} {o : HO} (s : Fr M H H2) (n : H D = none) : Fr M H (upd H2 D o) := ⟨fun b u e z => by
  rw [upd_ne (ne_of_none e n)]
  exact s.kp b u e z, fun b e => s.fr b (upd_fr e)⟩
theorem same_upd {H H' : Hp} {D : Addr} {o : HO} (s : Same H H') : Same (upd H D o) (upd H' D o) := fun b u q => by
  by_cases hb : b = D
  · subst hb
    rw [upd_same] at q ⊢
    exact q
  · rw [upd_ne hb] at q ⊢
    exact s b u q
/-- a comprehension over any walk whose things are told by it; J: by the turn, what is made so far, the heap -/
theorem lc_any {Jt : It} {n : Nat} {G : Hp → Prop} {Y : Nat → Hp → V → Hp → Prop} (w : L2.Walk Jt n G Y) (gh : Gh) (it : Nat → PyData) (hG : ∀ H, gh.p H → G H) (hY : ∀ i Hc x Hc', i < n → gh.p Hc → Y i Hc x Hc' → Same Hc Hc' ∧ Dq Hc' x (it i))
    {g : TG} {vs : List Nat} (hn : n ≤ 50000) (J : Nat → List PyData → Hp → Prop) {H1 Ha : Hp} {σ : L2.St} (e1 : Same H1 Ha) (s : Sr Γ Ha σ ρ) (hgh : gh.p Ha) (h0 : J 0 [] H1) (hJ : ∀ i acc H2 D o, H1 D = none → J i acc H2 → J i acc (upd H2 D o))
    (hs : ∀ i acc H2, i < n → acc.length ≤ i → J i acc H2 → TW Γ g vs (.d (it i)) ρ H2 fun ρ3 H3 => WT Γ tt ρ3 H3 fun b H4 => (b = true → W Γ te ρ3 H4 fun y H5 => ∃ e, y = .d e ∧ noL e = true ∧ J (i + 1) (acc ++ [e]) H5) ∧ (b = false → J (i + 1) acc H4))
    {Q : VK} (hq : ∀ acc H2 H'' D, acc.length ≤ n → J n acc H2 → Same H2 H'' → Ft Ha H'' → Dq H'' (.ref D) (.list acc) → Q (.ref D) H'') : ∀ D, Ha D = none → ∃ W : Nat → Nat → Hp → Prop, (∃ m, W 0 m (upd Ha D (.lst []))) ∧ ∀ i m H, W i m H →
      (Jt.stop i H ∧ Q (.ref D) H) ∨ (Jt.go i H ∧ ∃ Nx : Hp → Prop, (∀ H', Nx H' → ∃ m', m' < m ∧ W (i + 1) m' H') ∧ ∀ x H', Jt.yld i H x H' → g x (wipe σ vs) H' fun σ2 H2 => wipe σ2 vs = wipe σ vs ∧ tt σ2 H2 fun b H3 =>
        if b = true then te σ2 H3 fun y H4 => ∃ acc, H4 D = some (.lst acc) ∧ acc.length < sizeLine ∧ Nx (upd H4 D (.lst (acc ++ [y]))) else Nx H3) := by
  intro D hD
  have hD1 : H1 D = none := e1.free hD
  refine lc_it w (fun i H' => ∃ acc B vs', acc.length ≤ i ∧ noLs acc = true ∧ J i acc B ∧ Same B H' ∧ Ft Ha H' ∧ H' D = some (.lst vs') ∧ DqAll H' vs' acc) ?_ ?_ ?_ ?_
  · exact ⟨[], H1, [], Nat.le_refl _, rfl, h0, e1.trans (Same.new hD), (Same.new hD).ftq, upd_same, .nil⟩
  · rintro i H' _ ⟨acc, B, vs', _, _, _, _, f, _⟩
    exact hG _ (gh.ft _ _ f hgh)
  · rintro i x Hc Hc' hi ⟨acc, B, vs', hl, hna, j, e2, f2, hd, hda⟩ y
    obtain ⟨sm, dq⟩ := hY i Hc x Hc' hi (gh.ft _ _ f2 hgh) y
    refine hs i acc B hi hl j x σ Hc' (e2.trans sm) ((s.ft f2).ft sm.ftq) dq _ fun ρ3 H3 σ3 H3' k3 e3 f3 s3 hw => ⟨hw, k3 σ3 H3' e3 s3 _ fun b H4 H4' k4 e4 f4 => ?_⟩
    have f4' := ((f2.trans sm.ftq).trans f3).trans f4
    have hd4 : H4' D = some (.lst vs') := f4.sq _ _ (f3.sq _ _ (sm _ _ hd) rfl) rfl
    have hda4 : DqAll H4' vs' acc := ft_dps f4 _ _ (ft_dps f3 _ _ (ft_dps sm.ftq _ _ hda))
    cases b with
    | false => exact iteF ⟨acc, H4, vs', Nat.le_succ_of_le hl, hna, k4.2 rfl, e4, f4', hd4, hda4⟩
    | true =>
      refine iteT (k4.1 rfl σ3 H4' e4 (s3.ft f4) _ fun z u H5 H5' k5 e5 f5 d5 => ?_)
      obtain ⟨e, rfl, ne, j5⟩ := k5
      have hd5 := f5.sq _ _ hd4 rfl
      refine ⟨vs', hd5, ?_, acc ++ [e], upd H5 D (.lst (vs' ++ [u])), vs' ++ [u], by rw [List.length_append]; exact Nat.succ_le_succ hl, ?_, hJ _ _ _ _ _ hD1 j5, same_upd e5, f4'.offnew hD f5, upd_same, ?_⟩
      · rw [hda4.len]
        exact Nat.lt_of_le_of_lt (Nat.le_trans hl (Nat.le_of_lt (Nat.lt_of_lt_of_le hi hn))) (by decide)
      · have key : ∀ l : List PyData, noLs l = true → noLs (l ++ [e]) = true := by
          intro l
          induction l with
          | nil => intro _; simp [noLs, ne]
          | cons a l ih =>
            intro h
            have h' : noL a = true ∧ noLs l = true := by simpa [noLs] using h
            simp [noLs, h'.1, ih h'.2]
        exact key acc hna
      · exact (updl_dps hd5 _ _ hna (ft_dps f5 _ _ hda4)).append (.cons (updl_dp hd5 _ _ ne d5) .nil)
  · rintro H' ⟨acc, B, vs', hl, _, j, e2, f2, hd, hda⟩
    exact hq acc B H' D hl j e2 f2 (.lst hd hda)
def ghL (a : Addr) (xs : List V) (ds : List PyData) : Gh where
  p := fun H => H a = some (.lst xs) ∧ DqAll H xs ds
  ft := fun H H' f h => ⟨f.sq _ _ h.1 rfl, ft_dps f _ _ h.2⟩
  nl := false
  ul := fun n => by cases n
def gh0 : Gh := ⟨fun _ => True, fun _ _ _ _ => trivial, true, fun _ _ _ _ _ _ _ => trivial⟩
def atD (ds : List PyData) (i : Nat) : PyData := ds.getD i .none
theorem atD_of {ds : List PyData} {i : Nat} {d : PyData} (h : ds[i]? = some d) : atD ds i = d := by
  unfold atD
  rw [List.getD_eq_getElem?_getD, h]
  rfl
/-- [e for x in t if c], t a tuple -/
theorem w_lcT {K : PySem.W.Frag} {g : TG} {vs : List Nat} (h : W Γ tl ρ H fun x H1 => ∃ ds, x = .d (.tuple ds) ∧ ds.length ≤ 50000 ∧ ∃ J : Nat → List PyData → Hp → Prop, J 0 [] H1 ∧ (∀ i acc H2 D o, H1 D = none → J i acc H2 → J i acc (upd H2 D o)) ∧
    (∀ i d acc H2, ds[i]? = some d → acc.length ≤ i → J i acc H2 → TW Γ g vs (.d d) ρ H2 fun ρ3 H3 => WT Γ tt ρ3 H3 fun b H4 => (b = true → W Γ te ρ3 H4 fun y H5 => ∃ e, y = .d e ∧ noL e = true ∧ J (i + 1) (acc ++ [e]) H5) ∧ (b = false → J (i + 1) acc H4)) ∧
    (∀ acc H2, acc.length ≤ ds.length → J ds.length acc H2 → R (.d (.list acc)) H2)) : W Γ (tLc (iTup K tl) g tt te vs) ρ H R := fun σ H' e s Q q =>
  h σ H' e s _ fun x v H1 H1' k e1 f1 d1 => by
    obtain ⟨ds, rfl, hl, J, h0, hJ, hs, hd⟩ := k
    cases d1 with
    | @tup a xs _ ha hds =>
      refine ⟨a, rfl, ⟨xs, SqT.of ha⟩, lc_any (walk_tup (K := K) (a := a) (xs := xs)) (ghT a xs ds) (atD ds) (fun H h => SqT.of h.1) (fun i Hc x Hc' hi p y => ?_) (by rw [hds.len]; exact hl) J e1 (s.ft f1) ⟨ha, hds⟩ h0 hJ (fun i acc H2 hi hla j => ?_) fun acc H2 H'' D hla j e2 f2 dq => ?_⟩
      · obtain ⟨rfl, y⟩ := y
        obtain ⟨d, h1, h2⟩ := p.2.getV y
        rw [atD_of h1]
        exact ⟨Same.refl _, h2⟩
      · have hi' : i < ds.length := by rw [← hds.len]; exact hi
        rw [atD_of (List.getElem?_eq_getElem hi')]
        exact hs i _ acc H2 (List.getElem?_eq_getElem hi') hla j
      · rw [hds.len] at j hla
        exact q _ _ H2 H'' (hd acc H2 hla j) e2 (f1.trans f2) dq
/-- [e for x in l if c], l a list -/
theorem w_lcL {K : PySem.W.Frag} {g : TG} {vs : List Nat} (h : W Γ tl ρ H fun x H1 => ∃ ds, x = .d (.list ds) ∧ ds.length ≤ 50000 ∧ ∃ J : Nat → List PyData → Hp → Prop, J 0 [] H1 ∧ (∀ i acc H2 D o, H1 D = none → J i acc H2 → J i acc (upd H2 D o)) ∧
    (∀ i d acc H2, ds[i]? = some d → acc.length ≤ i → J i acc H2 → TW Γ g vs (.d d) ρ H2 fun ρ3 H3 => WT Γ tt ρ3 H3 fun b H4 => (b = true → W Γ te ρ3 H4 fun y H5 => ∃ e, y = .d e ∧ noL e = true ∧ J (i + 1) (acc ++ [e]) H5) ∧ (b = false → J (i + 1) acc H4)) ∧
    (∀ acc H2, acc.length ≤ ds.length → J ds.length acc H2 → R (.d (.list acc)) H2)) : W Γ (tLc (iList K tl) g tt te vs) ρ H R := fun σ H' e s Q q =>
  h σ H' e s _ fun x v H1 H1' k e1 f1 d1 => by
    obtain ⟨ds, rfl, hl, J, h0, hJ, hs, hd⟩ := k
    cases d1 with
    | @lst a xs _ ha hds =>
      refine ⟨a, rfl, ⟨xs, SqL.of ha⟩, lc_any (walk_list (K := K) (a := a) (xs := xs)) (ghL a xs ds) (atD ds) (fun H h => SqL.of h.1) (fun i Hc x Hc' hi p y => ?_) (by rw [hds.len]; exact hl) J e1 (s.ft f1) ⟨ha, hds⟩ h0 hJ (fun i acc H2 hi hla j => ?_) fun acc H2 H'' D hla j e2 f2 dq => ?_⟩
      · obtain ⟨rfl, y⟩ := y
        obtain ⟨d, h1, h2⟩ := p.2.getV y
        rw [atD_of h1]
        exact ⟨Same.refl _, h2⟩
      · have hi' : i < ds.length := by rw [← hds.len]; exact hi
        rw [atD_of (List.getElem?_eq_getElem hi')]
        exact hs i _ acc H2 (List.getElem?_eq_getElem hi') hla j
      · rw [hds.len] at j hla
        exact q _ _ H2 H'' (hd acc H2 hla j) e2 (f1.trans f2) dq
/-- [e for x in range(n) if c] -/
theorem w_lcR {ta : TA} {g : TG} {vs : List Nat} (h : WA Γ ta ρ H fun xs H1 => ∃ n : Int, xs = [.d (.int n)] ∧ (-(2 ^ 62) ≤ n ∧ n ≤ 50000) ∧ ∃ J : Nat → List PyData → Hp → Prop, J 0 [] H1 ∧ (∀ i acc H2 D o, H1 D = none → J i acc H2 → J i acc (upd H2 D o)) ∧
    (∀ i acc H2, i < n.toNat → acc.length ≤ i → J i acc H2 → TW Γ g vs (.d (.int (0 + (i : Nat)))) ρ H2 fun ρ3 H3 => WT Γ tt ρ3 H3 fun b H4 => (b = true → W Γ te ρ3 H4 fun y H5 => ∃ e, y = .d e ∧ noL e = true ∧ J (i + 1) (acc ++ [e]) H5) ∧ (b = false → J (i + 1) acc H4)) ∧
    (∀ acc H2, acc.length ≤ n.toNat → J n.toNat acc H2 → R (.d (.list acc)) H2)) : W Γ (tLc (iRng1 ta) g tt te vs) ρ H R := fun σ H' e s Q q =>
  h σ H' e s _ fun xs vs' H1 H1' k e1 f1 d1 => by
    obtain ⟨n, rfl, ⟨b1, b2⟩, J, h0, hJ, hs, hd⟩ := k
    cases d1 with
    | cons a b =>
      cases a
      cases b
      refine ⟨n, rfl, b1, by omega, lc_any (walk_range (lo := 0) (n := n.toNat)) gh0 (fun i => .int (0 + (i : Nat))) (fun _ _ => trivial) (fun i Hc x Hc' hi p y => ?_) (by omega) J e1 (s.ft f1) trivial h0 hJ (fun i acc H2 hi hla j => hs i acc H2 hi hla j) fun acc H2 H'' D hla j e2 f2 dq => ?_⟩
      · obtain ⟨rfl, rfl⟩ := y
        exact ⟨Same.refl _, Dq.int _⟩
      · exact q _ _ H2 H'' (hd acc H2 hla j) e2 (f1.trans f2) dq
theorem wt_yes {R : Bool → Hp → Prop} (k : R true H) : WT Γ tYes ρ H R := fun σ H' e s Q q => q true H H' k e (Ft.refl _)
end
end K2

set_option Elab.async false
set_option linter.all false
set_option maxRecDepth 100000
set_option maxHeartbeats 1000000
namespace K2
open PySem L2
mutual
theorem Dq.dp {K : PySem.W.Frag} {H : Hp} : ∀ (d : PyData) (v : V), Dq H v d → Dp K H v d
  | .none, _, h => by cases h; exact .non
  | .bool _, _, h => by cases h; exact .bl _
  | .int _, _, h => by cases h; exact .int _
  | .str _, _, h => by cases h; exact .str _
  | .list ds, _, h => by
    cases h with
    | lst a b => exact .lst (SqL.of a) (DqAll.dp ds _ b)
  | .tuple ds, _, h => by
    cases h with
    | tup a b => exact .tup (SqT.of a) (DqAll.dp ds _ b)
  | .dict _, _, h => by cases h
theorem DqAll.dp {K : PySem.W.Frag} {H : Hp} : ∀ (ds : List PyData) (vs : List V), DqAll H vs ds → DpAll K H vs ds
  | [], _, h => by cases h; exact .nil
  | d :: ds, _, h => by
    cases h with
    | cons a b => exact .cons (Dq.dp d _ a) (DqAll.dp ds _ b)
end
section
variable {Γ : List Gh} {ρ : Rho} {H : Hp} {R : PX} {te ta tb : TE} {x y : Dx} {K : PySem.W.Frag}
/-! ## operators -/
theorem o2_ii {g : Int → Int → Int} {i j : Int} (k : R (.d (.int (g i j))) H) : O2 (rI0 fun i j => .int (g i j)) (.d (.int i)) (.d (.int j)) H R := fun v u H' e d1 d2 Q q => by
  cases d1
  cases d2
  exact ⟨i, j, rfl, rfl, q _ _ H H' k e (Ft.refl _) (Dq.int _)⟩
theorem o2_ib {g : Int → Int → Bool} {i j : Int} (k : R (.d (.bool (g i j))) H) : O2 (rI0 fun i j => .bl (g i j)) (.d (.int i)) (.d (.int j)) H R := fun v u H' e d1 d2 Q q => by
  cases d1
  cases d2
  exact ⟨i, j, rfl, rfl, q _ _ H H' k e (Ft.refl _) (Dq.bl _)⟩
theorem o2_iC {C : Int → Int → Prop} {g : Int → Int → Int} {i j : Int} (c : C i j) (k : R (.d (.int (g i j))) H) : O2 (rI C fun i j => .int (g i j)) (.d (.int i)) (.d (.int j)) H R := fun v u H' e d1 d2 Q q => by
  cases d1
  cases d2
  exact ⟨i, j, rfl, rfl, c, q _ _ H H' k e (Ft.refl _) (Dq.int _)⟩
theorem o1_i {g : Int → Int} {i : Int} (k : R (.d (.int (g i))) H) : O1 (rU fun i => .int (g i)) (.d (.int i)) H R := fun v H' e d1 Q q => by
  cases d1
  exact ⟨i, rfl, q _ _ H H' k e (Ft.refl _) (Dq.int _)⟩
theorem o2_eqD {d e : PyData} (sd : SeqAt.shaped d = true) (se : SeqAt.shaped e = true) (k : R (.d (.bool (PyData.eqv d e))) H) : O2 (rEqD K) (.d d) (.d e) H R := fun v u H' e1 d1 d2 Q q =>
  ⟨d, e, Dq.dp d v d1, Dq.dp e u d2, sd, se, q _ _ H H' k e1 (Ft.refl _) (Dq.bl _)⟩
theorem o2_neD {d e : PyData} (sd : SeqAt.shaped d = true) (se : SeqAt.shaped e = true) (k : R (.d (.bool (!PyData.eqv d e))) H) : O2 (rNeD K) (.d d) (.d e) H R := fun v u H' e1 d1 d2 Q q =>
  ⟨d, e, Dq.dp d v d1, Dq.dp e u d2, sd, se, q _ _ H H' k e1 (Ft.refl _) (Dq.bl _)⟩
theorem o2_catT {xs ys : List PyData} (hz : xs.length + ys.length ≤ 100000) (k : R (.d (.tuple (xs ++ ys))) H) : O2 (rCatA K) (.d (.tuple xs)) (.d (.tuple ys)) H R := fun v u H' e d1 d2 Q q => by
  cases d1 with
  | @tup a vs _ ha h1 =>
    cases d2 with
    | @tup b us _ hb h2 =>
      refine ⟨a, b, vs, us, rfl, rfl, SqT.of ha, SqT.of hb, by rw [h1.len, h2.len]; exact Nat.le_trans hz (by decide), fun z => ?_, fun _ z => ?_, fun _ _ p hp => ?_⟩
      · subst z
        cases h1
        exact q _ _ H H' k e (Ft.refl _) (.tup hb h2)
      · subst z
        cases h2
        refine q _ _ H H' k e (Ft.refl _) ?_
        rw [List.append_nil]
        exact .tup ha h1
      · have sm : Same H' (upd H' p (.tup (vs ++ us))) := Same.new hp
        exact q _ _ H _ k (e.trans sm) sm.ftq (.tup upd_same ((ft_dps sm.ftq _ _ h1).append (ft_dps sm.ftq _ _ h2)))
theorem o2_catL {xs ys : List PyData} (hz : xs.length + ys.length ≤ 100000) (k : R (.d (.list (xs ++ ys))) H) : O2 rCat (.d (.list xs)) (.d (.list ys)) H R := fun v u H' e d1 d2 Q q => by
  cases d1 with
  | @lst a vs _ ha h1 =>
    cases d2 with
    | @lst b us _ hb h2 =>
      refine ⟨a, b, vs, us, rfl, rfl, ha, hb, by rw [h1.len, h2.len]; exact Nat.le_trans hz (by decide), fun p hp => ?_⟩
      have sm : Same H' (upd H' p (.lst (vs ++ us))) := Same.new hp
      exact q _ _ H _ k (e.trans sm) sm.ftq (.lst upd_same ((ft_dps sm.ftq _ _ h1).append (ft_dps sm.ftq _ _ h2)))
theorem DqAll.rep {H : Hp} {vs : List V} {ds : List PyData} (h : DqAll H vs ds) : ∀ k : Nat, DqAll H (List.replicate k vs).flatten (List.replicate k ds).flatten
  | 0 => .nil
  | k + 1 => by
    rw [List.replicate_succ, List.replicate_succ, List.flatten_cons, List.flatten_cons]
    exact h.append (DqAll.rep h k)
theorem o2_repL {xs : List PyData} {i : Int} (h0 : 0 ≤ i) (h1 : i ≤ 1000) (hz : xs.length ≤ 1000) (k : R (.d (.list (List.replicate i.toNat xs).flatten)) H) : O2 rRep (.d (.list xs)) (.d (.int i)) H R := fun v u H' e d1 d2 Q q => by
  cases d2
  cases d1 with
  | @lst a vs _ ha h1' =>
    refine ⟨a, i, vs, rfl, rfl, ha, by omega, by omega, ?_, fun p hp => ?_⟩
    · rw [h1'.len]
      have a1 : xs.length * i.toNat ≤ 1000 * 1000 := Nat.mul_le_mul hz (by omega)
      exact Nat.le_trans a1 (by decide)
    · have sm : Same H' (upd H' p (.lst (List.replicate i.toNat vs).flatten)) := Same.new hp
      exact q _ _ H _ k (e.trans sm) sm.ftq (.lst upd_same ((ft_dps sm.ftq _ _ h1').rep _))
/-- an item -/
theorem DqAll.atI {H : Hp} {vs : List V} {ds : List PyData} {i : Int} {d : PyData} (h : DqAll H vs ds) (e : L2.atI ds i = some d) : ∃ v, L2.atI vs i = some v ∧ Dq H v d := by
  unfold L2.atI at e ⊢
  rw [h.len]
  obtain ⟨j, h1, h2⟩ := Option.bind_eq_some_iff.mp e
  obtain ⟨v, h3, h4⟩ := h.get h2
  exact ⟨v, by rw [h1]; exact h3, h4⟩
theorem o2_ixT {ds : List PyData} {i : Int} {d : PyData} (h : atI ds i = some d) (k : R (.d d) H) : O2 (rIx K) (.d (.tuple ds)) (.d (.int i)) H R := fun v u H' e d1 d2 Q q => by
  cases d2
  cases d1 with
  | @tup a vs _ ha hd =>
    obtain ⟨v, h1, h2⟩ := hd.atI h
    exact .inr (.inl ⟨a, vs, i, v, rfl, rfl, SqT.of ha, h1, q _ _ H H' k e (Ft.refl _) h2⟩)
theorem o2_ixL {ds : List PyData} {i : Int} {d : PyData} (h : atI ds i = some d) (k : R (.d d) H) : O2 (rIx K) (.d (.list ds)) (.d (.int i)) H R := fun v u H' e d1 d2 Q q => by
  cases d2
  cases d1 with
  | @lst a vs _ ha hd =>
    obtain ⟨v, h1, h2⟩ := hd.atI h
    exact .inl ⟨a, vs, i, v, rfl, rfl, SqL.of ha, h1, q _ _ H H' k e (Ft.refl _) h2⟩
def isNon : PyData → Bool
  | .none => true
  | _ => false
theorem o2_isN {d : PyData} (k : R (.d (.bool (isNon d))) H) : O2 (fun x y H Q => y = .non ∧ Q (.bl (decide (x = .non))) H) (.d d) (.d .none) H R := fun v u H' e d1 d2 Q q => by
  cases d2
  refine ⟨rfl, ?_⟩
  have z : decide (v = .non) = isNon d := by cases d1 <;> rfl
  rw [z]
  exact q _ _ H H' k e (Ft.refl _) (Dq.bl _)
theorem o2_notN {d : PyData} (k : R (.d (.bool (!isNon d))) H) : O2 (fun x y H Q => y = .non ∧ Q (.bl (!decide (x = .non))) H) (.d d) (.d .none) H R := fun v u H' e d1 d2 Q q => by
  cases d2
  refine ⟨rfl, ?_⟩
  have z : decide (v = .non) = isNon d := by cases d1 <;> rfl
  rw [z]
  exact q _ _ H H' k e (Ft.refl _) (Dq.bl _)
theorem o2_isNo {w : V} (hw : w ≠ .non) (k : R (.d (.bool false)) H) : O2 (fun x y H Q => y = .non ∧ Q (.bl (decide (x = .non))) H) (.o w) (.d .none) H R := fun v u H' e d1 d2 Q q => by
  cases d2
  cases d1
  refine ⟨rfl, ?_⟩
  rw [decide_eq_false hw]
  exact q _ _ H H' k e (Ft.refl _) (Dq.bl _)
/-- flat data as values -/
def toV : PyData → V
  | .bool b => .bl b
  | .int i => .int i
  | .str s => .str s
  | _ => .non
def flatD : PyData → Bool
  | .none | .bool _ | .int _ | .str _ => true
  | _ => false
theorem toV_of {H : Hp} {v : V} {d : PyData} (h : Dq H v d) (f : flatD d = true) : v = toV d ∧ flatV v = true := by
  cases h <;> first | exact ⟨rfl, rfl⟩ | cases f
theorem toVs_of {H : Hp} : ∀ {vs : List V} {ds : List PyData}, DqAll H vs ds → ds.all flatD = true → vs = ds.map toV ∧ vs.all flatV = true
  | _, [], h, _ => by cases h; exact ⟨rfl, rfl⟩
  | _, d :: ds, h, f => by
    rw [List.all_cons, Bool.and_eq_true] at f
    cases h with
    | cons a b =>
      obtain ⟨h1, h2⟩ := toV_of a f.1
      obtain ⟨h3, h4⟩ := toVs_of b f.2
      exact ⟨by rw [List.map_cons, ← h1, ← h3], by rw [List.all_cons, h2, h4]; rfl⟩
theorem o2_in {neg : Bool} {d : PyData} {ds : List PyData} (f1 : flatD d = true) (f2 : ds.all flatD = true) (k : R (.d (.bool (if neg then !inV (toV d) (ds.map toV) else inV (toV d) (ds.map toV)))) H) : O2 (rIn K neg) (.d d) (.d (.tuple ds)) H R := fun v u H' e d1 d2 Q q => by
  obtain ⟨h1, h2⟩ := toV_of d1 f1
  cases d2 with
  | @tup a vs _ ha hd =>
    obtain ⟨h3, h4⟩ := toVs_of hd f2
    subst h1 h3
    exact ⟨a, _, rfl, .inr (SqT.of ha), h2, h4, q _ _ H H' k e (Ft.refl _) (Dq.bl _)⟩
theorem o2_or1 {r r' : R2} (h : O2 r x y H R) : O2 (fun x y H Q => r x y H Q ∨ r' x y H Q) x y H R := fun v u H' e d1 d2 Q q => .inl (h v u H' e d1 d2 Q q)
theorem o2_or2 {r r' : R2} (h : O2 r' x y H R) : O2 (fun x y H Q => r x y H Q ∨ r' x y H Q) x y H R := fun v u H' e d1 d2 Q q => .inr (h v u H' e d1 d2 Q q)
/-! ## built-in calls -/
theorem oa_len {ds : List PyData} (k : R (.d (.int ds.length)) H) : OA (fun xs H Q => ∃ p ys, xs = [.ref p] ∧ (SqL K H p ys ∨ SqT K H p ys) ∧ Q (.int ys.length) H) [.d (.tuple ds)] H R := fun vs H' e d Q q => by
  cases d with
  | cons a b =>
    cases b
    cases a with
    | @tup p ys _ ha hd => exact ⟨p, ys, rfl, .inr (SqT.of ha), by rw [hd.len]; exact q _ _ H H' k e (Ft.refl _) (Dq.int _)⟩
theorem oa_lenL {ds : List PyData} (k : R (.d (.int ds.length)) H) : OA (fun xs H Q => ∃ p ys, xs = [.ref p] ∧ (SqL K H p ys ∨ SqT K H p ys) ∧ Q (.int ys.length) H) [.d (.list ds)] H R := fun vs H' e d Q q => by
  cases d with
  | cons a b =>
    cases b
    cases a with
    | @lst p ys _ ha hd => exact ⟨p, ys, rfl, .inl (SqL.of ha), by rw [hd.len]; exact q _ _ H H' k e (Ft.refl _) (Dq.int _)⟩
theorem oa_lenO {l : Addr} {vs : List V} (hl : H l = some (.lst vs)) (k : R (.d (.int vs.length)) H) : OA (fun xs H Q => ∃ p ys, xs = [.ref p] ∧ (SqL K H p ys ∨ SqT K H p ys) ∧ Q (.int ys.length) H) [.o (.ref l)] H R := fun vs' H' e d Q q => by
  cases d with
  | cons a b =>
    cases b
    cases a
    exact ⟨l, vs, rfl, .inl (SqL.of (e _ _ hl)), q _ _ H H' k e (Ft.refl _) (Dq.int _)⟩
def rTupOf (K : PySem.W.Frag) : List V → Hp → VK → Prop := fun xs H Q => ∃ p ys, xs = [.ref p] ∧ ((SqL K H p ys ∧ ∀ l, H l = none → Q (.ref l) (upd H l (.tup ys))) ∨ (SqT K H p ys ∧ Q (.ref p) H))
theorem oa_tupL {ds : List PyData} (k : R (.d (.tuple ds)) H) : OA (rTupOf K) [.d (.list ds)] H R := fun vs H' e d Q q => by
  cases d with
  | cons a b =>
    cases b
    cases a with
    | @lst p ys _ ha hd =>
      refine ⟨p, ys, rfl, .inl ⟨SqL.of ha, fun l hl => ?_⟩⟩
      have sm : Same H' (upd H' l (.tup ys)) := Same.new hl
      exact q _ _ H _ k (e.trans sm) sm.ftq (.tup upd_same (ft_dps sm.ftq _ _ hd))
theorem oa_tupO {l : Addr} {vs : List V} {ds : List PyData} (hl : H l = some (.lst vs)) (hd : DqAll H vs ds) (k : R (.d (.tuple ds)) H) : OA (rTupOf K) [.o (.ref l)] H R := fun vs' H' e d Q q => by
  cases d with
  | cons a b =>
    cases b
    cases a
    refine ⟨l, vs, rfl, .inl ⟨SqL.of (e _ _ hl), fun p hp => ?_⟩⟩
    have sm : Same H' (upd H' p (.tup vs)) := Same.new hp
    exact q _ _ H _ k (e.trans sm) sm.ftq (.tup upd_same (ft_dps sm.ftq _ _ (ft_dps e.ftq _ _ hd)))
theorem oa_max {i j : Int} (k : R (.d (.int (if j > i then j else i))) H) : OA (fun xs H Q => ∃ i j, xs = [.int i, .int j] ∧ Q (.int (if j > i then j else i)) H) [.d (.int i), .d (.int j)] H R := fun vs H' e d Q q => by
  cases d with
  | cons a b =>
    cases a
    cases b with
    | cons b c =>
      cases b
      cases c
      exact ⟨i, j, rfl, q _ _ H H' k e (Ft.refl _) (Dq.int _)⟩
theorem oa_min {i j : Int} (k : R (.d (.int (if j < i then j else i))) H) : OA (fun xs H Q => ∃ i j, xs = [.int i, .int j] ∧ Q (.int (if j < i then j else i)) H) [.d (.int i), .d (.int j)] H R := fun vs H' e d Q q => by
  cases d with
  | cons a b =>
    cases a
    cases b with
    | cons b c =>
      cases b
      cases c
      exact ⟨i, j, rfl, q _ _ H H' k e (Ft.refl _) (Dq.int _)⟩
theorem oa_abs {i : Int} (k : R (.d (.int (if i < 0 then -i else i))) H) : OA (fun xs H Q => ∃ i, xs = [.int i] ∧ Q (.int (if i < 0 then -i else i)) H) [.d (.int i)] H R := fun vs H' e d Q q => by
  cases d with
  | cons a b =>
    cases a
    cases b
    exact ⟨i, rfl, q _ _ H H' k e (Ft.refl _) (Dq.int _)⟩
theorem oa_intB {b : Bool} (k : R (.d (.int (if b then 1 else 0))) H) : OA (fun xs H Q => (∃ i, xs = [.int i] ∧ Q (.int i) H) ∨ ∃ k, xs = [.bl k] ∧ Q (.int (if k then 1 else 0)) H) [.d (.bool b)] H R := fun vs H' e d Q q => by
  cases d with
  | cons a c =>
    cases a
    cases c
    exact .inr ⟨b, rfl, q _ _ H H' k e (Ft.refl _) (Dq.int _)⟩
theorem oa_all {bs : List Bool} (k : R (.d (.bool (bs.all id))) H) : OA (rAll K) [.d (.list (bs.map .bool))] H R := fun vs H' e d Q q => by
  cases d with
  | cons a c =>
    cases c
    cases a with
    | @lst p ys _ ha hd =>
      have z := hd.bls
      subst z
      exact ⟨p, bs, rfl, SqL.of ha, q _ _ H H' k e (Ft.refl _) (Dq.bl _)⟩
theorem oa_sum {ns : List Int} (k : R (.d (.int ns.sum)) H) : OA (rSum K) [.d (.list (ns.map .int))] H R := fun vs H' e d Q q => by
  cases d with
  | cons a c =>
    cases c
    cases a with
    | @lst p ys _ ha hd =>
      have z := hd.ints
      subst z
      exact ⟨p, ns, rfl, SqL.of ha, q _ _ H H' k e (Ft.refl _) (Dq.int _)⟩
theorem oa_maxL {ns : List Int} (hn : 0 < ns.length) (k : ∀ m, m ∈ ns → (∀ y, y ∈ ns → y ≤ m) → R (.d (.int m)) H) : OA (rMax K) [.d (.list (ns.map .int))] H R := fun vs H' e d Q q => by
  cases d with
  | cons a c =>
    cases c
    cases a with
    | @lst p ys _ ha hd =>
      have z := hd.ints
      subst z
      exact ⟨p, ns, rfl, SqL.of ha, hn, fun m h1 h2 => q _ _ H H' (k m h1 h2) e (Ft.refl _) (Dq.int _)⟩
theorem oa_minL {ns : List Int} (hn : 0 < ns.length) (k : ∀ m, m ∈ ns → (∀ y, y ∈ ns → m ≤ y) → R (.d (.int m)) H) : OA (rMin K) [.d (.list (ns.map .int))] H R := fun vs H' e d Q q => by
  cases d with
  | cons a c =>
    cases c
    cases a with
    | @lst p ys _ ha hd =>
      have z := hd.ints
      subst z
      exact ⟨p, ns, rfl, SqL.of ha, hn, fun m h1 h2 => q _ _ H H' (k m h1 h2) e (Ft.refl _) (Dq.int _)⟩
/-- the type's name -/
def tyN : PyData → String
  | .none => "NoneType"
  | .bool _ => "bool"
  | .int _ => "int"
  | .str _ => "str"
  | .list _ => "list"
  | .tuple _ => "tuple"
  | .dict _ => "dict"
theorem tyX_of {H : Hp} {v : V} {d : PyData} (h : Dq H v d) : TyX K H v (.type (tyN d)) := by
  cases h with
  | non => exact .base .non
  | bl => exact .base (.bl _)
  | int => exact .base (.int _)
  | str => exact .base (.str _)
  | lst a _ => exact .base (.lst a)
  | tup a _ => exact .base (.tup a)
theorem oa_isi {d : PyData} {T : String} {b : Bool} (h : kitB (tyN d) T = some b) (k : R (.d (.bool b)) H) : OA (rIsi K) [.d d, .o (.ty T)] H R := fun vs H' e dd Q q => by
  cases dd with
  | cons a c =>
    cases c with
    | cons a2 c =>
      cases c
      cases a2
      exact ⟨_, _, _, _, b, rfl, ClsV.ty T, tyX_of a, kit_ty h, q _ _ H H' k e (Ft.refl _) (Dq.bl _)⟩
/-! ## slices -/
def WO (Γ : List Gh) (to : TO) (ρ : Rho) (H : Hp) (R : Option Int → Hp → Prop) : Prop := ∀ σ H', Same H H' → Sr Γ H' σ ρ → ∀ Q : Option Int → Hp → Prop, (∀ o H1 H'', R o H1 → Same H1 H'' → Ft H' H'' → Q o H'') → to σ H' Q
theorem wo_no {R : Option Int → Hp → Prop} (k : R none H) : WO Γ tNoPart ρ H R := fun σ H' e s Q q => q none H H' k e (Ft.refl _)
theorem wo_some {R : Option Int → Hp → Prop} (h : W Γ te ρ H fun x H1 => ∃ i, x = .d (.int i) ∧ R (some i) H1) : WO Γ (tPart te) ρ H R := fun σ H' e s Q q =>
  h σ H' e s _ fun x v H1 H1' k e1 f1 d1 => by
    obtain ⟨i, rfl, k⟩ := k
    cases d1
    exact ⟨i, rfl, q _ H1 H1' k e1 f1⟩
theorem cutV_all (H : Hp) {vs : List V} {ds : List PyData} (h : DqAll H vs ds) (lo hi : Option Int) : DqAll H (cutV vs lo hi) ((ds.drop (HT.sIx ds.length 0 lo)).take (HT.sIx ds.length ds.length hi - HT.sIx ds.length 0 lo)) := by
  unfold cutV
  rw [h.len]
  exact (h.drop _).take _
def cutD (ds : List PyData) (lo hi : Option Int) : List PyData := (ds.drop (HT.sIx ds.length 0 lo)).take (HT.sIx ds.length ds.length hi - HT.sIx ds.length 0 lo)
theorem cutD_whole {ds : List PyData} {lo hi : Option Int} (h : HT.sIx ds.length 0 lo = 0 ∧ HT.sIx ds.length ds.length hi = ds.length) : cutD ds lo hi = ds := by
  unfold cutD
  rw [h.1, h.2, List.drop_zero, Nat.sub_zero, List.take_length]
theorem w_slT {tl th : TO} (h : W Γ te ρ H fun x H1 => ∃ ds, x = .d (.tuple ds) ∧ WO Γ tl ρ H1 fun lo H2 => WO Γ th ρ H2 fun hi H3 => R (.d (.tuple (cutD ds lo hi))) H3) : W Γ (tSl (rSlA K) te tl th) ρ H R := fun σ H' e s Q q =>
  h σ H' e s _ fun x v H1 H1' k e1 f1 d1 => by
    obtain ⟨ds, rfl, k⟩ := k
    refine k σ H1' e1 (s.ft f1) _ fun lo H2 H2' k2 e2 f2 => k2 σ H2' e2 ((s.ft f1).ft f2) _ fun hi H3 H3' k3 e3 f3 => ?_
    cases d1 with
    | @tup a vs _ ha hd =>
      have ha3 := f3.sq _ _ (f2.sq _ _ ha rfl) rfl
      have hd3 := ft_dps f3 _ _ (ft_dps f2 _ _ hd)
      refine ⟨a, vs, rfl, SqT.of ha3, fun z => ?_, fun _ p hp => ?_⟩
      · rw [hd.len] at z
        refine q _ _ H3 H3' k3 e3 ((f1.trans f2).trans f3) ?_
        rw [cutD_whole z]
        exact .tup ha3 hd3
      · have sm : Same H3' (upd H3' p (.tup (cutV vs lo hi))) := Same.new hp
        exact q _ _ H3 _ k3 (e3.trans sm) (((f1.trans f2).trans f3).trans sm.ftq) (.tup upd_same (ft_dps sm.ftq _ _ (cutV_all H3' hd3 lo hi)))
theorem w_slL {tl th : TO} (h : W Γ te ρ H fun x H1 => ∃ ds, x = .d (.list ds) ∧ WO Γ tl ρ H1 fun lo H2 => WO Γ th ρ H2 fun hi H3 => R (.d (.list (cutD ds lo hi))) H3) : W Γ (tSl (rSlL K) te tl th) ρ H R := fun σ H' e s Q q =>
  h σ H' e s _ fun x v H1 H1' k e1 f1 d1 => by
    obtain ⟨ds, rfl, k⟩ := k
    refine k σ H1' e1 (s.ft f1) _ fun lo H2 H2' k2 e2 f2 => k2 σ H2' e2 ((s.ft f1).ft f2) _ fun hi H3 H3' k3 e3 f3 => ?_
    cases d1 with
    | @lst a vs _ ha hd =>
      have ha3 := f3.sq _ _ (f2.sq _ _ ha rfl) rfl
      have hd3 := ft_dps f3 _ _ (ft_dps f2 _ _ hd)
      refine ⟨a, vs, rfl, SqL.of ha3, fun p hp => ?_⟩
      have sm : Same H3' (upd H3' p (.lst (cutV vs lo hi))) := Same.new hp
      exact q _ _ H3 _ k3 (e3.trans sm) (((f1.trans f2).trans f3).trans sm.ftq) (.lst upd_same (ft_dps sm.ftq _ _ (cutV_all H3' hd3 lo hi)))
/-! ## promises in one form -/
end
structure Spc where
  ι : Type
  args : ι → List Dx
  pre : ι → Hp → Prop
  mod : ι → List Addr
  post : ι → Dx → Hp → Prop
  ex : ι → Value → Option Addr → Hp → Prop := fun _ _ _ _ => False
def sp (S : Spc) : Sp := fun vs H Q E => ∃ i, DxAll H vs (S.args i) ∧ S.pre i H ∧ (∀ x v H', Fr (S.mod i) H H' → S.post i x H' → DxR H' v x → Q v H') ∧ ∀ c d H', Fr (S.mod i) H H' → S.ex i c d H' → E c d H'
/-- a call may be made with xs -/
def CallS (S : Spc) (xs : List Dx) (H : Hp) (E : XK) (R : PX) : Prop := ∃ i, xs = S.args i ∧ (∀ H', Same H H' → S.pre i H') ∧ (∀ x H2, Fr (S.mod i) H H2 → S.post i x H2 → R x H2) ∧ ∀ c d H2, Fr (S.mod i) H H2 → S.ex i c d H2 → E c d H2
theorem CallS.go {S : Spc} {xs : List Dx} {H H' : Hp} {E : XK} {R : PX} {vs : List V} {Q : VK} (c : CallS S xs H E R) (e : Same H H') (d : DxAll H' vs xs) (q : ∀ x v H1 H'', R x H1 → Same H1 H'' → Ft H' H'' → DxR H'' v x → Q v H'') : sp S vs H' Q E := by
  obtain ⟨i, rfl, p, r, x⟩ := c
  exact ⟨i, d, p H' e, fun x v H2 f po dx => q x v H2 H2 (r x H2 (e.frq.trans f) po) (Same.refl _) f.ft dx, fun c d H2 f po => x c d H2 (e.frq.trans f) po⟩
section
variable {Γ : List Gh} {ρ : Rho} {H : Hp} {R : PX} {te : TE} {ta : TA} {S : Spc} {dvs : List V} {E : XK} {C : Addr} {m : Str}
theorem DxAll.appd {H : Hp} : ∀ {vs : List V} {xs : List Dx} {ws : List V} {ys : List Dx}, DxAll H vs xs → DxAll H ws ys → DxAll H (vs ++ ws) (xs ++ ys)
  | _, _, _, _, .nil, h => h
  | _, _, _, _, .cons a b, h => .cons a (b.appd h)
theorem w_call {dxs : List Dx} (hd : ∀ H, DxAll H dvs dxs) (h : WA Γ ta ρ H fun xs H1 => CallS S (xs ++ dxs) H1 E R) : W Γ (tCall (sp S) dvs E ta) ρ H R := fun σ H' e s Q q =>
  h σ H' e s _ fun xs vs H1 H1' k e1 f1 d1 => k.go e1 (d1.appd (hd _)) fun x v H2 H2' k2 e2 f2 d2 => q x v H2 H2' k2 e2 (f1.trans f2) d2
theorem w_call0 (h : WA Γ ta ρ H fun xs H1 => CallS S xs H1 E R) : W Γ (tCall (sp S) [] E ta) ρ H R := w_call (dxs := []) (fun _ => .nil) (by simpa using h)
theorem w_meth {dxs : List Dx} (hd : ∀ H, DxAll H dvs dxs) (h : W Γ te ρ H fun x H1 => ∃ p dx fs, x = .o (.ref p) ∧ H1 p = some (.ins C dx fs) ∧ fs.lookup m = none ∧ WA Γ ta ρ H1 fun xs H2 => CallS S (.o (.ref p) :: (xs ++ dxs)) H2 E R) :
    W Γ (tMeth C m (sp S) dvs E te ta) ρ H R := fun σ H' e s Q q =>
  h σ H' e s _ fun x v H1 H1' k e1 f1 d1 => by
    obtain ⟨p, dx, fs, rfl, hp, hl, k⟩ := k
    cases d1
    exact ⟨p, dx, fs, rfl, e1 _ _ hp, hl, k σ H1' e1 (s.ft f1) _ fun xs vs H2 H2' k2 e2 f2 d2 => k2.go e2 (.cons rfl (d2.appd (hd _))) fun x v H3 H3' k3 e3 f3 d3 => q x v H3 H3' k3 e3 ((f1.trans f2).trans f3) d3⟩
theorem w_prop (h : W Γ te ρ H fun x H1 => ∃ p dx fs, x = .o (.ref p) ∧ H1 p = some (.ins C dx fs) ∧ CallS S [.o (.ref p)] H1 E R) : W Γ (tProp C (sp S) [] E te) ρ H R := fun σ H' e s Q q =>
  h σ H' e s _ fun x v H1 H1' k e1 f1 d1 => by
    obtain ⟨p, dx, fs, rfl, hp, k⟩ := k
    cases d1
    exact ⟨p, dx, fs, rfl, e1 _ _ hp, k.go e1 (.cons rfl .nil) fun x v H3 H3' k3 e3 f3 d3 => q x v H3 H3' k3 e3 (f1.trans f3) d3⟩
theorem w_make (h : WA Γ ta ρ H fun xs H1 => ∀ x dx H2, H1 x = none → Fr [] H1 H2 → H2 x = some (.ins C dx []) → CallS S (.o (.ref x) :: xs) H2 E fun y H3 => y = .d .none ∧ R (.o (.ref x)) H3) : W Γ (tMake C (sp S) [] E ta) ρ H R := fun σ H' e s Q q =>
  h σ H' e s _ fun xs vs H1 H1' k e1 f1 d1 x dx hx hdx hne => by
    have sm : Same H1' (upd (upd H1' dx (.own x)) x (.ins C dx [])) := (Same.new hdx).trans (Same.new (by rw [upd_ne (Ne.symm hne)]; exact hx))
    refine (k x dx _ (e1.free hx) (e1.trans sm).frq upd_same).go (Same.refl _) (.cons rfl ?_) fun y v H3 H3' k3 e3 f3 d3 => ?_
    · rw [List.append_nil]
      exact ft_dxs sm.ftq d1
    · obtain ⟨rfl, k3⟩ := k3
      cases d3
      exact ⟨rfl, q _ _ H3 H3' k3 e3 ((f1.trans sm.ftq).trans f3) rfl⟩
/-! ## attributes -/
theorem w_fld {K : PySem.W.Frag} {f : Str} (h : W Γ te ρ H fun x H1 => ∃ p dx fs v y, x = .o (.ref p) ∧ H1 p = some (.ins C dx fs) ∧ Cls K C ∧ NoAttr K C f ∧ fs.lookup f = some v ∧ DxR H1 v y ∧ R y H1) : W Γ (tFld K te f) ρ H R := fun σ H' e s Q q =>
  h σ H' e s _ fun x v H1 H1' k e1 f1 d1 => by
    obtain ⟨p, dx, fs, v', y, rfl, hp, c, n, l, dy, k⟩ := k
    cases d1
    exact ⟨p, C, dx, fs, v', rfl, e1 _ _ hp, c, n, l, q _ _ H1 H1' k e1 f1 (ft_dx e1.ftq dy)⟩
theorem go_fld {K : PySem.W.Frag} {f : Str} {tv : TE} {EE : EX} (h : W Γ tv ρ H fun y H1 => W Γ te ρ H1 fun x H2 => ∃ p dx fs, x = .o (.ref p) ∧ H2 p = some (.ins C dx fs) ∧ Cls K C ∧ NoAttr K C f ∧ fs.length < 1000 ∧
    ∀ w H3, Same (fun b => if b = p then none else H2 b) H3 → Fr [p] H2 H3 → H3 p = some (.ins C dx (putF f w fs)) → DxR H3 w y → EE.nx ρ H3) : Go Γ (sFld K te tv f) EE ρ H := fun D le σ H' e s =>
  h σ H' e s _ fun y w H1 H1' k e1 f1 d1 => k σ H1' e1 (s.ft f1) _ fun x v H2 H2' k2 e2 f2 d2 => by
    obtain ⟨p, dx, fs, rfl, hp, c, n, l, k2⟩ := k2
    cases d2
    refine ⟨p, C, dx, fs, rfl, e2 _ _ hp, c, n, l, ?_⟩
    have fr : Fr [p] H2' (upd H2' p (.ins C dx (putF f w fs))) := Fr.at (e2 _ _ hp) rfl
    refine le.nx ρ _ σ _ (k2 w _ (fun b o q => ?_) (e2.frq.trans fr) upd_same (ft_dx fr.ft (ft_dx f2 d1))) (Same.refl _) (((s.ft f1).ft f2).ft fr.ft)
    by_cases hb : b = p
    · subst hb
      simp at q
    · rw [upd_ne hb]
      simp [hb] at q
      exact e2 b o q
end
end K2

set_option Elab.async false
set_option linter.all false
set_option maxRecDepth 100000
set_option maxHeartbeats 2000000
namespace K2
open PySem L2 PySem.Spec PyProof.Rows
/-! ## the program's own special methods -/
/-- the class at C has the def at g under the name m -/
structure OwnM (K : PySem.W.Frag) (C g : Addr) (m : Str) : Prop where
  at_ : PySem.W.findIn K (.ref C) m = some (some (.ref g))
  fn : PySem.W.isFn K (.ref g) = true
section
variable {X : Cx} {CX : CXT} {k : Nat} {C g : Addr} {fd : FuncData} {ps : List Str} {q : Sp} {E : XK}
theorem ep_back {pins : List (Addr × Obj)} {σ : L2.St} {Q : VK} {u : Value} {s : Shared} (h : EP X pins σ Q u s) : PySem.W.CmpBack (EP X pins σ Q) u s := by
  obtain ⟨v, H', I, r, hq⟩ := id h
  cases u <;> first | exact h | (cases v <;> first | (exact nomatch r) | (obtain ⟨_, z⟩ := r; cases z))
theorem inst_of {pins : List (Addr × Obj)} {σ : L2.St} {H : Hp} {s : Shared} {a dx : Addr} {fs : List (Str × V)} (I : Inv X pins σ H s) (h : H a = some (.ins C dx fs)) : ∃ od, PySem.W.InstAt s.heap a (PySem.W.instObj C dx) C (some od) := by
  obtain ⟨mA, O, _⟩ := ins_get I.hok h
  obtain ⟨od, J, _⟩ := O.look
  exact ⟨od, J⟩
/-- the callee runs one level down -/
theorem run_in1 {pins : List (Addr × Obj)} {σ : L2.St} {H : Hp} {s : Shared} {Q : VK} {us : List Value} {vs : List V} (F : FnOk X.prog X.w X.K X.mg X.base CX k g fd ps q) (hr : Room (k + 1) X.A) (hb : Binds X.K fd ps []) (hx : Passes CX X E)
    (I : Inv X pins σ H s) (r : Vals vs us) (h : q vs H Q E) : wpAny (model X.prog X.w) X.A.in1 (call (.ref g) us) (EP X pins σ Q) X.xe s := by
  have hl : (us ++ []).length = ps.length := by rw [List.append_nil, ← r.length]; exact F.len _ _ _ _ h
  have bb := hb s us I.kIn hl
  rw [List.append_nil] at bb
  refine wpAny_call (codeAny_mono (F.run X.A.in1 X.stack s H ⟨us, []⟩ us vs Q E hr.in1 I.env0.in1 bb r h) fun r s' hq => ?_)
  cases r with
  | error e => exact hx pins σ H s e s' I hq
  | ok fl =>
    cases fl with
    | ret u => exact I.after hq
    | next => exact False.elim hq
    | brk => exact False.elim hq
    | cont => exact False.elim hq
theorem run_here {pins : List (Addr × Obj)} {σ : L2.St} {H : Hp} {s : Shared} {Q : VK} {us : List Value} {vs : List V} (F : FnOk X.prog X.w X.K X.mg X.base CX k g fd ps q) (hr : Room k X.A) (hb : Binds X.K fd ps []) (hx : Passes CX X E)
    (I : Inv X pins σ H s) (r : Vals vs us) (h : q vs H Q E) : wpAny (model X.prog X.w) X.A (call (.ref g) us) (EP X pins σ Q) X.xe s :=
  run_fn F hr hb .nil hx I r (by rw [List.append_nil]; exact h)
/-- x += y by an own __iadd__ -/
def rOwn2 (C : Addr) (q : Sp) (E : XK) : V → V → Hp → VK → Prop := fun x y H Q => ∃ a dx fs, x = .ref a ∧ H a = some (.ins C dx fs) ∧ q [x, y] H Q E
theorem ip_own (hc : PySem.W.selfFirst X.K C = true) (o : OwnM X.K C g "__iadd__") (F : FnOk X.prog X.w X.K X.mg X.base CX k g fd ps q) (hr : Room k X.A) (hb : Binds X.K fd ps []) (hx : Passes CX X E) : PIp X .Add (rOwn2 C q E) := by
  rintro pins s σ H x y v u Q I rx ry ⟨a, dx, fs, rfl, ha, hq⟩
  obtain rfl : v = Value.ref a := rx
  obtain ⟨od, J⟩ := inst_of I ha
  obtain ⟨m, hF⟩ := I.fr
  exact PySem.W.ksp_inplace (op := .Add) hF I.ok.mod.kin J hc o.at_ o.fn (thn (run_here F hr hb hx I (vs := [V.ref a, y]) (.cons rfl (.cons ry .nil)) hq) fun _ _ z => ep_back z)
/-- len(x) by an own __len__ -/
def rOwnLen (C : Addr) (q : Sp) (E : XK) : List V → Hp → VK → Prop := fun xs H Q => ∃ a dx fs, xs = [.ref a] ∧ H a = some (.ins C dx fs) ∧ q [.ref a] H (fun v H' => ∃ n : Int, v = .int n ∧ (0 ≤ n ∧ n < 2 ^ 63) ∧ Q (.int n) H') E
theorem call_lenOwn (o : OwnM X.K C g "__len__") (F : FnOk X.prog X.w X.K X.mg X.base CX k g fd ps q) (hr : Room (k + 1) X.A) (hb : Binds X.K fd ps []) (hx : Passes CX X E) : CallR X (.builtin "len") (rOwnLen C q E) := by
  rintro pins s σ H xs us Q I r ⟨a, dx, fs, rfl, ha, hq⟩
  cases r with
  | cons r1 r2 =>
    cases r2
    cases r1
    obtain ⟨od, J⟩ := inst_of I ha
    obtain ⟨m, hF⟩ := I.fr
    refine PySem.W.len_K hF I.ok.mod.kin J o.at_ o.fn (thn (run_in1 F hr hb hx I (vs := [V.ref a]) (.cons rfl .nil) hq) fun u s' z => ?_)
    obtain ⟨v, H', I', rv, n, rfl, hn, k⟩ := z
    obtain ⟨t, rfl⟩ := rv
    exact ⟨hn, .int n, H', I'.tok _, ⟨_, rfl⟩, k⟩
/-- y in x by an own __contains__ -/
def rOwnIn (C : Addr) (q : Sp) (E : XK) : R2 := fun x y H Q => ∃ a dx fs, y = .ref a ∧ H a = some (.ins C dx fs) ∧ q [y, x] H (fun v H' => ∃ b, v = .bl b ∧ Q (.bl b) H') E
theorem op_inOwn (o : OwnM X.K C g "__contains__") (F : FnOk X.prog X.w X.K X.mg X.base CX k g fd ps q) (hr : Room k X.A) (hb : Binds X.K fd ps []) (hx : Passes CX X E) : OpR X (compareOp .In) (rOwnIn C q E) := by
  rintro pins s σ H x y v u Q I rx ry ⟨a, dx, fs, rfl, ha, hq⟩
  obtain rfl : u = Value.ref a := ry
  obtain ⟨od, J⟩ := inst_of I ha
  unfold compareOp
  refine wpAny_bind ?_
  unfold contains
  refine wpAny_holding ?_
  have z : stdlibNamesSay? (.ref a) v = none := by cases v <;> rfl
  rw [z]
  have L1 := J.type (M := model X.prog X.w)
  have L2' := PySem.W.looks_findIn (M := model X.prog X.w) I.kIn o.at_
  have L3 : PySem.W.Looks (model X.prog X.w) s.heap (specialOf (.ref a) "__contains__") (some (.ref g)) := L1.andThen L2'
  refine wpAny_bind (L3.here ?_)
  have ne : (some (Value.ref g) == some Value.none) = false := rfl
  rw [ne, if_neg Bool.false_ne_true]
  unfold callSpecialUnlessNone?
  refine wpAny_bind (wpAny_bind (L3.here ?_))
  dsimp only
  refine wpAny_holding (wpAny_bind ((PySem.W.bind_fn I.kIn (.ref a) (beq_iff_eq.mp o.fn)).here ?_))
  dsimp only
  have ne2 : (Value.ref g == Value.none) = false := rfl
  rw [ne2, if_neg Bool.false_ne_true]
  refine wpAny_bind (thn (run_here F hr hb hx I (vs := [V.ref a, x]) (.cons rfl (.cons rx .nil)) hq) fun w s' z => ?_)
  obtain ⟨v', H', I', rv, b, rfl, k⟩ := z
  obtain rfl : w = Value.bool b := rv
  exact wpAny_pure (wpAny_truthy_bool (wpAny_pure ⟨.bl b, H', I', rfl, k⟩))
end
end K2

set_option Elab.async false
set_option linter.all false
set_option maxRecDepth 100000
set_option maxHeartbeats 2000000
namespace K2
open PySem L2 PySem.Spec PyProof.Rows StX
/-! ## == and != by an own __eq__ -/
section
variable {X : Cx} {CX : CXT} {k : Nat} {C g : Addr} {fd : FuncData} {ps : List Str} {q : Sp} {E : XK}
/-- the other operand's type, as == looks at it -/
def TyE (K : PySem.W.Frag) (C : Addr) (y : V) (H : Hp) : Prop := (∃ i, y = .int i) ∨ ∃ b dx fs, y = .ref b ∧ H b = some (.ins C dx fs)
theorem tyE_looks {pins : List (Addr × Obj)} {σ : L2.St} {H : Hp} {s : Shared} {y : V} {u : Value} (I : Inv X pins σ H s) (ry : RelV y u) (h : TyE X.K C y H) (hi : PySem.W.notFirst X.K C (.type "int") = true) :
    ∃ tb, PySem.W.Looks (model X.prog X.w) s.heap (typeOf u) tb ∧ PySem.W.notFirst X.K C tb = true := by
  rcases h with ⟨i, rfl⟩ | ⟨b, dx, fs, rfl, hb⟩
  · obtain ⟨t, rfl⟩ := ry
    exact ⟨.type "int", .now, hi⟩
  · obtain rfl : u = Value.ref b := ry
    obtain ⟨od, J⟩ := inst_of I hb
    exact ⟨.ref C, J.type, by simp [PySem.W.notFirst]⟩
def rOwnEq (K : PySem.W.Frag) (C : Addr) (q : Sp) (E : XK) : R2 := fun x y H Q => ∃ a dx fs, x = .ref a ∧ H a = some (.ins C dx fs) ∧ TyE K C y H ∧ q [x, y] H Q E
theorem op_ownEq (o : OwnM X.K C g "__eq__") (hi : PySem.W.notFirst X.K C (.type "int") = true) (F : FnOk X.prog X.w X.K X.mg X.base CX k g fd ps q) (hr : Room k X.A) (hb : Binds X.K fd ps []) (hx : Passes CX X E) : OpR X (compareOp .Eq) (rOwnEq X.K C q E) := by
  rintro pins s σ H x y v u Q I rx ry ⟨a, dx, fs, rfl, ha, ht, hq⟩
  obtain rfl : v = Value.ref a := rx
  obtain ⟨od, J⟩ := inst_of I ha
  obtain ⟨m, hF⟩ := I.fr
  obtain ⟨tb, hl, hn⟩ := tyE_looks I ry ht hi
  show wpAny _ _ (richCompare .Eq _ _) _ _ _
  exact PySem.W.cmp_K (op := .Eq) hr.units0 hF I.ok.mod.kin J hl hn o.at_ o.fn (thn (run_here F hr hb hx I (vs := [V.ref a, y]) (.cons rfl (.cons ry .nil)) hq) fun _ _ z => ep_back z)
def rOwnNe (K : PySem.W.Frag) (C : Addr) (q : Sp) (E : XK) : R2 := fun x y H Q => ∃ a dx fs, x = .ref a ∧ H a = some (.ins C dx fs) ∧ TyE K C y H ∧ q [x, y] H (fun v H' => ∃ b, v = .bl b ∧ Q (.bl (!b)) H') E
theorem op_ownNe (o : OwnM X.K C g "__eq__") (hne : PySem.W.findIn X.K (.ref C) "__ne__" = some (some (.builtin "object.__ne__"))) (hob : PySem.W.mroIn X.K C (.type "object") = some true) (hi : PySem.W.notFirst X.K C (.type "int") = true) (F : FnOk X.prog X.w X.K X.mg X.base CX k g fd ps q) (hr : Room (k + 1) X.A) (hb : Binds X.K fd ps []) (hx : Passes CX X E) :
    OpR X (compareOp .NotEq) (rOwnNe X.K C q E) := by
  rintro pins s σ H x y v u Q I rx ry ⟨a, dx, fs, rfl, ha, ht, hq⟩
  obtain rfl : v = Value.ref a := rx
  obtain ⟨od, J⟩ := inst_of I ha
  obtain ⟨m, hF⟩ := I.fr
  obtain ⟨tb, hl, hn⟩ := tyE_looks I ry ht hi
  have KX := I.kIn
  have S := PySem.F.cmp_object.ne
  have isO : PySem.W.Looks (model X.prog X.w) s.heap (isInstance (.ref a) (.type "object")) true := J.type.andThen (PySem.W.looks_mroIn KX hob)
  have run := run_in1 F hr hb hx I (vs := [V.ref a, y]) (.cons rfl (.cons ry .nil)) hq
  have objNe : ∀ {Q' : Fin → Shared → Prop}, (∀ w s', (∃ v H', Inv X pins σ H' s' ∧ RelV v w ∧ ∃ b, v = .bl b ∧ Q (.bl (!b)) H') → ∃ b, w = Value.bool b ∧ Q' (.done (.ret (.bool (!b)))) s') →
      wpAny (model X.prog X.w) X.A.in1 (Builtin.«object.__ne__» ⟨[.ref a, u], []⟩) Q' X.xe s := by
    intro Q' hQ'
    unfold Builtin.«object.__ne__»
    repeat (first
      | with_reducible refine wpAny_cRoomFor hr.in1.units0 ?_
      | (refine wpAny_bind (m := callSpecialIfBound? (.ref a) (Str.ofString "__eq__") [u])
          (PySem.W.ifBound_K KX J o.at_ o.fn (wpAny_mono run (fun r s' hr => by
            obtain ⟨b, rfl, hq⟩ := hQ' r s' hr
            repeat (first | exact hq | exact wpAny_pure hq | exact wpAny_truthy_bool hq | (refine wpAny_bind (m := truthy (.bool _)) (wpAny_truthy_bool ?_)) | wp_step)) fun _ _ e => e)))
      | wp_step)
  have tc : wpAny (model X.prog X.w) X.A (tryCompare (.ref a) "__ne__" u) (fun r s' => ∃ v, r = some v ∧ EP X pins σ Q v s') X.xe s := by
    simp only [tryCompare, callSpecialIfBound?, bindSpecialIfBound?]
    refine wpAny_bind (wpAny_holding (wpAny_bind (wpAny_bind (wpAny_bind (J.type.here ((PySem.W.looks_findIn KX hne).here ?_))))))
    simp only [S.bind]
    refine wpAny_bind (wpAny_askSetting (wpAny_ite ?_))
    have hcall : wpAny (model X.prog X.w) X.A (call (Value.builtin "object.__ne__") ([Value.ref a] ++ [u])) (fun w s' => ∃ b, w = Value.bool b ∧ EP X pins σ Q (.bool b) s') X.xe s := by
      refine wpAny_call (codeAny_call_builtin S.plain PySem.F.cmpEntry_ne (PySem.W.check_slot PySem.F.cmpKind_ne PySem.F.cmpSplit_ne isO (PySem.F.cmpArgs_ne _ _) (objNe fun w s' z => ?_)))
      obtain ⟨v', H', I', rv, b, rfl, kk⟩ := z
      obtain rfl : w = Value.bool b := rv
      exact ⟨b, rfl, _, rfl, .bl (!b), H', I', rfl, kk⟩
    have fin : wpAny (model X.prog X.w) X.A (call (Value.builtin "object.__ne__") ([Value.ref a] ++ [u]) >>= fun v => pure (some v)) (fun r s' => ∃ b, r = some (Value.bool b) ∧ EP X pins σ Q (.bool b) s') X.xe s :=
      wpAny_bind (wpAny_mono hcall (fun v s' ⟨b, e, h'⟩ => wpAny_pure ⟨b, by rw [e], h'⟩) fun _ _ h' => h')
    have fin2 : ∀ r s', (∃ b, r = some (Value.bool b) ∧ EP X pins σ Q (.bool b) s') → wpAny (model X.prog X.w) X.A (match r with | some .notImplemented => pure none | none => pure none | some v => pure (some v)) (fun r s' => ∃ v, r = some v ∧ EP X pins σ Q v s') X.xe s' := by
      rintro r s' ⟨b, rfl, z⟩
      exact wpAny_pure ⟨_, rfl, z⟩
    split
    · exact wpAny_bind (wpAny_pure (wpAny_pure (wpAny_mono fin fin2 fun _ _ e => e)))
    · exact wpAny_tryCatch (wpAny_bind (wpAny_pure (wpAny_pure (wpAny_mono fin fin2 fun _ _ e => e))))
  unfold compareOp richCompare
  simp only [oneThing_ref]
  refine wpAny_holding (wpAny_bind (wpAny_cRoomFor hr.units0 ?_))
  refine wpAny_bind (J.type.here (wpAny_bind (hl.here ?_)))
  split
  · rename_i q
    have e : PySem.W.subIn X.K tb (.ref C) = some false := by
      rcases Bool.or_eq_true_iff.mp hn with e | e
      · rw [beq_iff_eq.mp e] at q; simp at q
      · exact beq_iff_eq.mp e
    refine wpAny_bind ((PySem.W.looks_subIn KX e).here ?_)
    simp only [Bool.false_eq_true, if_false]
    refine wpAny_bind (wpAny_mono tc (fun r s' z => ?_) fun _ _ e => e)
    obtain ⟨v, rfl, hq⟩ := z
    exact wpAny_pure hq
  · refine wpAny_bind (wpAny_pure ?_)
    simp only [Bool.false_eq_true, if_false]
    refine wpAny_bind (wpAny_mono tc (fun r s' z => ?_) fun _ _ e => e)
    obtain ⟨v, rfl, hq⟩ := z
    exact wpAny_pure hq
end
/-! ## calls by keywords of an instance, of a method -/
section
variable {X : Cx} {CX : CXT} {k : Nat} {f C : Addr} {fd : FuncData} {ps ks : List Str} {sp : Sp} {E : XK} {x m : Str} {p pos apos : Pos} {fe o : Expr} {kws : List Keyword} {tf ta : TE} {tk : TA} {g : List Value → List Value → List Value} {gV : List V → List V → List V}
/-- f(k = v, ..), f an instance -/
def tCallOK (C : Addr) (sp : Sp) (gV : List V → List V → List V) (E : XK) (tf : TE) (tk : TA) : TE := fun σ H Q => tf σ H fun y H1 => ∃ a, y = V.ref a ∧ tk σ H1 fun zs H2 => (∃ dx fs, H2 a = some (.ins C dx fs)) ∧ sp (gV [V.ref a] zs) H2 Q E
theorem run_fnkC {pins : List (Addr × Obj)} {σ : L2.St} {H : Hp} {s : Shared} {Q : VK} {us ws : List Value} {vs zs : List V} (F : FnOk X.prog X.w X.K X.mg X.base CX k f fd ps sp) (hr : Room k X.A) (hb : KBinds X.K fd ps ks g gV) (hx : Passes CX X E)
    (I : Inv X pins σ H s) (r : Vals vs us) (rz : Vals zs ws) (h : sp (gV vs zs) H Q E) : codeAny (model X.prog X.w) X.A (.call (.ref f) ⟨us, ks.zip ws⟩) (fun r s' => match r with | .ok (.ret v) => EP X pins σ Q v s' | .ok _ => False | .error e => X.xe e s') s := by
  have r2 := hb.rel r rz
  have hl : (g us ws).length = ps.length := by rw [← r2.length]; exact F.len _ _ _ _ h
  refine codeAny_mono (F.run X.A X.stack s H ⟨us, ks.zip ws⟩ (g us ws) (gV vs zs) Q E hr I.env0 (hb.to s us ws I.kIn hl) r2 h) fun r s' hq => ?_
  cases r with
  | error e => exact hx pins σ H s e s' I hq
  | ok fl =>
    cases fl with
    | ret u => exact I.after hq
    | next => exact False.elim hq
    | brk => exact False.elim hq
    | cont => exact False.elim hq
theorem pe_callOK {gf : Addr} (hf : PE X fe tf) (c : CallO X.K C gf) (F : FnOk X.prog X.w X.K X.mg X.base CX k gf fd ps sp) (hr : Room k X.A) (hb : KBinds X.K fd ps ks g gV) (hx : Passes CX X E) (hkw : PK X kws tk)
    (ht : eval (.Call fe [] kws pos) X.env = (do callWith pos (← eval fe X.env) [] (backTo pos (starEach [] X.env)) (backToKw pos (keywordEach kws X.env))) := by rfl)
    (hall : (backToKw pos (keywordEach kws X.env)).all (·.1.isSome) = true := by rfl) (hks : (backToKw pos (keywordEach kws X.env)).filterMap (·.1) = ks := by rfl)
    (hpl : ((backTo pos (starEach [] X.env)).any (·.1) || (backToKw pos (keywordEach kws X.env)).any (·.1.isNone)) = false := by rfl) :
    PE X (.Call fe [] kws pos) (tCallOK C sp gV E tf tk) := by
  refine ⟨fun pins s σ H Q I h => ?_⟩
  rw [ht]
  refine wpAny_bind (thn (hf.run pins s σ H _ I h) fun u s1 ⟨y, H1, I1, ry, a, ey, q⟩ => ?_)
  subst ey
  obtain rfl : u = Value.ref a := ry
  unfold callWith
  have step : wpAny (model X.prog X.w) X.A (evalArgs (.ref a) true (backTo pos (starEach [] X.env)) (backToKw pos (keywordEach kws X.env)))
      (fun z s₁ => ∃ ws zs H2, z = ⟨[], ks.zip ws⟩ ∧ Inv X pins σ H2 s₁ ∧ Vals zs ws ∧ (∃ dx fs, H2 a = some (.ins C dx fs)) ∧ sp (gV [V.ref a] zs) H2 Q E) X.xe s1 :=
    evalArgs_kw2_nil hall (thn (hkw.run pos pins s1 σ H1 _ I1 q) fun ws s2 ⟨zs, H2, I2, rz, hi, q2⟩ => ⟨ws, zs, H2, by rw [hks], I2, rz, hi, q2⟩)
  refine wpAny_bind (wpAny_holding (wpAny_mono step (fun z s₁ ⟨ws, zs, H2, ez, I2, rz, ⟨dx, fs, hi⟩, q2⟩ => wpAny_bind (wpAny_standAt ?_)) fun _ _ y => y))
  obtain ⟨od, J⟩ := inst_of I2 hi
  have L := PySem.W.kco_keeper (M := model X.prog X.w) J rfl
  simp only [hpl]
  refine wpAny_bind (L.here ?_)
  have tail : ∀ {t : Sem Value}, wpAny (model X.prog X.w) X.A t (EP X pins σ Q) X.xe s₁ → wpAny (model X.prog X.w) X.A (t >>= fun r => holding [r] point >>= fun _ => pure r) (EP X pins σ Q) X.xe s₁ :=
    fun ht => wpAny_bind (wpAny_mono ht (fun r s₂ hr => wpAny_bind (wpAny_holding (wpAny_point (wpAny_pure hr)))) fun _ _ y => y)
  refine tail (wpAny_operateT ?_)
  subst ez
  exact wpAny_call (PySem.W.kco_code I2.kIn J rfl c.at_ c.fn c.fi (run_fnkC (us := [.ref a]) (vs := [.ref a]) F hr hb hx I2 (.cons rfl .nil) rz q2))
/-- o.m(k = v, ..) -/
def tMethK (C : Addr) (m : Str) (sp : Sp) (gV : List V → List V → List V) (E : XK) (ta : TE) (tk : TA) : TE := fun σ H Q => ta σ H fun x H1 => ∃ a dx fs, x = .ref a ∧ H1 a = some (.ins C dx fs) ∧ fs.lookup m = none ∧ tk σ H1 fun zs H2 => sp (gV [.ref a] zs) H2 Q E
theorem pe_methK {pl : Sem Bool} (he : PE X o ta) (c : Cls X.K C) (hm : Meth X.K C m f) (F : FnOk X.prog X.w X.K X.mg X.base CX k f fd ps sp) (hr : Room k X.A) (hb : KBinds X.K fd ps ks g gV) (hx : Passes CX X E) (hkw : PK X kws tk)
    (hall : (backToKw pos (keywordEach kws X.env)).all (·.1.isSome) = true := by rfl) (hks : (backToKw pos (keywordEach kws X.env)).filterMap (·.1) = ks := by rfl)
    (hpl : ((backTo pos (starEach [] X.env)).any (·.1) || (backToKw pos (keywordEach kws X.env)).any (·.1.isNone)) = false := by rfl)
    (ht : eval (.Call (.Attribute o m apos) [] kws pos) X.env = (do
      let ov ← eval o X.env
      standAt apos.atName
      let (f, first) ← holding [ov] (getMethod ov m pl)
      callWith pos f first (backTo pos (starEach [] X.env)) (backToKw pos (keywordEach kws X.env))) := by rfl) :
    PE X (.Call (.Attribute o m apos) [] kws pos) (tMethK C m sp gV E ta tk) := by
  refine ⟨fun pins s σ H Q I h => ?_⟩
  refine PySem.W.methodCall_KW (pl := pl) (thn (he.run pins s σ H _ I h) fun u s1 ⟨x, H1, I1, rx, a, dx, fs, ex, ea, l, q⟩ => ?_) ht
  subst ex
  obtain rfl : u = Value.ref a := rx
  refine getmeth_ok I1 ea c hm l ?_
  refine PySem.W.callWith_KW0 (first := [.ref a]) (h₀ := X.base) I.ok.mod.kin hm.kp hall (thn (hkw.run pos pins s1 σ H1 _ I1 q) fun ws s2 ⟨zs, H2, I2, rz, q2⟩ => ⟨I2.kIn, ?_⟩) hpl
  rw [hks]
  exact run_fnk (us := [.ref a]) (vs := [.ref a]) F hr hb hx I2 (.cons rfl .nil) rz q2
end
/-! ## their rules over data -/
section
variable {Γ : List Gh} {ρ : Rho} {H : Hp} {R : PX} {te tf : TE} {ta tk : TA} {S : Spc} {E : XK} {C : Addr} {m : Str} {gV : List V → List V → List V} {K : PySem.W.Frag}
theorem w_callO {X : Cx} (h : W Γ tf ρ H fun x H1 => ∃ p, x = .o (.ref p) ∧ WA Γ ta ρ H1 fun xs H2 => (∃ dx fs, H2 p = some (.ins C dx fs)) ∧ CallS S (.o (.ref p) :: xs) H2 E R) : W Γ (tCallO X C (sp S) E tf ta) ρ H R := fun σ H' e s Q q =>
  h σ H' e s _ fun x v H1 H1' k e1 f1 d1 => by
    obtain ⟨p, rfl, k⟩ := k
    cases d1
    exact ⟨p, rfl, k σ H1' e1 (s.ft f1) _ fun xs vs H2 H2' k2 e2 f2 d2 => ⟨.inr (by obtain ⟨⟨dx, fs, hp⟩, _⟩ := k2; exact ⟨dx, fs, e2 _ _ hp⟩), k2.2.go e2 (.cons rfl d2) fun x v H3 H3' k3 e3 f3 d3 => q x v H3 H3' k3 e3 ((f1.trans f2).trans f3) d3⟩⟩
/-- gV as gX on what they stand for -/
def GvOk (gV : List V → List V → List V) (gX : List Dx → List Dx → List Dx) : Prop := ∀ H vs zs xs ys, DxAll H vs xs → DxAll H zs ys → DxAll H (gV vs zs) (gX xs ys)
theorem w_callOK {gX : List Dx → List Dx → List Dx} (hg : GvOk gV gX) (h : W Γ tf ρ H fun x H1 => ∃ p, x = .o (.ref p) ∧ WA Γ tk ρ H1 fun xs H2 => (∃ dx fs, H2 p = some (.ins C dx fs)) ∧ CallS S (gX [.o (.ref p)] xs) H2 E R) : W Γ (tCallOK C (sp S) gV E tf tk) ρ H R := fun σ H' e s Q q =>
  h σ H' e s _ fun x v H1 H1' k e1 f1 d1 => by
    obtain ⟨p, rfl, k⟩ := k
    cases d1
    exact ⟨p, rfl, k σ H1' e1 (s.ft f1) _ fun xs vs H2 H2' k2 e2 f2 d2 => ⟨(by obtain ⟨⟨dx, fs, hp⟩, _⟩ := k2; exact ⟨dx, fs, e2 _ _ hp⟩), k2.2.go e2 (hg _ _ _ _ _ (.cons rfl .nil) d2) fun x v H3 H3' k3 e3 f3 d3 => q x v H3 H3' k3 e3 ((f1.trans f2).trans f3) d3⟩⟩
theorem w_methK {gX : List Dx → List Dx → List Dx} (hg : GvOk gV gX) (h : W Γ te ρ H fun x H1 => ∃ p dx fs, x = .o (.ref p) ∧ H1 p = some (.ins C dx fs) ∧ fs.lookup m = none ∧ WA Γ tk ρ H1 fun xs H2 => CallS S (gX [.o (.ref p)] xs) H2 E R) :
    W Γ (tMethK C m (sp S) gV E te tk) ρ H R := fun σ H' e s Q q =>
  h σ H' e s _ fun x v H1 H1' k e1 f1 d1 => by
    obtain ⟨p, dx, fs, rfl, hp, hl, k⟩ := k
    cases d1
    exact ⟨p, dx, fs, rfl, e1 _ _ hp, hl, k σ H1' e1 (s.ft f1) _ fun xs vs H2 H2' k2 e2 f2 d2 => k2.go e2 (hg _ _ _ _ _ (.cons rfl .nil) d2) fun x v H3 H3' k3 e3 f3 d3 => q x v H3 H3' k3 e3 ((f1.trans f2).trans f3) d3⟩
/-- == of own instances, of an instance and a whole number -/
theorem o2_ownEq {p : Addr} {y : Dx} (hp : ∃ dx fs, H p = some (.ins C dx fs)) (hy : (∃ i, y = .d (.int i)) ∨ ∃ b dx fs, y = .o (.ref b) ∧ H b = some (.ins C dx fs)) (c : CallS S [.o (.ref p), y] H E R) : O2 (rOwnEq K C (sp S) E) (.o (.ref p)) y H R := fun v u H' e d1 d2 Q q => by
  cases d1
  obtain ⟨dx, fs, hp⟩ := hp
  refine ⟨p, dx, fs, rfl, e _ _ hp, ?_, c.go e (.cons rfl (.cons d2 .nil)) q⟩
  rcases hy with ⟨i, rfl⟩ | ⟨b, dy, gs, rfl, hb⟩
  · cases d2
    exact .inl ⟨_, rfl⟩
  · cases d2
    exact .inr ⟨b, dy, gs, rfl, e _ _ hb⟩
theorem o2_ownNe {p : Addr} {y : Dx} (hp : ∃ dx fs, H p = some (.ins C dx fs)) (hy : (∃ i, y = .d (.int i)) ∨ ∃ b dx fs, y = .o (.ref b) ∧ H b = some (.ins C dx fs)) (c : CallS S [.o (.ref p), y] H E fun z H1 => ∃ b, z = .d (.bool b) ∧ R (.d (.bool (!b))) H1) : O2 (rOwnNe K C (sp S) E) (.o (.ref p)) y H R := fun v u H' e d1 d2 Q q => by
  cases d1
  obtain ⟨dx, fs, hp⟩ := hp
  refine ⟨p, dx, fs, rfl, e _ _ hp, ?_, c.go e (.cons rfl (.cons d2 .nil)) fun x w H1 H1' k e1 f1 d3 => ?_⟩
  · rcases hy with ⟨i, rfl⟩ | ⟨b, dy, gs, rfl, hb⟩
    · cases d2
      exact .inl ⟨_, rfl⟩
    · cases d2
      exact .inr ⟨b, dy, gs, rfl, e _ _ hb⟩
  · obtain ⟨b, rfl, k⟩ := k
    cases d3
    exact ⟨b, rfl, q _ _ H1 H1' k e1 f1 (Dq.bl _)⟩
theorem o2_ownIn {p : Addr} {x : Dx} (hp : ∃ dx fs, H p = some (.ins C dx fs)) (c : CallS S [.o (.ref p), x] H E fun z H1 => ∃ b, z = .d (.bool b) ∧ R (.d (.bool b)) H1) : O2 (rOwnIn C (sp S) E) x (.o (.ref p)) H R := fun v u H' e d1 d2 Q q => by
  cases d2
  obtain ⟨dx, fs, hp⟩ := hp
  refine ⟨p, dx, fs, rfl, e _ _ hp, c.go e (.cons rfl (.cons d1 .nil)) fun x w H1 H1' k e1 f1 d3 => ?_⟩
  obtain ⟨b, rfl, k⟩ := k
  cases d3
  exact ⟨b, rfl, q _ _ H1 H1' k e1 f1 (Dq.bl _)⟩
theorem oa_ownLen {p : Addr} (hp : ∃ dx fs, H p = some (.ins C dx fs)) (c : CallS S [.o (.ref p)] H E fun z H1 => ∃ n : Int, z = .d (.int n) ∧ (0 ≤ n ∧ n < 2 ^ 63) ∧ R (.d (.int n)) H1) : OA (rOwnLen C (sp S) E) [.o (.ref p)] H R := fun vs H' e d Q q => by
  cases d with
  | cons a b =>
    cases b
    cases a
    obtain ⟨dx, fs, hp⟩ := hp
    refine ⟨p, dx, fs, rfl, e _ _ hp, c.go e (.cons rfl .nil) fun x w H1 H1' k e1 f1 d3 => ?_⟩
    obtain ⟨n, rfl, hn, k⟩ := k
    cases d3
    exact ⟨n, rfl, hn, q _ _ H1 H1' k e1 f1 (Dq.int _)⟩
/-- x += y -/
theorem o2_ownAdd {p : Addr} {y : Dx} (hp : ∃ dx fs, H p = some (.ins C dx fs)) (c : CallS S [.o (.ref p), y] H E R) : O2 (rOwn2 C (sp S) E) (.o (.ref p)) y H R := fun v u H' e d1 d2 Q q => by
  cases d1
  obtain ⟨dx, fs, hp⟩ := hp
  exact ⟨p, dx, fs, rfl, e _ _ hp, c.go e (.cons rfl (.cons d2 .nil)) q⟩
end
end K2

set_option Elab.async false
set_option linter.all false
set_option maxRecDepth 100000
set_option maxHeartbeats 4000000
/-! ## a clause that names a tuple of classes -/
namespace K2
open PySem L2 PySem.Spec PyProof.Rows
section
variable {M : Model} {A : Around} {E : Value → Shared → Prop} {s : Shared}
theorem forIn_yield {α β : Type} {b : β} {f : α → β → Sem (ForInStep β)} {Q : β → Shared → Prop} : ∀ {l : List α}, (∀ c ∈ l, ∀ Q' : ForInStep β → Shared → Prop, Q' (.yield b) s → wpAny M A (f c b) Q' E s) → Q b s → wpAny M A (forIn l b f) Q E s
  | [], _, q => by
    rw [List.forIn_nil]
    exact wpAny_pure q
  | c :: l, h, q => by
    rw [List.forIn_cons]
    exact wpAny_bind (h c List.mem_cons_self _ (forIn_yield (fun c hc => h c (List.mem_cons_of_mem _ hc)) q))
theorem forIn_any {α β : Type} {b d : β} {f : α → β → Sem (ForInStep β)} {Q : β → Shared → Prop} {g : α → Bool} : ∀ {l : List α}, (∀ c ∈ l, ∀ Q' : ForInStep β → Shared → Prop, Q' (if g c = true then .done d else .yield b) s → wpAny M A (f c b) Q' E s) → Q (if l.any g = true then d else b) s → wpAny M A (forIn l b f) Q E s
  | [], _, q => by
    rw [List.forIn_nil]
    exact wpAny_pure q
  | c :: l, h, q => by
    rw [List.forIn_cons]
    refine wpAny_bind (h c List.mem_cons_self _ ?_)
    cases hg : g c with
    | true =>
      rw [if_pos rfl]
      rw [List.any_cons, hg, Bool.true_or, if_pos rfl] at q
      exact wpAny_pure q
    | false =>
      rw [if_neg Bool.false_ne_true]
      rw [List.any_cons, hg, Bool.false_or] at q
      exact forIn_any (fun c hc => h c (List.mem_cons_of_mem _ hc)) q
end
theorem exmAny_all {K : PySem.W.Frag} {cls : Value} : ∀ {cs : List Value} {b : Bool}, PySem.W.exmAny K cls cs = some b → (∀ c ∈ cs, PySem.W.exmOne K cls c = some ((PySem.W.exmOne K cls c).getD false)) ∧ b = cs.any fun c => (PySem.W.exmOne K cls c).getD false
  | [], b, h => ⟨fun c hc => absurd hc (by simp), (Option.some.inj h).symm⟩
  | c :: r, b, h => by
    obtain ⟨b1, d1, h1, h2, e⟩ := PySem.W.exmAny_cons h
    obtain ⟨i1, i2⟩ := exmAny_all h2
    refine ⟨fun c' hc => ?_, ?_⟩
    · rcases List.mem_cons.mp hc with rfl | hc
      · rw [h1]
        rfl
      · exact i1 c' hc
    · rw [List.any_cons, h1, e, ← i2]
      rfl
theorem exm_tup {M : Model} {K : PySem.W.Frag} {cs : List Value} {cls : Value} {tp e : Addr} {b : Bool} {h : Heap} (X : K.In h) (LT : PySem.W.Looks M h (typeOf (.ref e)) cls) (hp : h.get? tp = some { cls := .type "tuple", data := .seq cs.toArray }) (hx : PySem.W.exmAny K cls cs = some b) :
    PySem.W.Looks M h (excMatches (.ref e) (.ref tp)) b := by
  intro A Q E s k q
  have LT0 : PySem.W.Looks M h (isInstance (.ref tp) (.type "tuple")) true := ((PySem.W.Looks.ld hp).andThen .now).andThen (PySem.W.Looks.of_pure isSubtype_tuple_tuple)
  obtain ⟨h1, h2⟩ := exmAny_all hx
  have hp' := k _ _ hp
  unfold excMatches
  refine wpAny_bind (LT0 _ _ _ _ k ?_)
  rw [if_pos rfl]
  first
    | refine wpAny_bind (wpAny_seqItems hp' rfl ?_)
    | refine wpAny_bind (wpAny_bind (wpAny_seqItems hp' rfl (wpAny_pure ?_)))
  dsimp only [Option.getD_some, Option.getD]
  refine wpAny_bind (wpAny_pure ?_)
  refine wpAny_bind (forIn_yield (fun c hc Q' q' => ?_) ?_)
  · obtain ⟨e1, _⟩ := PySem.W.exm_cls (M := M) X (h1 c hc)
    refine wpAny_bind (e1 _ _ _ _ k ?_)
    simp only [Bool.not_true, Bool.false_eq_true, if_false]
    exact wpAny_pure q'
  · refine wpAny_bind (LT _ _ _ _ k ?_)
    refine wpAny_bind (forIn_any (g := fun c => (PySem.W.exmOne K cls c).getD false) (d := (some true, ())) (fun c hc Q' q' => ?_) ?_)
    · obtain ⟨_, S1⟩ := PySem.W.exm_cls (M := M) X (h1 c hc)
      refine wpAny_bind (S1 _ _ _ _ k ?_)
      cases hg : (PySem.W.exmOne K cls c).getD false with
      | true =>
        rw [hg, if_pos rfl] at q'
        simp only [if_true]
        exact wpAny_pure q'
      | false =>
        rw [hg, if_neg Bool.false_ne_true] at q'
        simp only [Bool.false_eq_true, if_false]
        exact wpAny_pure q'
    · rw [← h2]
      cases b with
      | true =>
        simp only [if_true]
        exact wpAny_pure q
      | false =>
        simp only [Bool.false_eq_true, if_false]
        exact wpAny_pure q
/-! ## an exception that is kept -/
/-- at a: an exception's object -/
def exK (a : Addr) (oe : Obj) : HO := .ext fun h => h.get? a = some oe
theorem exK_at {P : Program} {w : World} {H : Hp} {h : Heap} {a : Addr} {oe : Obj} (hok : HOk P w H h) (he : H a = some (exK a oe)) : h.get? a = some oe := by
  have x : ObjOk P w H h a (.ext fun h => h.get? a = some oe) := hok a _ he
  exact x.1
section
variable {X : Cx} {pins : List (Addr × Obj)} {σ : L2.St} {H : Hp} {s : Shared}
theorem _root_.L2.Inv.track {a : Addr} {oe : Obj} (I : Inv X ((a, oe) :: pins) σ H s) (n0 : X.s_0.heap.get? a = none) (np : ∀ p ∈ X.pn ++ pins, p.1 ≠ a) : Inv X pins σ (upd H a (exK a oe)) s := by
  obtain ⟨ha, na, nL, nF, nc⟩ := I.pin (a, oe) (List.mem_append_right _ List.mem_cons_self)
  have ne : ∀ {b : Addr} {u : HO}, H b = some u → b ≠ a := fun {b u} e z => by
    rw [z, na] at e
    cases e
  refine ⟨I.ok, I.os, I.bare, ⟨I.base.keep, I.base.slot, fun b o e n hx => ?_, I.base.there, fun b xs e => ?_, fun b o u e => ?_, fun b ps e => ?_⟩, I.loc, I.cell, ?_, fun x c e => ?_, fun p hp => ?_, fun b u e => ?_, I.len⟩
  · have hb : b ≠ a := fun z => by
      rw [z, n0] at e
      cases e
    rw [upd_ne hb]
    exact I.base.free b o e n hx
  · have z := I.base.tups b xs e
    rw [upd_ne (ne z)]
    exact z
  · have z := I.base.frzs b o u e
    rw [upd_ne (ne z)]
    exact z
  · obtain ⟨m, z⟩ := I.base.tbls b ps e
    exact ⟨m, by rw [upd_ne (ne z)]; exact z⟩
  · rw [upd_ne (Ne.symm nL)]
    exact I.free
  · rw [upd_ne (fun z => ?_)]
    · exact I.freeC x c e
    · obtain ⟨v, o, ho, hd⟩ := I.cell x c e
      rw [z, ha] at ho
      cases ho
      exact nc v hd
  · obtain ⟨h1, h2, h3, h4, h5⟩ := I.pin p (by
      rcases List.mem_append.mp hp with z | z
      · exact List.mem_append_left _ z
      · exact List.mem_append_right _ (List.mem_cons_of_mem _ z))
    exact ⟨h1, by rw [upd_ne (np p hp)]; exact h2, h3, h4, h5⟩
  · by_cases hb : b = a
    · subst hb
      rw [upd_same] at e
      cases e
      exact ⟨ha, ⟨_, ha⟩, fun h1 h2 z k => k _ z⟩
    · rw [upd_ne hb] at e
      exact (I.hok b u e).stay (fun c v _ z => z) (fun c hc => by rw [upd_ne (ne hc)]; exact hc) (fun c xs hc => by rw [upd_ne (ne hc)]; exact hc)
theorem _root_.L2.Inv.unsuite' {a : Addr} {oe : Obj} {pn' : List (Addr × Obj)} (I : Inv (X.suite a ((a, oe) :: (X.pn ++ pins))) pn' σ H s) (ok : X.Ok) : Inv X ((a, oe) :: pins) σ H s :=
  ⟨ok, I.os, I.bare, I.base, I.loc, I.cell, I.free, I.freeC, fun p hp => I.pin p (List.mem_append_left _ (by
    rcases List.mem_append.mp hp with z | z
    · exact List.mem_cons_of_mem _ (List.mem_append_left _ z)
    · rcases List.mem_cons.mp z with z | z
      · rw [z]
        exact List.mem_cons_self
      · exact List.mem_cons_of_mem _ (List.mem_append_right _ z))), I.hok, I.len⟩
end
/-- names that stand for classes -/
inductive NmE (X : Cx) : List Expr → List Value → Prop
  | nil : NmE X [] []
  | cons {x : Str} {c : Value} {np : Pos} {es : List Expr} {cs : List Value} (h : Names X x c) (r : NmE X es cs) : NmE X (.Name x np :: es) (c :: cs)
abbrev Cla := List Value × (Addr → Value → Option Addr → TS)
/-- what the clauses wish: i: the name's slot; behind the suite the exception is kept -/
def wTup (K : PySem.W.Frag) (i : Nat) (D : Ends) : List Cla → WX
  | [] => fun _ _ _ _ => False
  | (cs, ts) :: r => fun cls d σ H => ∃ b, PySem.W.exmAny K cls cs = some b ∧
      (b = true → ∀ a oe, H a = none → Zc cls d oe → (∃ vs, oe.data = .fields vs) → ts a cls d { nx := fun σ' H' => D.nx (σ'.set i none) (upd H' a (exK a oe)), rt := fun _ _ => False, bk := fun _ _ => False, ct := fun _ _ => False } (σ.set i (some (.ref a))) H) ∧ (b = false → wTup K i D r cls d σ H)
inductive ClOk (X : Cx) (n : Str) : List ExceptHandler → List Cla → Prop
  | nil : ClOk X n [] []
  | cons {cs : List Value} {ts : Addr → Value → Option Addr → TS} {es : List Expr} {j : Nat} {b₀ : Stmt} {suite : List Stmt} {np pos' : Pos} {hds : List ExceptHandler} {l : List Cla} (hc : NmE X es cs) (hz : cs.length ≤ 100)
      (hsu : ∀ (a : Addr) (oe : Obj) (cls : Value) (d : Option Addr) (pn : List (Addr × Obj)), Zc cls d oe → (∃ vs, oe.data = .fields vs) → PSs (X.suite a ((a, oe) :: pn)) (b₀ :: suite) (ts a cls d)) (r : ClOk X n hds l) :
      ClOk X n (.ExceptHandler (some (.Tuple es j np)) (some n) (b₀ :: suite) pos' :: hds) ((cs, ts) :: l)
theorem flying_keeps {base h h' : Heap} {l : List Env} {e : Addr} {Z : Obj → Prop} (R : HandSPX.FlyingZ base l e Z h) (k : ∀ b o, h.get? b = some o → h'.get? b = some o) : HandSPX.FlyingZ base l e Z h' := by
  obtain ⟨f1, f2, f3, oe, vs, T, oT, ts, he, hz, hd, h1, hn, hne, hT, hdT, h3⟩ := R
  exact ⟨fun b o q => k _ _ (f1 b o q), f2, f3.of_keeps fun b o q _ => ⟨o, k _ _ q, rfl⟩, oe, vs, T, oT, ts, k _ _ he, hz, hd, h1, hn, hne, k _ _ hT, hdT, h3⟩
section
variable {X : Cx} {n : Str} {i : Nat} {body : List Stmt} {h₀ : ExceptHandler} {hds : List ExceptHandler} {l : List Cla} {pos : Pos} {tb : WX → TS}
theorem ps_try_tup (hs : X.stack = X.env :: X.outer) (hf : X.env.frame = some X.env.locals) (hex : X.ex = []) (hN : X.N.Nodup) (hi : X.N[i]? = some n) (hln : X.env.kindOf n = some .local)
    (hb : ∀ (W : WX) (pn : List (Addr × Obj)) (xe : Value → Shared → Prop), Takes (X.tr pn xe) W → PassesOwn (model X.prog X.w) X.A X.env xe → PSs (X.tr pn xe) body (tb W))
    (hh : ClOk X n (h₀ :: hds) l) : PS X (.Try body (h₀ :: hds) [] [] pos) (fun D σ H => tb (wTup X.K i D l) D σ H) := by
  refine ⟨fun pins s σ H D I h => ?_⟩
  have ok := I.ok
  have hfr : X.A.frames = some (X.env :: X.outer) := by rw [ok.frames, hs]
  have hloc : Loc X.env.scope n := .inl hln
  refine wpAny_Try_except ?_
  refine wpAny_mono ((hb (wTup X.K i D l) (X.pn ++ pins) (fun e s₁ => wpAny (model X.prog X.w) X.A (noteFrame e X.env) (fun _ s₂ => wpAny (model X.prog X.w) X.A (setFlight e none) (fun _ s₃ =>
    wpAny (model X.prog X.w) X.A (handleBy e X.env (h₀ :: hds)) (SP X pins D) X.xe s₃) X.xe s₂) X.xe s₁) (fun u s' xx => ?_) PassesOwn.looking).run [] s σ H D (I.toTry _) h) (fun f s1 hsp => ?_) (fun e s1 he => he)
  · obtain ⟨a, B, sI, pins', σ', H', cls, d, rfl, J', nb, up, sky, na, os, ag, w⟩ := xx
    have J : Inv X pins σ' H' sI := J'.ofTry ok
    have sky' : Sky B (X.env :: X.outer) a (Zc cls d) X.env.locals s'.heap := by rw [← hs]; exact sky
    show wpAny (model X.prog X.w) X.A (noteFrame (.ref a) X.env) _ _ _
    refine Sky.land Zc.steady hfr hf sky' fun h3 fl3 up3 => ?_
    have notFr : ∀ {h : Heap} {o : Obj} {vs : Array Value}, h.FunFrames B (X.env :: X.outer) → h.get? a = some o → o.data = .fields vs → a ∉ frs (X.env :: X.outer) := fun {h o vs} ff e dd hm => by
      obtain ⟨_, o', e', hnf⟩ := ff.mem hm
      rw [e] at e'; cases e'
      exact hnf _ dd
    obtain ⟨oe3, vs3, he3, hz3, hd3⟩ := fl3.there
    have nfr := notFr fl3.2.2.1 he3 hd3
    have nI : sI.heap.get? a = none := by
      cases q : sI.heap.get? a with
      | none => rfl
      | some o =>
        have z := nb a o q (by rw [hs]; exact nfr)
        rw [fl3.2.1] at z
        cases z
    have n0 : X.s_0.heap.get? a = none := by
      cases q : X.s_0.heap.get? a with
      | none => rfl
      | some o =>
        obtain ⟨o', z⟩ := J.base.there a o q (by rw [hex]; simp)
        rw [nI] at z
        cases z
    have np : ∀ p ∈ X.pn ++ pins, p.1 ≠ a := fun p hp z => by
      obtain ⟨h1, _⟩ := J.pin p hp
      rw [z, nI] at h1
      cases h1
    have nL : a ≠ X.env.locals := fun z => nfr (List.mem_filterMap.mpr ⟨X.env, List.mem_cons_self, by rw [hf, z]⟩)
    have nF : a ∉ X.fs := fun hm => by
      obtain ⟨e, he, q⟩ := List.mem_filterMap.mp hm
      exact nfr (List.mem_filterMap.mpr ⟨e, List.mem_cons_of_mem _ he, q⟩)
    have go : ∀ {hds' : List ExceptHandler} {l' : List Cla}, ClOk X n hds' l' → ∀ h3, HandSPX.FlyingZ B (X.env :: X.outer) a (Zc cls d) h3 → sI.heap.UpToSlots h3 → wTup X.K i D l' cls d σ' H' →
        wpAny (model X.prog X.w) X.A (handleBy (.ref a) X.env hds') (SP X pins D) X.xe { s' with heap := h3 } := by
      intro hds' l' hk
      induction hk with
      | nil =>
        intro _ _ _ w
        exact w.elim
      | @cons cs ts es j b₀ suite np2 pos' hds2 l2 hc hzc hsu r ih =>
        intro h3 fl3 up3 w
        obtain ⟨b, hb1, hyes, hno⟩ := w
        have J3 : Inv X pins σ' H' { s' with heap := h3 } := J.landed nb fl3.1 up3 os ag
        obtain ⟨oe3, vs3, he3, hz3, hd3⟩ := fl3.there
        have S3 := J3.suite he3 hd3 na nL nF
        refine wpAny_handleBy_cons (codeAny_handlers_test ?_) (by intro q; cases q)
        have names : ∀ {es : List Expr} {cs : List Value}, NmE X es cs → ∀ (Q : List Value → Shared → Prop) (E : Value → Shared → Prop), Q cs { s' with heap := h3 } → wpAny (model X.prog X.w) (X.A.mark (some (.ref a))) (spliced (backTo np2 (starEach es X.env))) Q E { s' with heap := h3 } := by
          intro es cs hn
          induction hn with
          | nil =>
            intro Q E q
            exact wpAny_items_nil q
          | @cons x c np es cs hc _ ih =>
            intro Q E q
            obtain ⟨hg, hdbg, hm | ⟨hm, hv, hnn⟩⟩ := hc
            · exact wpAny_items_cons (ld_glob (X := X.suite a ((a, oe3) :: (X.pn ++ pins))) S3 hg hm (ih _ _ q) hdbg)
            · exact wpAny_items_cons (ld_blt (X := X.suite a ((a, oe3) :: (X.pn ++ pins))) S3 hg hm hv (ih _ _ q) hnn hdbg)
        have hz : cs.length ≤ sizeLine := Nat.le_trans hzc (by decide)
        refine wpAny_Tuple (names hc _ _ ⟨hz, ?_⟩)
        have kp : ∀ q o, h3.get? q = some o → (h3.push { cls := .type "tuple", data := .seq cs.toArray }).get? q = some o := fun _ _ z => Heap.get?_push_of_some _ z
        have fl3' := flying_keeps fl3 kp
        have up3' : sI.heap.UpToSlots (h3.push { cls := .type "tuple", data := .seq cs.toArray }) := up3.trans (Heap.UpToSlots.of_keeps kp)
        have LT : PySem.W.Looks (model X.prog X.w) (h3.push { cls := .type "tuple", data := .seq cs.toArray }) (typeOf (.ref a)) cls := fun A Q E s k q => wpAny_typeOf_ref (k _ _ (kp _ _ he3)) (by rw [hz3.1]; exact q)
        have LM := exm_tup (M := model X.prog X.w) ((J3.kIn).keeps kp) LT (Heap.get?_push_size h3 rfl) hb1
        refine LM.here ?_
        cases b with
        | true =>
          refine codeAny_handlers_suite_as ?_
          refine HandSPX.lands_againZ fl3' fun h4 fl4 up4 => ?_
          have J4 : Inv X pins σ' H' { s' with heap := h4 } := J.landed nb fl4.1 (up3'.trans up4) os ag
          obtain ⟨oe4, vs4, he4, hz4, hd4⟩ := fl4.there
          have S4 := J4.suite he4 hd4 na nL nF
          refine store_ok (X := X.suite a ((a, oe4) :: (X.pn ++ pins))) (v := .ref a) S4 hN hi hloc rfl (fun s5 S5 => ?_) (.inr hln)
          refine wpAny_mono ((hsu a oe4 cls d (X.pn ++ pins) hz4 ⟨_, hd4⟩).run [] s5 _ H' _ S5 (hyes rfl a oe4 na hz4 ⟨_, hd4⟩)) (fun f s6 hsp => ?_) (fun _ _ z => False.elim z)
          cases f with
          | next =>
            obtain ⟨σ6, H6, S6, q6⟩ := hsp
            exact gone_ok (S6.unsuite' ok) hN hi hln fun s7 J7 => ⟨_, _, J7.track n0 np, q6⟩
          | brk =>
            obtain ⟨σ6, H6, S6, q6⟩ := hsp
            exact q6.elim
          | cont =>
            obtain ⟨σ6, H6, S6, q6⟩ := hsp
            exact q6.elim
          | ret u =>
            obtain ⟨v6, σ6, H6, S6, r6, q6⟩ := hsp
            exact q6.elim
        | false =>
          show wpAny _ X.A (handleBy (.ref a) X.env hds2) _ _ _
          exact ih _ fl3' up3' (hno rfl)
    exact go hh h3 fl3 (up.trans up3) w
  · cases f with
    | next =>
      obtain ⟨σ', H', J', q⟩ := hsp
      exact wpAny_execs_nil ⟨σ', H', J'.ofTry ok, q⟩
    | brk =>
      obtain ⟨σ', H', J', q⟩ := hsp
      exact ⟨σ', H', J'.ofTry ok, q⟩
    | cont =>
      obtain ⟨σ', H', J', q⟩ := hsp
      exact ⟨σ', H', J'.ofTry ok, q⟩
    | ret u =>
      obtain ⟨v, σ', H', J', r, q⟩ := hsp
      exact ⟨v, σ', H', J'.ofTry ok, r, q⟩
end
end K2

set_option Elab.async false
set_option linter.all false
set_option maxRecDepth 100000
set_option maxHeartbeats 4000000
/-! ## own exceptions over any base, their __init__ walked -/
namespace K2
open PySem L2 PySem.Spec PyProof.Rows
open Builtin Builtin.ObjectAttr
theorem refsB_cases {bmB : List Value} : ∀ l : List Value, refsB bmB l = true → (∃ c r, l = .ref c :: r ∧ refsB bmB r = true) ∨ l = bmB
  | [], e => .inr (beq_iff_eq.mp e)
  | a :: r, e => by
    cases a with
    | ref c => exact .inl ⟨c, r, rfl, e⟩
    | _ => exact .inr (beq_iff_eq.mp e)
theorem refsB_pass {bmB : List Value} (hp : ∀ self, refuseLoop self "__setattr__" bmB = pure ()) (self : Value) : ∀ l : List Value, refsB bmB l = true → refuseLoop self "__setattr__" l = pure ()
  | [], e => by
    rcases refsB_cases [] e with ⟨_, _, q, _⟩ | q
    · cases q
    · rw [q]
      exact hp self
  | a :: r, e => by
    rcases refsB_cases (a :: r) e with ⟨c, r', q, h⟩ | q
    · obtain ⟨rfl, rfl⟩ := List.cons.inj q
      rw [refuseLoop_ref]
      exact refsB_pass hp self r h
    · rw [q]
      exact hp self
theorem refsB_contains {bmB : List Value} (X : String) : ∀ l : List Value, refsB bmB l = true → l.contains (.type X) = bmB.contains (.type X)
  | [], e => by
    rcases refsB_cases [] e with ⟨_, _, q, _⟩ | q
    · cases q
    · rw [q]
  | a :: r, e => by
    rcases refsB_cases (a :: r) e with ⟨c, r', q, h⟩ | q
    · obtain ⟨rfl, rfl⟩ := List.cons.inj q
      rw [List.contains_cons, refsB_contains X r h]
      rfl
    · rw [q]
/-- what the written part says of the class at C, over the built-in class B -/
structure OexG (K : PySem.W.Frag) (C : Addr) (newId : String) (bmB : List Value) : Prop where
  cls : ∃ nm q N bs bm sn sub ab col dd k0 k1 k2 k3 k5, K.lookup C = some (excClassObj nm q C N bs bm true sn sub ab col dd k0 k1 k2 k3 k5 newId) ∧ refsB bmB bm = true
  sa : PySem.W.findIn K (.ref C) "__setattr__" = some (some (.builtin "object.__setattr__"))
  exC : PySem.W.subIn K (.ref C) (.type "BaseException") = some true
  tyC : PySem.W.typeIn K (.ref C) = some (.type "type")
  kC : PySem.W.keepIn K (.ref C) = true
/-- what the base brings -/
structure BaseG (B newId initId : String) (bmB : List Value) : Prop where
  F : ExcBaseFacts B newId initId bmB
  pass : ∀ self, refuseLoop self "__setattr__" bmB = pure ()
  obj : bmB.contains (.type "object") = true
theorem baseVE : BaseG "ValueError" "ValueError.__new__" "ValueError.__init__" veB := ⟨PySem.F.excBase_ValueError, PySem.F.store_ValueError.passes, by decide +kernel⟩
theorem baseRT : BaseG "RuntimeError" "RuntimeError.__new__" "RuntimeError.__init__" rtB := ⟨PySem.F.excBase_RuntimeError, fun self => by kernel_rfl, by decide +kernel⟩
section
variable {prog : Program} {w : World} {A : Around} {E : Value → Shared → Prop} {R : Result → Shared → Prop} {hp : Heap} {g : Array GenState} {d : Drawn} {t : Nat} {os : OsState}
theorem osaG {K : W.Frag} {B newId initId : String} {bmB : List Value} {name : Str} {tk : Tok} {v : Value} {x C : Addr} {fv : Array Value} {cd : ClassData} (G : BaseG B newId initId bmB)
    (X : K.In hp) (hx : hp.get? x = some { cls := .ref C, data := .fields fv }) (hcd : W.clsIn K C = some cd) (hm : refsB bmB cd.mro = true) (hem : cd.mro.isEmpty = false) (hh : cd.hasDict = true) (ha : W.findIn K (.ref C) name = some none)
    (hq : ∀ h' tk' dx, (∀ b o, b ≠ x → hp.get? b = some o → h'.get? b = some o) → hp.objs.size ≤ dx → dx ≠ x → h'.get? x = some { cls := .ref C, dict := some dx, data := .fields fv } →
      h'.Ns1 dx (fun y => if y = name then some v else none) → R (.ok (.ret .none)) ⟨h', g, d, tk', os⟩) :
    codeAny (model prog w) A (.call (.builtin "object.__setattr__") ⟨[.ref x, .str name tk, v], []⟩) R ⟨hp, g, d, t, os⟩ := by
  have I : W.InstAt hp x { cls := .ref C, data := .fields fv } C none := ⟨hx, rfl, rfl, trivial⟩
  have SF := PySem.F.store_object
  have hob : cd.mro.contains (.type "object") = true := (refsB_contains "object" _ hm).trans G.obj
  have hxs : x ≠ hp.objs.size := Nat.ne_of_lt (Heap.lt_size hx)
  have sub : W.Looks (model prog w) hp (isInstance (.ref x) (.type "object")) true := I.type.andThen (W.looks_mroIn X (by unfold W.mroIn; rw [hcd, Option.bind_some, if_neg (by rw [hem]; decide), hob]))
  refine codeAny_call_builtin SF.slot.plain SF.entry (@W.check_slot (model prog w) _ _ ⟨hp, g, d, t, os⟩ "object.__setattr__" "object" "__setattr__" (.ref x) [.str name tk, v] [] _ SF.kind SF.split sub (SF.args (.ref x) (.str name tk) v) ?_)
  have hmr : W.Looks (model prog w) hp (mroOf (.ref C)) cd.mro := (W.looks_clsIn X hcd).andThen .now
  have L3 : W.Looks (model prog w) hp (storeTaker? none) none := .now
  have hcls : W.Looks (model prog w) hp (classData C) cd := W.looks_clsIn X hcd
  rw [W.osa_eq, refuse_eq]
  refine wpAny_bind (wpAny_bind (I.type.at (wpAny_bind (hmr.at ?_))))
  rw [refsB_pass G.pass _ _ hm]
  refine wpAny_pure (wpAny_bind (I.type.at (wpAny_bind ((W.looks_findIn X ha).at (wpAny_bind (L3.at ?_))))))
  show wpAny _ _ (storeInOwnDict (.ref x) (.ref C) (.str name tk) name v false) _ _ _
  obtain ⟨nm, bs, mro, ns, qn, hd, sn, sb, ab, col, del⟩ := cd
  dsimp only at hh
  subst hh
  unfold storeInOwnDict ownDictForStores
  repeat (first | with_reducible refine PySem.HandSPX.store_in_new ?_ ?_ | with_reducible refine wpAny_loadPart_at hx ?_ | with_reducible refine hcls.at ?_ | wp_step)
  · exact ⟨_, #[], _, (Heap.get?_update_ne _ _ _ _ hxs.symm).trans (Heap.get?_push_at rfl rfl), rfl, fun e he => absurd he (by simp), fun _ => rfl⟩
  · intro h' tk' hn' hs
    have hx₁ : (hp.push { cls := .type "dict", data := .dict #[] }).get? x = some { cls := .ref C, data := .fields fv } := Heap.get?_push_of_some _ hx
    refine hq h' tk' hp.objs.size (fun b o hb ho => ?_) (Nat.le_refl _) hxs.symm ?_ hn'
    · exact (hs.2 b (Nat.ne_of_lt (Heap.lt_size ho))).trans ((Heap.get?_update_ne _ _ _ _ hb).trans (Heap.get?_push_of_some _ ho))
    · exact (hs.2 x hxs).trans (Heap.get?_update_self _ hx₁ rfl)
end
section
variable {X : Cx} {pins : List (Addr × Obj)} {σ : L2.St} {H : Hp} {s : Shared} {a C : Addr} {f : Str} {y : V} {u : Value} {E : Value → Shared → Prop} {A : Around} {B newId initId : String} {bmB : List Value}
theorem ostG {Q : Unit → Shared → Prop} (G : BaseG B newId initId bmB) (T : OexG X.K C newId bmB) (I : Inv X pins σ H s) (e : H a = some (exo a C none)) (hno : PySem.W.findIn X.K (.ref C) f = some none) (ry : RelV y u)
    (h : ∀ dx s', H dx = none → dx ≠ a → Inv X pins σ (upd (upd H dx (exd dx [(f, y)])) a (exo a C (some dx))) s' → Q () s') : wpAny (model X.prog X.w) A (setAttr (.ref a) f u) Q E s := by
  obtain ⟨nm, q, N, bs, bm, sn, sub, ab, col, dd, k0, k1, k2, k3, k5, hC, hbm⟩ := T.cls
  have hcl : PySem.W.clsIn X.K C = some { name := nm, bases := bs, mro := .ref C :: bm, ns := N, qualname := q, hasDict := true, slotNames := sn, subclasses := sub, abstract := ab, collection := col, hasDel := false } := by unfold PySem.W.clsIn; rw [hC] <;> rfl
  obtain ⟨t1, ho⟩ := exo_at I.hok e
  obtain ⟨hp, g, d, t, os⟩ := s
  refine PySem.W.set_plain I.kIn (ox := { cls := .ref C, dict := none, data := .fields #[.ref t1, .none, .none, .none, .bool false, .none] }) (od := none) ⟨ho, rfl, rfl, trivial⟩ T.sa ?_
  refine osaG G I.kIn ho hcl (show refsB bmB (.ref C :: bm) = true from hbm) rfl rfl hno (fun h' tk' dx k dn dne hx hn => ?_)
  have hnd : H dx = none := I.hok.fresh dn
  have nd : ∀ {b : Addr} {o : Obj}, hp.get? b = some o → b ≠ dx := fun {b o} q => Nat.ne_of_lt (Nat.lt_of_lt_of_le (Heap.lt_size q) dn)
  have na : ∀ {b : Addr}, H b = none → b ≠ a := fun {b} n z => by
    rw [z, e] at n
    cases n
  have Un1 : Un X.fs [] H (upd (upd H dx (exd dx [(f, y)])) a (exo a C (some dx))) hp h' := {
    keep := fun b o q n _ _ => k b o (na n) q
    slot := fun b o q n _ _ => ⟨o.slots, k b o (na n) q⟩
    free := fun b o q n _ => by rw [upd_ne (na n), upd_ne (nd q)]; exact n
    there := fun b o q _ => by
      by_cases hb : b = a
      · exact ⟨_, by rw [hb]; exact hx⟩
      · exact ⟨o, k b o hb q⟩
    tups := fun b xs q => by rw [upd_ne (at_ne e q exo_tup), upd_ne (ne_of_none q hnd)]; exact q
    frzs := fun b o v q => by rw [upd_ne (at_ne e q exo_frz), upd_ne (ne_of_none q hnd)]; exact q
    tbls := fun b ps q => ⟨#[], by rw [upd_ne (at_ne e q exo_tbl), upd_ne (ne_of_none q hnd), q]; simp⟩ }
  refine h dx _ hnd dne (I.un (t' := tk') Un1 fun b o q => ?_)
  by_cases hb : b = a
  · subst hb
    rw [upd_same] at q
    cases q
    exact exo_ok hx
  · rw [upd_ne hb] at q
    by_cases hd : b = dx
    · subst hd
      rw [upd_same] at q
      cases q
      exact exd_ok hn (relO_put (fs := []) ry fun g => True.intro)
    · rw [upd_ne hd] at q
      exact (I.hok b o q).stay (fun c v hc z => k c v (by
          rcases hc with hc | hc
          · rw [hc]
            exact hb
          · exact at_ne e hc exo_own) z)
        (fun c hc => by rw [upd_ne (at_ne e hc exo_own), upd_ne (ne_of_none hc hnd)]; exact hc) (fun c xs hc => by rw [upd_ne (at_ne e hc exo_tup), upd_ne (ne_of_none hc hnd)]; exact hc)
theorem initG {us : List Value} {Q : Value → Shared → Prop} (G : BaseG B newId initId bmB) (T : OexG X.K C newId bmB) (I : Inv X pins σ H s) (e : H a = some (exo a C none)) (hl : us.length ≤ sizeLine) (h : ∀ s', Inv X pins σ H s' → Q .none s') :
    wpAny (model X.prog X.w) A (call (.builtin initId) (.ref a :: us)) Q E s := by
  obtain ⟨nm, q, N, bs, bm, sn, sub, ab, col, dd, k0, k1, k2, k3, k5, hC, hbm⟩ := T.cls
  obtain ⟨t1, ho⟩ := exo_at I.hok e
  obtain ⟨hp, g, d, t, os⟩ := s
  refine wpAny_call (PySem.HandSPX.init_base G.F (fun Y => refsB_contains Y bm hbm) (I.kIn _ _ hC) ho hl fun h' t2 k hx => ?_)
  have J := I.write (t' := t) (x := a) (e := a) (o := exo a C none) (by rw [e]; exact True.intro) (.inl rfl) k ⟨_, hx⟩ (exo_ok hx)
  have eu : upd H a (exo a C none) = H := by
    funext b
    by_cases hb : b = a
    · rw [hb, upd_same, e]
    · rw [upd_ne hb]
  rw [eu] at J
  exact h _ J
end
/-! ### readings -/
/-- B.__init__(self, ..) -/
def tBi (C : Addr) (ta : TA) : TE := fun σ H Q => ta σ H fun vs H1 => ∃ (a : Addr) (ws : List V), vs = .ref a :: ws ∧ ws.length ≤ 1000 ∧ H1 a = some (exo a C none) ∧ Q .non H1
/-- self.f = e, the first -/
def tOs1 (C : Addr) (f : Str) (to te : TE) : TS := fun D σ H => te σ H fun y H1 => to σ H1 fun x H2 => ∃ a : Addr, x = .ref a ∧ H2 a = some (exo a C none) ∧ ∀ dx, H2 dx = none → dx ≠ a → D.nx σ (upd (upd H2 dx (exd dx [(f, y)])) a (exo a C (some dx)))
section
variable {X : Cx} {o e : Expr} {es : List Expr} {to te : TE} {ta : TA} {f x : Str} {p p' p1 p2 pos : Pos} {C S : Addr} {mc : Value} {B newId initId : String} {bmB : List Value}
theorem init_tail {pins : List (Addr × Obj)} {s : Shared} {σ : L2.St} {H : Hp} {Q : VK} (G : BaseG B newId initId bmB) (T : OexG X.K C newId bmB) (ha : PA X (e :: es) ta) (I : Inv X pins σ H s) (h : tBi C ta σ H Q)
    (he : starEach (e :: es) X.env = (false, eval e X.env) :: starEach es X.env) (hpl : (backTo pos (starEach es X.env)).any (·.1) = false) :
    wpAny (model X.prog X.w) X.A (callWith pos (Value.builtin initId) [] (backTo pos (starEach (e :: es) X.env)) []) (EP X pins σ Q) X.xe s := by
  refine PyProof.Rows.callWith_method1 (thn (ha.run pos pins _ σ H _ I h) fun us s1 ⟨vs, H1, I1, r1, a, ws, ev, hl, ea, q⟩ => ?_) he hpl
  subst ev
  cases r1 with
  | @cons _ u0 _ ur ra rw' =>
    obtain rfl : u0 = Value.ref a := ra
    have hlen : ur.length ≤ sizeLine := by
      rw [← Paired.length rw', sizeLine_eq]
      omega
    exact initG G T I1 ea hlen fun s' J => ⟨.non, H1, J, rfl, q⟩
/-- S.__init__(self, ..), S an own class that has its base's -/
theorem pe_initOwn {pl : Sem Bool} (G : BaseG B newId initId bmB) (T : OexG X.K C newId bmB) (hg : Gl X x) (hm : X.mg x = some (.ref S)) (hr : ClX.CRead X.K S mc) (hhi : PySem.W.handedIn (.builtin initId) = true) (hv : PySem.W.findCls X.K (.ref S) mc "__init__" = some (.val (.builtin initId))) (ha : PA X (e :: es) ta) (hdb : (x == ("__debug__" : Str)) = false := by decide)
    (hc : eval (.Call (.Attribute (.Name x p1) "__init__" p2) (e :: es) [] pos) X.env = (do
      let ov ← eval (.Name x p1) X.env
      standAt p2.atName
      let (f, first) ← holding [ov] (getMethod ov "__init__" pl)
      callWith pos f first (backTo pos (starEach (e :: es) X.env)) (backToKw pos (keywordEach [] X.env))) := by rfl)
    (he : starEach (e :: es) X.env = (false, eval e X.env) :: starEach es X.env := by rfl) (hpl : (backTo pos (starEach es X.env)).any (·.1) = false := by rfl) :
    PE X (.Call (.Attribute (.Name x p1) "__init__" p2) (e :: es) [] pos) (tBi C ta) := by
  refine ⟨fun pins s σ H Q I h => ?_⟩
  refine PySem.W.methodCall_KW (ld_glob I hg hm ?_ hdb) hc
  refine PySem.W.method_cls I.kIn hr.ga (PySem.W.cls_value I.kIn hr.rd hv hhi ?_)
  exact init_tail G T ha (I.tok _) h he hpl
/-- B.__init__(self, ..), B built in -/
theorem pe_initBlt {pl : Sem Bool} (G : BaseG B newId initId bmB) (T : OexG X.K C newId bmB) (hg : Gl X x) (hm : X.mg x = none) (hb : bootBuiltins x = some (.type B)) (hn : x ≠ "__name__") (ht : typeOf (.type B) = pure (.type "type")) (hs : Manifest.isStub B = false) (hhi : PySem.W.handedIn (.builtin initId) = true)
    (hv : PySem.W.findCls X.K (.type B) (.type "type") "__init__" = some (.val (.builtin initId))) (ha : PA X (e :: es) ta) (hdb : (x == ("__debug__" : Str)) = false := by decide)
    (hc : eval (.Call (.Attribute (.Name x p1) "__init__" p2) (e :: es) [] pos) X.env = (do
      let ov ← eval (.Name x p1) X.env
      standAt p2.atName
      let (f, first) ← holding [ov] (getMethod ov "__init__" pl)
      callWith pos f first (backTo pos (starEach (e :: es) X.env)) (backToKw pos (keywordEach [] X.env))) := by rfl)
    (he : starEach (e :: es) X.env = (false, eval e X.env) :: starEach es X.env := by rfl) (hpl : (backTo pos (starEach es X.env)).any (·.1) = false := by rfl) :
    PE X (.Call (.Attribute (.Name x p1) "__init__" p2) (e :: es) [] pos) (tBi C ta) := by
  refine ⟨fun pins s σ H Q I h => ?_⟩
  refine PySem.W.methodCall_KW (ld_blt I hg hm hb ?_ hn hdb) hc
  obtain ⟨m, fr⟩ := I.fr
  refine PySem.W.method_type fr I.ok.mod.kin ht hs hv hhi ?_
  exact init_tail G T ha (I.tok _) h he hpl
theorem ps_os1 (G : BaseG B newId initId bmB) (T : OexG X.K C newId bmB) (hno : PySem.W.findIn X.K (.ref C) f = some none) (ho : PE X o to) (he : PE X e te) (hs : swapsWith e (some (.Attribute o f p')) pos.line X.env = pure false := by rfl) : PS X (.Assign [.Attribute o f p'] e pos) (tOs1 C f to te) := by
  refine ⟨fun pins s σ H D I h => ?_⟩
  refine plainObj_wpAny_Assign_Attribute (thn (he.run pins s σ H _ I h) fun v s1 ⟨y, H1, I1, r1, q1⟩ => thn (ho.run pins s1 σ H1 _ I1 q1) fun u s2 ⟨x, H2, I2, r2, a, ex, ea, q⟩ => ?_) hs
  subst ex
  obtain rfl : u = Value.ref a := r2
  exact ostG G T I2 ea hno r1 fun dx s' n ne J => ⟨σ, _, J, q dx n ne⟩
theorem pmk_G {CX : CXT} {fI : Addr} {k : Nat} {fd : FuncData} {ps : List Str} {sp : Sp} {ds : List Value} {dvs : List V} (G : BaseG B newId initId bmB) (T : OexG X.K C newId bmB) (iC : PySem.W.findIn X.K (.ref C) "__init__" = some (some (.ref fI))) (tI : PySem.W.typeIn X.K (.ref fI) = some (.type "function"))
    (F1 : FnOk X.prog X.w X.K X.mg X.base CX k fI fd ps sp) (hr : Room (k + 1) X.A) (hb : Binds X.K fd ps ds) (hd : Vals dvs ds) (hx : Passes CX X (fun _ _ _ => False)) (hg : Gl X x) (hm : X.mg x = some (.ref C)) (ha : PA X (e :: es) ta)
    (hdb : (x == ("__debug__" : Str)) = false := by decide) (he : starEach (e :: es) X.env = (false, eval e X.env) :: starEach es X.env := by rfl) (hpl : (backTo pos (starEach es X.env)).any (·.1) = false := by rfl) :
    PMk X (.Call (.Name x p) (e :: es) [] pos) (tMkO C sp dvs ta) := by
  intro pins s σ H Q I h
  obtain ⟨nm, q, N, bs, bm, sn, sub, ab, col, dd, k0, k1, k2, k3, k5, hC, hbm⟩ := T.cls
  refine wpAny_Call_Name_kw (ld_glob I hg hm ?_ hdb)
  refine PySem.W.callWith_K (h₀ := X.base) I.ok.mod.kin T.kC (thn (ha.run pos pins s σ H _ I h) fun us s1 ⟨vs, H1, I1, r1, hz, q1⟩ => ⟨I1.kIn, ?_⟩) he hpl
  show wpAny _ _ (call (.ref C) us) _ _ _
  obtain ⟨hp, g, dr, tk, os⟩ := s1
  have hsz : hp.objs.size ≤ hp.objs.size + 1 := Nat.le_succ _
  have hn : H1 (hp.objs.size + 1) = none := I1.hok.fresh hsz
  have hq := q1 (hp.objs.size + 1) hn
  have kk : ∀ b o, hp.get? b = some o → ((hp.push (PySem.W.kdv_tup us)).push (PySem.HandSPX.excO C hp.objs.size)).get? b = some o := fun b o e => Heap.get?_push_of_some _ (Heap.get?_push_of_some _ e)
  have hget : ((hp.push (PySem.W.kdv_tup us)).push (PySem.HandSPX.excO C hp.objs.size)).get? (hp.objs.size + 1) = some (PySem.HandSPX.excO C hp.objs.size) := by heap_get
  have I2 : Inv X pins σ (upd H1 (hp.objs.size + 1) (exo (hp.objs.size + 1) C none)) ⟨(hp.push (PySem.W.kdv_tup us)).push (PySem.HandSPX.excO C hp.objs.size), g, dr, tk, os⟩ :=
    I1.laid (t' := tk) (a := hp.objs.size + 1) (o := exo (hp.objs.size + 1) C none) (h' := (hp.push (PySem.W.kdv_tup us)).push (PySem.HandSPX.excO C hp.objs.size)) kk hsz (exo_ok hget)
  have r2 : Vals (V.ref (hp.objs.size + 1) :: (vs ++ dvs)) (Value.ref (hp.objs.size + 1) :: (us ++ ds)) := .cons rfl (r1.append hd)
  have hl : (Value.ref (hp.objs.size + 1) :: us ++ ds).length = ps.length := by
    have e := r2.length
    rw [F1.len _ _ _ _ hq] at e
    exact e.symm
  have hus : us.length ≤ sizeLine := by
    rw [← Paired.length r1, sizeLine_eq]
    omega
  refine wpAny_call (PySem.HandSPX.call_own G.F (fun Y => refsB_contains Y bm hbm) (I1.kIn _ _ hC) (PySem.W.looks_findIn I1.kIn iC) (fun self => PySem.W.bind_fn I1.kIn self tI) hus
    (codeAny_mono (F1.run _ X.stack _ _ ⟨Value.ref (hp.objs.size + 1) :: us, []⟩ (Value.ref (hp.objs.size + 1) :: (us ++ ds)) _ _ (fun _ _ _ => False) (hr.make C us []) (I2.env0.make C us []) (hb _ (Value.ref (hp.objs.size + 1) :: us) I2.kIn hl) r2 hq) fun r s' hq' => ?_))
  cases r with
  | error er => exact hx pins σ _ _ er s' I2 hq'
  | ok fl =>
    cases fl with
    | ret u =>
      obtain ⟨v, H2, os2, bare2, un2, hok2, rv, ev, d, fs, ea, ed, hd1, q2⟩ := hq'
      subst ev
      obtain ⟨h2, g2, d2, t2, os'⟩ := s'
      exact ⟨rv, mk_end (raises_own T.exC T.tyC) I1 hsz kk un2 hok2 os2 bare2 ea ed hd1 q2⟩
    | next => exact False.elim hq'
    | brk => exact False.elim hq'
    | cont => exact False.elim hq'
end
end K2

set_option Elab.async false
set_option linter.all false
set_option maxRecDepth 100000
set_option maxHeartbeats 4000000
/-! ## rules over data for exceptions; isinstance and fields of a kept one -/
namespace PySem.W
open PySem PySem.Spec PySem.Calls PyProof.Rows
section
variable {prog : Program} {w : World} {A : Around} {E : Value → Shared → Prop} {s : Shared} {K : Frag} {x D : Addr} {ox : Obj}
theorem kin_classE2 {od : Obj} {Q : Option Value → Shared → Prop} (hga : findIn K (.ref D) "__getattribute__" = some (some (.builtin "BaseException.__getattribute__"))) (hgt : findIn K (.ref D) "__getattr__" = some none) (hsub : subIn K (.ref D) (.type "BaseException") = some true)
    (hdct : hasDictIn K D = true) (ha : findIn K (.ref D) "__class__" = some (some (.builtin "object.__class__")))
    (hn : specialIn K (.builtin "object.__class__") "__get__" = some (some (.builtin "getset_descriptor.__get__"))) (htk : takesIn K (.builtin "object.__class__") = some true) (hm : mroIn K D (.type "object") = some true)
    (X : K.In s.heap) (I : InstAt s.heap x ox D (some od)) (h : Q (some (.ref D)) { s with toks := s.toks + 1 }) : wpAny (model prog w) A (getAttr? (.ref x) "__class__") Q E s := by
  have hf : findObj K D (some od) "__class__" = some (.bind (.builtin "getset_descriptor.__get__") (.builtin "object.__class__")) := findObj_data (by obtain ⟨cd, hc, _⟩ := any_some hdct; rw [hc]; rfl) ha hn htk
  obtain ⟨hp, g, d, t, os⟩ := s
  have L0 := I.type (M := model prog w)
  have L1 := looks_findIn (M := model prog w) X hga
  have L2 := looks_findIn (M := model prog w) X hgt
  have L3 := looks_find (M := model prog w) X I hf
  have sub : Looks (model prog w) hp (isInstance (.ref x) (.type "BaseException")) true := L0.andThen (looks_subIn X hsub)
  have hx0 : (false && onTheHeap (Value.builtin "BaseException.__getattribute__")) = false := rfl
  have hx2 : (Value.builtin "BaseException.__getattribute__" == Value.builtin "object.__getattribute__") = false := by decide +kernel
  have hx1 : (onTheHeap (Value.ref D) && Value.builtin "BaseException.__getattribute__" == Value.builtin "object.__getattribute__") = false := by rw [hx2]; rfl
  unfold getAttr? getAttrBy? getAttrBy
  refine wpAny_bind (wpAny_mkText (wpAny_bind (wpAny_attempt (wpAny_holding (wpAny_bind (L0.at (wpAny_bind (L1.at ?_))))))))
  show wpAny _ _ (if (onTheHeap (Value.ref D) && Value.builtin "BaseException.__getattribute__" == Value.builtin "object.__getattribute__") = true then _ else _) _ _ _
  rw [hx1, if_neg Bool.false_ne_true]
  unfold getAttrByItsOwn hookBefore
  refine wpAny_bind ?_
  rw [if_pos (show onTheHeap (Value.ref D) = true from rfl)]
  refine L2.at ?_
  refine wpAny_bind (wpAny_attempt (wpAny_holding ?_))
  unfold callGetattribute
  rw [hx0, if_neg Bool.false_ne_true]
  unfold boundAndCalled
  rw [PySem.F.excAttr_ValueError.ga.bind (.ref x)]
  refine wpAny_bind (wpAny_pure ?_)
  show wpAny _ _ (call (.builtin "BaseException.__getattribute__") [.ref x, .str "__class__" t]) _ _ _
  refine wpAny_call (codeAny_call_builtin PySem.F.excAttr_ValueError.ga.plain PySem.F.entry_bexc_ga ?_)
  refine @check_slot (model prog w) _ _ ⟨hp, g, d, t + 1, os⟩ "BaseException.__getattribute__" "BaseException" "__getattribute__" (.ref x) [.str "__class__" t] [] _ (by decide +kernel) (by decide +kernel) sub (PySem.F.args_bexc_ga (.ref x) (.str "__class__" t)) ?_
  unfold Builtin.«object.__getattribute__»
  refine wpAny_bind (wpAny_of_eq (a := ((Value.ref x : Value), [Value.str "__class__" t])) (by first | rfl | (simp only [slotArgs]; rfl)) ?_)
  refine wpAny_bind (wpAny_pure (wpAny_bind (L0.at (wpAny_bind (L3.at ?_)))))
  show wpAny _ _ (holding [Value.builtin "object.__class__"] (call (.builtin "getset_descriptor.__get__") [.builtin "object.__class__", .ref x, .ref D]) >>= ret) _ _ _
  refine wpAny_bind (wpAny_holding (wpAny_call (class_get (s := ⟨hp, g, d, t + 1, os⟩) (ox := ox) (od := some od) X I hm ?_)))
  refine wpAny_pure ?_
  show wpAny _ _ (handedOut (.ref D)) _ _ _
  rw [handedOut_of (v := .ref D) rfl]
  first
    | exact wpAny_pure (wpAny_pure h)
    | exact wpAny_pure h
    | exact wpAny_pure (wpAny_bind (wpAny_pure (wpAny_pure h)))
theorem kitx_exc2 (hga : findIn K (.ref D) "__getattribute__" = some (some (.builtin "BaseException.__getattribute__"))) (hgt : findIn K (.ref D) "__getattr__" = some none) (hsub : subIn K (.ref D) (.type "BaseException") = some true) (hdct : hasDictIn K D = true) (ha : findIn K (.ref D) "__class__" = some (some (.builtin "object.__class__")))
    (hn : specialIn K (.builtin "object.__class__") "__get__" = some (some (.builtin "getset_descriptor.__get__"))) (htk : takesIn K (.builtin "object.__class__") = some true) (hm : mroIn K D (.type "object") = some true) :
    KitX K (.ref x) (.ref D) (fun h => ∃ od, InstAt h x ox D (some od)) where
  ty := fun _ _ _ I => by
    obtain ⟨od, I⟩ := I
    exact I.type
  it := fun _ _ X _ => by
    obtain ⟨cdD, hcD, _⟩ := any_some hdct
    unfold clsIn at hcD
    split at hcD
    · rename_i c' d' cd' sl' ho
      intro A' Q' E' s' k q
      unfold isType loadHead
      exact wpAny_bind (wpAny_loadPart (k _ _ (X _ _ ho)) (wpAny_pure q))
    · cases hcD
  ne := fun h tp dd its n sl X htp => by
    obtain ⟨cdD, hcD, _⟩ := any_some hdct
    refine Bool.eq_false_iff.mpr fun q => ?_
    have e : D = tp := Value.ref.inj (beq_iff_eq.mp q)
    subst e
    unfold clsIn at hcD
    split at hcD
    · rename_i c' d' cd' sl' ho
      have z := (X _ _ ho).symm.trans htp
      cases z
    · cases hcD
  ca := fun X I k => by
    obtain ⟨od, I⟩ := I
    exact kin_classE2 hga hgt hsub hdct ha hn htk hm X I k
end
end PySem.W
namespace K2
open PySem L2 PySem.Spec PyProof.Rows
/-- a kept exception of the class at D, with the fields fs in its dict -/
def Kept (H : Hp) (a D : Addr) (f : Str) (w : V) : Prop := ∃ (oe : Obj) (d : Addr), H a = some (exK a oe) ∧ oe.cls = .ref D ∧ oe.dict = some d ∧ (∃ vs, oe.data = .fields vs) ∧ H d = some (.xd [(f, w)])
theorem Kept.same {H H' : Hp} {a D : Addr} {f : Str} {w : V} (h : Kept H a D f w) (s : Same H H') : Kept H' a D f w := by
  obtain ⟨oe, d, h1, h2, h3, h4, h5⟩ := h
  exact ⟨oe, d, s _ _ h1, h2, h3, h4, s _ _ h5⟩
section
variable {X : Cx} {pins : List (Addr × Obj)} {σ : L2.St} {H : Hp} {s : Shared} {a D : Addr} {f : Str} {w : V}
theorem Kept.inst (h : Kept H a D f w) (I : Inv X pins σ H s) : ∃ (oe od : Obj) (m : Str → Option Value), PySem.W.InstAt s.heap a oe D (some od) ∧ (∀ g, PySem.W.lookIn g od = some (m g)) ∧ ∀ g, RelO ([(f, w)].lookup g) (m g) := by
  obtain ⟨oe, d, h1, h2, h3, ⟨vs, h4⟩, h5⟩ := h
  have ha := exK_at I.hok h1
  have hx : ObjOk X.prog X.w H s.heap d (.xd [(f, w)]) := I.hok d _ h5
  obtain ⟨mA, hns, hr⟩ := hx
  obtain ⟨od, ho, hl⟩ := lookIn_ns hns
  exact ⟨oe, od, mA, ⟨ha, h2, by unfold PySem.W.notCls; rw [h4] <;> rfl, by rw [h3]; exact ho⟩, hl, hr⟩
end
/-- isinstance(e, c), e a kept exception -/
def rIsK (K : PySem.W.Frag) : List V → Hp → VK → Prop := fun xs H Q => ∃ (a D : Addr) (f : Str) (w : V) (c : Addr) (b : Bool), xs = [.ref a, .ref c] ∧ Kept H a D f w ∧ ExcC K D ∧ PySem.W.kitOne K (.ref D) (.ref c) = some b ∧ Q (.bl b) H
theorem call_isK {X : Cx} : CallR X (.builtin "isinstance") (rIsK X.K) := by
  rintro pins s σ H xs us Q I r ⟨a, D, f, w, c, b, rfl, hk, C, e, q⟩
  cases r with
  | cons rx rr =>
    cases rr with
    | cons rt rr =>
      cases rr
      cases rx
      cases rt
      obtain ⟨oe, od, m, J, _⟩ := hk.inst I
      exact PySem.W.kia_one (PySem.W.kitx_exc2 (ox := oe) C.hg C.hk C.hs C.hd C.ha C.hn C.ht C.hm) I.kIn ⟨od, J⟩ e (fun z => nomatch z) fun tk => ⟨.bl b, H, I.kept (t' := tk) fun _ _ z => z, rfl, q⟩
/-- e.f, e a kept exception -/
def tXk (K : PySem.W.Frag) (n : Str) (te : TE) : TE := fun σ H Q => te σ H fun x H1 => ∃ (a D : Addr) (w : V), x = .ref a ∧ Kept H1 a D n w ∧ XfC K D ∧ PySem.W.findIn K (.ref D) n = some none ∧ Q w H1
theorem pe_xk {X : Cx} {e : Expr} {te : TE} {pos : Pos} {n : Str} (he : PE X e te) (hb : attributeBase e n X.env (eval e X.env) = eval e X.env := by rfl) : PE X (.Attribute e n pos) (tXk X.K n te) := by
  refine ⟨fun pins s σ H Q I h => ?_⟩
  refine attr_of hb (thn (he.run pins s σ H _ I h) fun u s1 hh => ?_)
  obtain ⟨x, H1, I1, rx, a, D, w, ex, hk, T, hno, q⟩ := hh
  subst ex
  obtain rfl : u = Value.ref a := rx
  obtain ⟨oe, od, m, J, hl, hr⟩ := hk.inst I1
  have l : List.lookup n [(n, w)] = some w := by simp [List.lookup]
  obtain ⟨u, hu, ru⟩ := RelO.some_of (v := w) (o := m n) (by rw [← l]; exact hr n)
  exact HandSPX.exc_get I1.kIn J T.ga T.gg T.exC (PySem.W.findObj_own T.hdC hno rfl (by rw [hl, hu])) (handed_of ru) ⟨w, H1, I1.tok _, ru, q⟩
/-! ### rules over data -/
mutual
theorem sq_dp {H H' : Hp} (f : ∀ b o, H b = some o → seqO o = true → H' b = some o) : ∀ (d : PyData) (v : V), Dq H v d → Dq H' v d
  | .none, _, h => by cases h; exact .non
  | .bool _, _, h => by cases h; exact .bl _
  | .int _, _, h => by cases h; exact .int _
  | .str _, _, h => by cases h; exact .str _
  | .list ds, _, h => by
    cases h with
    | lst a b => exact .lst (f _ _ a rfl) (sq_dps f ds _ b)
  | .tuple ds, _, h => by
    cases h with
    | tup a b => exact .tup (f _ _ a rfl) (sq_dps f ds _ b)
  | .dict _, _, h => by cases h
theorem sq_dps {H H' : Hp} (f : ∀ b o, H b = some o → seqO o = true → H' b = some o) : ∀ (ds : List PyData) (vs : List V), DqAll H vs ds → DqAll H' vs ds
  | [], _, h => by cases h; exact .nil
  | d :: ds, _, h => by
    cases h with
    | cons a b => exact .cons (sq_dp f d _ a) (sq_dps f ds _ b)
end
section
variable {Γ : List Gh} {ρ : Rho} {H : Hp} {R : PX} {te to : TE} {ta : TA} {C : Addr} {f : Str} {K : PySem.W.Frag}
theorem w_binit (h : WA Γ ta ρ H fun xs H1 => ∃ a ys, xs = .o (.ref a) :: ys ∧ ys.length ≤ 1000 ∧ H1 a = some (exo a C none) ∧ R (.d .none) H1) : W Γ (tBi C ta) ρ H R := fun σ H' e s Q q =>
  h σ H' e s _ fun xs vs H1 H1' k e1 f1 d1 => by
    obtain ⟨a, ys, rfl, hl, ha, k⟩ := k
    cases d1 with
    | cons a1 a2 =>
      cases a1
      exact ⟨a, _, rfl, by rw [a2.len]; exact hl, e1 _ _ ha, q _ _ H1 H1' k e1 f1 Dq.non⟩
theorem exo_seq {a C : Addr} {d : Option Addr} : seqO (exo a C d) = false := rfl
theorem exd_seq {a : Addr} {fs : List (Str × V)} : seqO (exd a fs) = false := rfl
theorem go_os1 {EE : EX} (h : W Γ te ρ H fun y H1 => W Γ to ρ H1 fun x H2 => ∃ a, x = .o (.ref a) ∧ H2 a = some (exo a C none) ∧
    ∀ w dx H3, Fr [a] H2 H3 → H2 dx = none → dx ≠ a → H3 a = some (exo a C (some dx)) → H3 dx = some (exd dx [(f, w)]) → DxR H3 w y → EE.nx ρ H3) : Go Γ (tOs1 C f to te) EE ρ H := fun D le σ H' e s =>
  h σ H' e s _ fun y w H1 H1' k e1 f1 d1 => k σ H1' e1 (s.ft f1) _ fun x v H2 H2' k2 e2 f2 d2 => by
    obtain ⟨a, rfl, ha, k2⟩ := k2
    cases d2
    refine ⟨a, rfl, e2 _ _ ha, fun dx hdx hne => ?_⟩
    have f1' : Same H2' (upd H2' dx (exd dx [(f, w)])) := Same.new hdx
    have fr : Fr [a] H2' (upd (upd H2' dx (exd dx [(f, w)])) a (exo a C (some dx))) := (f1'.frq).trans (Fr.at (f1' _ _ (e2 _ _ ha)) rfl)
    exact le.nx ρ _ σ _ (k2 w dx _ (e2.frq.trans fr) (e2.free hdx) hne upd_same (by rw [upd_ne hne, upd_same]) (ft_dx fr.ft (ft_dx f2 d1))) (Same.refl _) (((s.ft f1).ft f2).ft fr.ft)
/-- raise C(e), C's __init__ putting e under f -/
theorem go_raise {S : Spc} {EE : EX} {E : XK} (hM : ∀ i a r, S.args i = .o (.ref a) :: r → ∀ b ∈ S.mod i, b = a) (h : WA Γ ta ρ H fun xs H1 => xs.length ≤ 1000 ∧ ∀ a H2, H1 a = none → Fr [] H1 H2 → H2 a = some (exo a C none) → CallS S (.o (.ref a) :: xs) H2 (fun _ _ _ => False) fun y H3 => y = .d .none ∧
    ∃ d w, H2 d = none ∧ H3 a = some (exo a C (some d)) ∧ H3 d = some (exd d [(f, w)]) ∧ ∀ H4, Fr [] H1 H4 → H4 d = some (.xd [(f, w)]) → (∀ x, DxR H3 w x → DxR H4 w x) → E (.ref C) (some d) H4) :
    Go Γ (fun D σ H => tMkO C (sp S) [] ta σ H fun cls d H' => E cls d H') EE ρ H := fun D le σ H' e s => by
  refine h σ H' e s _ fun xs vs H1 H1' k e1 f1 d1 => ⟨by rw [d1.len]; exact k.1, fun a ha => ?_⟩
  have sm : Same H1' (upd H1' a (exo a C none)) := Same.new ha
  obtain ⟨i, hi, hp, hr, hx⟩ := k.2 a _ (e1.free ha) (e1.trans sm).frq upd_same
  refine ⟨i, ?_, hp _ (Same.refl _), fun y v H3 fr po dx => ?_, fun c d H3 fr ex => (hx c d H3 fr ex).elim⟩
  · rw [← hi, List.append_nil]
    exact .cons rfl (ft_dxs sm.ftq d1)
  · obtain ⟨rfl, d, w, hd, h3a, h3d, k3⟩ := hr y H3 fr po
    cases dx
    have hda : d ≠ a := fun z => by
      rw [z, upd_same] at hd
      cases hd
    have hd1 : H1' d = none := by
      rw [upd_ne hda] at hd
      exact hd
    have m : ∀ b ∈ S.mod i, b = a := hM i a xs hi.symm
    refine ⟨rfl, d, [(f, w)], h3a, h3d, hd1, k3 _ ⟨fun b o q z => ?_, fun b q => ?_⟩ upd_same fun x hx => ?_⟩
    · have q' := e1 _ _ q
      have hba : b ≠ a := ne_of_none q' ha
      have hbd : b ≠ d := ne_of_none q' hd1
      rw [upd_ne hbd, del_ne hba]
      refine fr.kp b o (by rw [upd_ne hba]; exact q') (.inl fun hm => hba (m b hm))
    · by_cases hba : b = a
      · rw [hba]
        exact e1.free ha
      · have q' := upd_fr q
        rw [del_ne hba] at q'
        have q2 := fr.fr b q'
        rw [upd_ne hba] at q2
        exact e1.free q2
    · have sq : ∀ b o, H3 b = some o → seqO o = true → upd (del H3 a) d (.xd [(f, w)]) b = some o := fun b o q z => by
        have hba : b ≠ a := fun y => by
          rw [y, h3a] at q
          cases q
          cases z
        have hbd : b ≠ d := fun y => by
          rw [y, h3d] at q
          cases q
          cases z
        rw [upd_ne hbd, del_ne hba]
        exact q
      cases x with
      | o u => exact hx
      | d x => exact sq_dp sq x w hx
end
end K2

set_option Elab.async false
set_option linter.all false
set_option maxRecDepth 100000
set_option maxHeartbeats 2000000
/-! ## xs[:k:-1] -/
namespace K2
open PySem L2 PySem.Spec PyProof.Rows
theorem fm_congr {α β : Type} {f g : α → Option β} : ∀ {l : List α}, (∀ x ∈ l, f x = g x) → l.filterMap f = l.filterMap g
  | [], _ => rfl
  | x :: l, h => by
    rw [List.filterMap_cons, List.filterMap_cons, h x List.mem_cons_self, fm_congr (l := l) fun y hy => h y (List.mem_cons_of_mem _ hy)]
theorem rev_pick {α : Type} (xs : List α) : ∀ (k : Nat), k ≤ xs.length → (List.range k).filterMap (fun m => xs[xs.length - 1 - m]?) = (xs.drop (xs.length - k)).reverse
  | 0, _ => by simp
  | k + 1, h => by
    have ih := rev_pick xs k (Nat.le_of_succ_le h)
    rw [List.range_succ, List.filterMap_append, ih]
    have hi : xs.length - 1 - k < xs.length := by omega
    have e1 : xs.length - (k + 1) = xs.length - 1 - k := by omega
    have e2 : xs.drop (xs.length - (k + 1)) = xs[xs.length - 1 - k] :: xs.drop (xs.length - k) := by
      rw [e1, List.drop_eq_getElem_cons hi]
      congr 2
      omega
    rw [e2, List.reverse_cons]
    simp [List.getElem?_eq_getElem hi]
/-- how far xs[:k:-1] goes down, for the places behind k -/
theorem range_down (n j : Nat) (h : j < n) : sliceRange ((n : Int) - 1) (j : Int) (-1) = (List.range (n - 1 - j)).map fun k => n - 1 - k := by
  unfold sliceRange
  have h1 : ¬ ((-1 : Int) > 0) := by decide
  rw [if_neg h1]
  by_cases hc : ((n : Int) - 1) > (j : Int)
  · rw [if_pos hc]
    have e : (((n : Int) - 1 - (j : Int) - -1 - 1) / (- -1)).toNat = n - 1 - j := by
      rw [show (- -1 : Int) = 1 by decide, Int.ediv_one]
      omega
    simp only [e]
    apply List.map_congr_left
    intro k hk
    have := List.mem_range.mp hk
    omega
  · rw [if_neg hc]
    have e : n - 1 - j = 0 := by omega
    rw [e]
    rfl
/-- the place that a bound names, counted from behind where it is negative -/
def hiAt (n : Nat) (hi : Int) : Int := if hi < 0 then hi + n else hi
theorem bounds_down (n j : Nat) (hi : Int) (h : hiAt n hi = j) (hj : j < n) : sliceBounds none (some hi) (some (-1)) n = ((n : Int) - 1, (j : Int), -1) := by
  unfold sliceBounds
  have h1 : ¬ ((-1 : Int) > 0) := by decide
  simp only [Option.getD_some, h1, if_false]
  have e : max (-1) (min (if hi < 0 then hi + (n : Int) else hi) ((n : Int) - 1)) = (j : Int) := by
    unfold hiAt at h
    rw [h]
    omega
  exact Prod.ext rfl (Prod.ext e rfl)
theorem pick_down (items : Array Value) (j : Nat) (hi : Int) (h : hiAt items.size hi = j) (hj : j < items.size) : slicePick items none (some hi) (some (-1)) = (items.toList.drop (j + 1)).reverse.toArray := by
  unfold slicePick
  rw [bounds_down _ j hi h hj]
  show ((sliceRange ((items.size : Int) - 1) (j : Int) (-1)).filterMap (items[·]?)).toArray = _
  rw [range_down _ j hj, List.filterMap_map]
  have e := rev_pick items.toList (items.size - 1 - j) (by rw [Array.length_toList]; omega)
  rw [Array.length_toList] at e
  have e2 : items.size - (items.size - 1 - j) = j + 1 := by omega
  rw [e2] at e
  rw [← e]
  congr 1
  refine fm_congr fun m _ => ?_
  show items[items.size - 1 - m]? = items.toList[items.size - 1 - m]?
  simp
/-- the reading: r the made thing -/
def rDnL (K : PySem.W.Frag) : V → Int → Hp → VK → Prop := fun x hi H Q => ∃ a xs j, x = .ref a ∧ SqL K H a xs ∧ hiAt xs.length hi = (j : Nat) ∧ j < xs.length ∧ ∀ p, H p = none → Q (.ref p) (upd H p (.lst (xs.drop (j + 1)).reverse))
def rDnT (K : PySem.W.Frag) : V → Int → Hp → VK → Prop := fun x hi H Q => ∃ a xs j, x = .ref a ∧ SqT K H a xs ∧ hiAt xs.length hi = (j : Nat) ∧ j < xs.length ∧ ∀ p, H p = none → Q (.ref p) (upd H p (.tup (xs.drop (j + 1)).reverse))
def tDn (r : V → Int → Hp → VK → Prop) (te : TE) (th : TO) : TE := fun σ H Q => te σ H fun x H1 => th σ H1 fun o H2 => ∃ hi, o = some hi ∧ r x hi H2 Q
theorem adjust_dn (hi : Int) (n j : Nat) (h : hiAt n hi = j) (hj : j < n) : Builtin.Slice.sliceAdjust none (some hi) (-1) (n : Int) = ((n : Int) - 1, (j : Int)) := by
  unfold Builtin.Slice.sliceAdjust
  unfold hiAt at h
  have h1 : ((-1 : Int) < 0) := by decide
  simp only [h1, if_true]
  refine Prod.ext (by simp) ?_
  simp only
  by_cases hn : hi < 0
  · simp only [if_pos hn] at h ⊢
    omega
  · simp only [if_neg hn] at h ⊢
    omega
theorem places_dn (n j : Nat) (hj : j < n) : Builtin.Slice.slicePlaces ((n : Int) - 1) (j : Int) (-1) = n - 1 - j := by
  unfold Builtin.Slice.slicePlaces
  have h1 : ¬ ((-1 : Int) > 0) := by decide
  simp only [h1, if_false, Int.neg_neg, Int.ediv_one]
  split <;> omega
section
variable {prog : Program} {w : World} {A : Around} {E : Value → Shared → Prop} {s : Shared}
theorem applied_dn {sl : Addr} {vu vs : Value} {hi : Int} {n j : Nat} {Q : Int × Int × Nat → Shared → Prop} (hs : s.heap.IsSliceOf sl .none vu vs) (pu : IsPart vu (some hi)) (ps : IsPart vs (some (-1))) (h : hiAt n hi = j) (hj : j < n)
    (hq : Q ((n : Int) - 1, -1, n - 1 - j) s) : wpAny (model prog w) A (Builtin.Slice.sliceApplied (.ref sl) (pure (n : Int))) Q E s := by
  obtain ⟨os, hos, hcs, hds⟩ := id hs
  unfold Builtin.Slice.sliceApplied Builtin.Slice.sliceFields
  refine wpAny_bind (wpAny_bind (wpAny_field hos hds (x := .none) rfl (wpAny_bind (wpAny_field hos hds (x := vu) rfl (wpAny_bind (wpAny_field hos hds (x := vs) rfl (wpAny_pure ?_)))))))
  refine wpAny_bind (HT.slicePart_ ps ?_)
  show wpAny _ _ (if ((-1 : Int) == 0) = true then _ else _) _ _ s
  rw [if_neg (by decide)]
  refine wpAny_bind (HT.slicePart_ .none (wpAny_bind (HT.slicePart_ pu (wpAny_bind (wpAny_pure ?_)))))
  show wpAny _ _ (match Builtin.Slice.sliceAdjust none (some hi) (-1) (n : Int) with | (lo, hi) => pure (lo, (-1 : Int), Builtin.Slice.slicePlaces lo hi (-1))) _ _ s
  rw [adjust_dn hi n j h hj]
  show wpAny _ _ (pure ((n : Int) - 1, (-1 : Int), Builtin.Slice.slicePlaces ((n : Int) - 1) (j : Int) (-1))) _ _ s
  rw [places_dn n j hj]
  exact wpAny_pure hq
theorem tup_dn {t sl : Addr} {items : Array Value} {vu vs : Value} {hi : Int} {j : Nat} {Q : Value → Shared → Prop} (ht : IsTup s.heap t items) (hs : s.heap.IsSliceOf sl .none vu vs) (pu : IsPart vu (some hi)) (ps : IsPart vs (some (-1))) (hh : hiAt items.size hi = j) (hj : j < items.size)
    (h : Q (.ref s.heap.objs.size) { s with heap := s.heap.push { cls := .type "tuple", data := .seq (items.toList.drop (j + 1)).reverse.toArray } }) (hsz : items.size ≤ sizeLine) : wpAny (model prog w) A (getItem (.ref t) (.ref sl)) Q E s := by
  have htake : sizeOk (.seq (items.toList.drop (j + 1)).reverse.toArray) := by
    show (items.toList.drop (j + 1)).reverse.toArray.size ≤ sizeLine
    rw [List.size_toArray, List.length_reverse, List.length_drop, Array.length_toList]
    omega
  obtain ⟨os, hos, hcs, hds⟩ := id hs
  have hTs : s.TypeIs (.ref sl) "slice" := ⟨os, hos, hcs⟩
  unfold getItem
  try with_reducible refine wpAny_holding ?_
  first | refine wpAny_bind (wpAny_pure ?_) | skip
  refine wpAny_bind (wpAny_sequenceKey ht.typeIs (by decide) ?_)
  refine wpAny_bind (wpAny_callSpecial?_slot (name := Str.ofString "__getitem__") ht.typeIs PyProof.Rows.slot_tuple_getitem
    (wpAny_call_entry PyProof.Rows.slot_tuple_getitem ht.typeIs PyProof.Rows.entry_tuple_getitem ?_ (PyProof.Rows.args_tuple_getitem _ _)))
  show wpAny _ _ (Builtin.Tuple.tupleItemsOf (.ref t) >>= _) _ _ s
  refine wpAny_bind (PyProof.Rows.tupleItemsOf_ ht ?_)
  refine wpAny_bind (wpAny_typeOf hTs ?_)
  rw [if_pos (by decide)]
  refine wpAny_bind (applied_dn hs pu ps hh hj ?_)
  have hno : ¬ ((((items.size : Int) - 1) == 0 && (-1 : Int) == 1 && (items.size - 1 - j) == items.size) = true) := by
    intro q
    rw [Bool.and_eq_true, Bool.and_eq_true] at q
    exact absurd q.1.2 (by decide)
  show wpAny _ _ (if (((items.size : Int) - 1) == 0 && (-1 : Int) == 1 && (items.size - 1 - j) == items.size) = true then _ else _) _ _ s
  have pk : ((List.range (items.size - 1 - j)).filterMap fun (m : Nat) => items[((items.size : Int) - 1 + (m : Int) * -1).toNat]?).toArray = (items.toList.drop (j + 1)).reverse.toArray := by
    have e := rev_pick items.toList (items.size - 1 - j) (by rw [Array.length_toList]; omega)
    rw [Array.length_toList] at e
    have e2 : items.size - (items.size - 1 - j) = j + 1 := by omega
    rw [e2] at e
    rw [← e]
    congr 1
    refine fm_congr fun m hm => ?_
    have := List.mem_range.mp hm
    have e3 : ((items.size : Int) - 1 + (m : Int) * -1).toNat = items.size - 1 - m := by omega
    rw [e3]
    simp
  rw [if_neg hno, pk]
  first
    | exact wpAny_bind (m := Builtin.Tuple.tupleExact _) (wpAny_newObj_type (wpAny_pure ⟨_, rfl, wpAny_pure h⟩) htake)
    | exact wpAny_bind (m := Builtin.Tuple.tupleExact _) (wpAny_newObj_type (wpAny_bind (wpAny_pure (wpAny_pure ⟨_, rfl, wpAny_pure h⟩))) htake)
    | exact wpAny_bind (wpAny_bind (m := Builtin.Tuple.tupleExact _) (wpAny_newObj_type (wpAny_pure (wpAny_pure ⟨_, rfl, wpAny_pure h⟩)) htake))
    | exact wpAny_bind (wpAny_bind (m := Builtin.Tuple.tupleExact _) (wpAny_newObj_type (wpAny_pure ⟨_, rfl, wpAny_pure h⟩) htake))
end
section
variable {X : Cx} {e h : Expr} {te : TE} {th : TO} {k : Nat} {p1 p2 p3 pos : Pos}
theorem pe_dnL (he : PE X e te) (hh : PO X (some h) th) : PE X (.Subscript e (.Slice none (some h) (some (.UnaryOp .USub (.Constant (.int 1) k p1) p2)) p3) pos) (tDn (rDnL X.K) te th) := by
  refine ⟨fun pins s σ H Q I h0 => ?_⟩
  refine Subscript_ (thn (he.run pins s σ H _ I h0) fun v s1 ⟨x, H1, I1, r1, q1⟩ => ?_)
  have hst : PO X (some (.UnaryOp .USub (.Constant (.int 1) k p1) p2)) (tPart (tUn (rU fun i => .int (-i)) (tC (.int 1)))) := po_some (pe_un un_neg pe_int)
  refine wpAny_Slice (thn (po_none.run pins s1 σ H1 (fun o H2 => o = none ∧ H2 = H1) I1 ⟨rfl, rfl⟩) fun vl s2 ⟨l, H2, I2, pl, el, e2⟩ => ?_)
  subst el e2
  refine thn (hh.run pins s2 σ H2 _ I2 q1) fun vu s3 ⟨u, H3, I3, pu, hi, eu, a, xs, j, ex, hx, hj, hlt, q⟩ => ?_
  subst eu ex
  cases r1
  refine thn (hst.run pins s3 σ H3 (fun o H4 => o = some (-1) ∧ H4 = H3) I3 ⟨1, rfl, -1, rfl, rfl, rfl⟩) fun vs s4 ⟨o, H4, I4, ps, eo, e4⟩ => ?_
  subst eo e4
  have I5 : Inv X pins σ H4 { s4 with heap := s4.heap.push { cls := .type "slice", data := .fields #[vl, vu, vs] } } := I4.kept (t' := s4.toks) fun b ob q => Heap.get?_push_of_some _ q
  obtain ⟨its, r, ht, hz⟩ := I5.list hx
  have hlen : its.toArray.size = xs.length := by rw [List.size_toArray]; exact r.length.symm
  show wpAny (model X.prog X.w) X.A (subscriptTail e (.Slice none (some h) (some (.UnaryOp .USub (.Constant (.int 1) k p1) p2)) p3) (.ref a) (.ref s4.heap.objs.size)) (EP X pins σ Q) X.xe { s4 with heap := s4.heap.push { cls := .type "slice", data := .fields #[vl, vu, vs] } }
  refine tail_any (ops := [.ref a, .ref s4.heap.objs.size]) ht.isList.typeIs (PySem.slot_list_getitem.lookup) ?_ (by with_unfolding_all rfl)
  refine wpAny_getItem_list_slice ht.isList (Heap.IsSliceOf.new _ vl vu vs) pl pu ps (by decide) ?_ (by rw [hlen]; exact hz)
  rw [pick_down its.toArray j hi (by rw [hlen]; exact hj) (by rw [hlen]; exact hlt)]
  refine ⟨.ref _, _, I5.laid (t' := s4.toks) (o := .lst (xs.drop (j + 1)).reverse) (fun b ob q => Heap.get?_push_of_some _ q) (Nat.le_refl _) ?_, rfl, q _ (I5.hok.fresh (Nat.le_refl _))⟩
  exact ⟨by rw [List.length_reverse, List.length_drop]; omega, _, 0, (r.drop (j + 1)).reverse, Heap.get?_push_size _ rfl⟩
theorem pe_dnT (he : PE X e te) (hh : PO X (some h) th) : PE X (.Subscript e (.Slice none (some h) (some (.UnaryOp .USub (.Constant (.int 1) k p1) p2)) p3) pos) (tDn (rDnT X.K) te th) := by
  refine ⟨fun pins s σ H Q I h0 => ?_⟩
  refine Subscript_ (thn (he.run pins s σ H _ I h0) fun v s1 ⟨x, H1, I1, r1, q1⟩ => ?_)
  have hst : PO X (some (.UnaryOp .USub (.Constant (.int 1) k p1) p2)) (tPart (tUn (rU fun i => .int (-i)) (tC (.int 1)))) := po_some (pe_un un_neg pe_int)
  refine wpAny_Slice (thn (po_none.run pins s1 σ H1 (fun o H2 => o = none ∧ H2 = H1) I1 ⟨rfl, rfl⟩) fun vl s2 ⟨l, H2, I2, pl, el, e2⟩ => ?_)
  subst el e2
  refine thn (hh.run pins s2 σ H2 _ I2 q1) fun vu s3 ⟨u, H3, I3, pu, hi, eu, a, xs, j, ex, hx, hj, hlt, q⟩ => ?_
  subst eu ex
  cases r1
  refine thn (hst.run pins s3 σ H3 (fun o H4 => o = some (-1) ∧ H4 = H3) I3 ⟨1, rfl, -1, rfl, rfl, rfl⟩) fun vs s4 ⟨o, H4, I4, ps, eo, e4⟩ => ?_
  subst eo e4
  have I5 : Inv X pins σ H4 { s4 with heap := s4.heap.push { cls := .type "slice", data := .fields #[vl, vu, vs] } } := I4.kept (t' := s4.toks) fun b ob q => Heap.get?_push_of_some _ q
  obtain ⟨its, r, ht, hz⟩ := I5.tuple hx
  have hlen : its.toArray.size = xs.length := by rw [List.size_toArray]; exact r.length.symm
  show wpAny (model X.prog X.w) X.A (subscriptTail e (.Slice none (some h) (some (.UnaryOp .USub (.Constant (.int 1) k p1) p2)) p3) (.ref a) (.ref s4.heap.objs.size)) (EP X pins σ Q) X.xe { s4 with heap := s4.heap.push { cls := .type "slice", data := .fields #[vl, vu, vs] } }
  refine tail_any (ops := [.ref a, .ref s4.heap.objs.size]) ht.typeIs (PyProof.Rows.slot_tuple_getitem.lookup) ?_ (by with_unfolding_all rfl)
  have el : vl = Value.none := by
    cases pl
    rfl
  subst el
  refine tup_dn ht (Heap.IsSliceOf.new _ .none vu vs) pu ps (by rw [hlen]; exact hj) (by rw [hlen]; exact hlt) ?_ (by rw [hlen]; exact hz)
  refine ⟨.ref _, _, I5.laid (t' := s4.toks) (o := .tup (xs.drop (j + 1)).reverse) (fun b ob q => Heap.get?_push_of_some _ q) (Nat.le_refl _) ?_, rfl, q _ (I5.hok.fresh (Nat.le_refl _))⟩
  exact ⟨by rw [List.length_reverse, List.length_drop]; omega, _, (r.drop (j + 1)).reverse, IsTup.new _ _⟩
end
section
variable {Γ : List Gh} {ρ : Rho} {H : Hp} {R : PX} {te : TE} {th : TO} {K : PySem.W.Frag}
theorem DqAll.reverse {H : Hp} : ∀ {vs : List V} {ds : List PyData}, DqAll H vs ds → DqAll H vs.reverse ds.reverse
  | _, [], h => by cases h; exact .nil
  | _, _ :: _, h => by
    cases h with
    | cons a b =>
      rw [List.reverse_cons, List.reverse_cons]
      exact (DqAll.reverse b).append (.cons a .nil)
theorem w_dnL (h : W Γ te ρ H fun x H1 => ∃ ds, x = .d (.list ds) ∧ WO Γ th ρ H1 fun o H2 => ∃ hi j, o = some hi ∧ hiAt ds.length hi = (j : Nat) ∧ j < ds.length ∧ R (.d (.list (ds.drop (j + 1)).reverse)) H2) : W Γ (tDn (rDnL K) te th) ρ H R := fun σ H' e s Q q =>
  h σ H' e s _ fun x v H1 H1' k e1 f1 d1 => by
    obtain ⟨ds, rfl, k⟩ := k
    refine k σ H1' e1 (s.ft f1) _ fun o H2 H2' k2 e2 f2 => ?_
    obtain ⟨hi, j, rfl, hj, hlt, k2⟩ := k2
    cases d1 with
    | @lst a vs _ ha hd =>
      refine ⟨hi, rfl, a, vs, j, rfl, SqL.of (f2.sq _ _ ha rfl), by rw [hd.len]; exact hj, by rw [hd.len]; exact hlt, fun p hp => ?_⟩
      have sm : Same H2' (upd H2' p (.lst (vs.drop (j + 1)).reverse)) := Same.new hp
      exact q _ _ H2 _ k2 (e2.trans sm) ((f1.trans f2).trans sm.ftq) (.lst upd_same ((ft_dps sm.ftq _ _ (ft_dps f2 _ _ hd)).drop (j + 1)).reverse)
theorem w_dnT (h : W Γ te ρ H fun x H1 => ∃ ds, x = .d (.tuple ds) ∧ WO Γ th ρ H1 fun o H2 => ∃ hi j, o = some hi ∧ hiAt ds.length hi = (j : Nat) ∧ j < ds.length ∧ R (.d (.tuple (ds.drop (j + 1)).reverse)) H2) : W Γ (tDn (rDnT K) te th) ρ H R := fun σ H' e s Q q =>
  h σ H' e s _ fun x v H1 H1' k e1 f1 d1 => by
    obtain ⟨ds, rfl, k⟩ := k
    refine k σ H1' e1 (s.ft f1) _ fun o H2 H2' k2 e2 f2 => ?_
    obtain ⟨hi, j, rfl, hj, hlt, k2⟩ := k2
    cases d1 with
    | @tup a vs _ ha hd =>
      refine ⟨hi, rfl, a, vs, j, rfl, SqT.of (f2.sq _ _ ha rfl), by rw [hd.len]; exact hj, by rw [hd.len]; exact hlt, fun p hp => ?_⟩
      have sm : Same H2' (upd H2' p (.tup (vs.drop (j + 1)).reverse)) := Same.new hp
      exact q _ _ H2 _ k2 (e2.trans sm) ((f1.trans f2).trans sm.ftq) (.tup upd_same ((ft_dps sm.ftq _ _ (ft_dps f2 _ _ hd)).drop (j + 1)).reverse)
end
end K2

set_option Elab.async false
set_option linter.all false
set_option maxRecDepth 100000
set_option maxHeartbeats 2000000
/-! ## enumerate and zip over tuples -/
namespace K2
open PySem L2 PySem.Spec PyProof.Rows RZ
open AutoSeq1 (wpAny_loadPart')
theorem meets_enumerate_newT (l : Addr) (items : Array Value) (n : Nat) (dct : Option Addr) (sl : Array (Option Value)) :
    Meets (Builtin.«enumerate.__new__» ⟨[.type "enumerate", .ref l], []⟩) (fun _ R s => s.heap.get? l = some { cls := .type "tuple", dict := dct, data := .seq items n, slots := sl } ∧
      R (.ok (.ret (.ref (s.heap.push { cls := .type "tuple_iterator", data := .fields #[.ref l, .int 0 0] }).objs.size)))
        { s with heap := (s.heap.push { cls := .type "tuple_iterator", data := .fields #[.ref l, .int 0 0] }).push { cls := .type "enumerate", data := .fields #[.none, .bool false, .ref s.heap.objs.size, rawInt 0, .none, .none] } }) :=
  .of_wp fun prog w A R s h => by
    obtain ⟨hp, g, d, tk, os⟩ := s; obtain ⟨hl, h⟩ := h
    have hsub := sub_enumerate
    have hL : Heap.IsTuple (Shared.heap ⟨hp, g, d, tk, os⟩) l items := ⟨_, hl, rfl, n, rfl⟩
    wp_walk using wpAny_loadPart' hl
    refine wpAny_stack_any fun st => wpAny_pure ?_
    split
    · rename_i c _ _ _ _ _
      cases (c == Value.type "enumerate")
      · wp_walk using wpAny_loadPart' hl, wpAny_pyIter_tuple hL
        exact ⟨_, rfl, h⟩
      · wp_walk using wpAny_loadPart' hl, wpAny_pyIter_tuple hL
        exact ⟨_, rfl, h⟩
    · wp_walk using wpAny_loadPart' hl, wpAny_pyIter_tuple hL
      exact ⟨_, rfl, h⟩
section
variable {prog : Program} {w : World} {A : Around} {E : Value → Shared → Prop} {s : Shared}
theorem call_enumerate_tup {l : Addr} {items : Array Value} {Q : Value → Shared → Prop} (hL : s.heap.IsTuple l items)
    (h : ∀ h', IsEnum h' (s.heap.objs.size + 1) s.heap.objs.size 0 .none → h'.IsTupleIter s.heap.objs.size l 0 → h'.objs.size = s.heap.objs.size + 2 →
      (∀ b o, s.heap.get? b = some o → h'.get? b = some o) → Q (.ref (s.heap.objs.size + 1)) { s with heap := h' }) :
    wpAny (model prog w) A (call (.type "enumerate") [.ref l]) Q E s := by
  obtain ⟨⟨c, dct, dt, sl⟩, hl, hc, n, hd⟩ := hL
  replace hc : c = .type "tuple" := hc
  replace hd : dt = .seq items n := hd
  subst hc hd
  refine callType_new PySem.F.called_enumerate (by decide) (PySem.F.typeCall_enumerate_1 _) (PySem.F.newCall_enumerate_1 _) (fun obj => PySem.F.args_object_init_2 obj _) PySem.F.entry_enumerate_new
    (meets_enumerate_newT l items n dct sl) ⟨hl, ?_⟩
  have hz : (s.heap.push { cls := .type "tuple_iterator", data := .fields #[.ref l, .int 0 0] }).objs.size = s.heap.objs.size + 1 := Heap.size_push ..
  show _ ∧ _
  rw [hz]
  have he : IsEnum ((s.heap.push { cls := .type "tuple_iterator", data := .fields #[.ref l, .int 0 0] }).push
      { cls := .type "enumerate", data := .fields #[.none, .bool false, .ref s.heap.objs.size, rawInt 0, .none, .none] }) (s.heap.objs.size + 1) s.heap.objs.size 0 .none := by
    have := Heap.get?_push_size (s.heap.push { cls := .type "tuple_iterator", data := .fields #[.ref l, .int 0 0] })
      (o := { cls := .type "enumerate", data := .fields #[.none, .bool false, .ref s.heap.objs.size, rawInt 0, .none, .none] }) rfl
    rw [hz] at this; exact this
  refine ⟨⟨_, he, rfl⟩, h _ he ⟨_, Heap.get?_push_of_some _ (Heap.get?_push_size _ rfl), rfl, rfl⟩ (by rw [Heap.size_push, hz]) fun b o x => Heap.get?_push_of_some _ (Heap.get?_push_of_some _ x)⟩
end
/-- the tuple at a, each item in a new pair -/
def IteT (K : PySem.W.Frag) (a : Addr) : It :=
  ⟨fun i H => ∃ (xs : List V) (x : V), SqT K H a xs ∧ xs[i]? = some x, fun i H v H' => ∃ T x, v = .ref T ∧ H T = none ∧ H' = upd H T (.tup [.int (i : Nat), x]) ∧ ∀ xs, SqT K H a xs → xs[i]? = some x, fun i H => ∃ xs : List V, SqT K H a xs ∧ xs.length ≤ i⟩
theorem turn_enumT {P : Program} {w : World} {K : PySem.W.Frag} {elts : List Expr} {kk : Nat} {tpos : Pos} (a e it : Addr) :
    Turn P w K (.Tuple elts kk tpos) (IteT K a) [e, it] e (fun i h => (∃ old, IsEnum h e it ((i : Nat) : Int) old) ∧ h.IsTupleIter it a i ∧ e ≠ it) where
  mem := by simp
  obj := fun i h st b hb => by
    obtain ⟨⟨old, he⟩, ⟨o, ho, hc, hd⟩, _⟩ := st
    have e' : b = e ∨ b = it := by simpa using hb
    rcases e' with z | z
    · rw [z]; exact ⟨_, he, fun v q => nomatch q⟩
    · rw [z]; exact ⟨o, ho, fun v q => by rw [hd] at q; cases q⟩
  keep := fun i h h' st k => let ⟨⟨old, he⟩, ⟨o, ho, r⟩, hne⟩ := st; ⟨⟨old, k e (by simp) _ he⟩, ⟨o, k it (by simp) o ho, r⟩, hne⟩
  item := by
    intro X hP hw hK hc i pins s σ H E I hf st hg
    subst hP hw hK
    obtain ⟨⟨old, he⟩, hit, hne⟩ := st
    obtain ⟨xs, x, hq, hx⟩ := hg
    obtain ⟨its, rv, p, hz⟩ := I.tuple hq
    obtain ⟨u, hu, ru⟩ := rv.get hx
    have hel : e < s.heap.objs.size := Heap.lt_size he
    have hil : it < s.heap.objs.size := by obtain ⟨_, q, _⟩ := hit; exact Heap.lt_size q
    have hA : X.A.in1.handled = none := I.ok.hd hc
    have hlt : i < its.toArray.size := by
      have := (List.getElem?_eq_some_iff.mp hu).1
      simpa using this
    obtain ⟨oa, ha, hca, na, hda⟩ := id p
    have hai : a ≠ it := fun z => by
      obtain ⟨o, ho, hc2, _⟩ := hit
      rw [z, ho] at ha
      cases ha
      rw [hc2] at hca
      exact absurd (Value.type.inj hca) (by decide)
    have hae : a ≠ e := fun z => by
      rw [z, he] at ha
      cases ha
      exact absurd (Value.type.inj hca) (by decide)
    refine wpAny_pyNext_enum_itemD (Draws.tuple (A := X.A.in1) hA it a hai its.toArray) he ⟨hit, p⟩ hlt hne (by
      intro z
      rcases List.mem_cons.mp z with z | z
      · exact hne z
      · exact hae (List.mem_singleton.mp z).symm) fun u' h' tk' hu' ho hst' hT hsz hk => ?_
    have eu : u' = u := by
      have : its.toArray[i]? = some u' := hu'
      simp [hu] at this
      exact this.symm
    subst eu
    obtain ⟨hit', _⟩ := hst'
    refine ⟨_, rfl, wpAny_letOwnedTupleGo_enum (s := { s with heap := h', toks := tk' + 1 }) ho fun h'' he' sb => ?_⟩
    have hT2 : h''.get? s.heap.objs.size = some { cls := .type "tuple", data := .seq #[.int i tk', u'] } := (sb.2 _ (Nat.ne_of_gt hel)).trans hT
    have new : ObjOk X.prog X.w (upd H s.heap.objs.size (.tup [.int (i : Nat), x])) h'' s.heap.objs.size (.tup [.int (i : Nat), x]) :=
      ⟨by show 2 ≤ sizeLine; decide, [.int i tk', u'], .cons ⟨_, rfl⟩ (.cons ru .nil), ⟨_, hT2, rfl, _, rfl⟩⟩
    have I1 : Inv X pins σ (upd H s.heap.objs.size (.tup [.int (i : Nat), x])) { s with heap := h'', toks := tk' + 1 } :=
      I.turnedNew (ch := [e, it]) (fun b ob hb q => (sb.2 b (fun z => hb (by simp [z]))).trans (hk b ob (fun z => hb (by simp [z])) (fun z => hb (by simp [z])) q)) hf (Nat.le_refl _) new
    refine ⟨.ref s.heap.objs.size, _, I1, rfl, ⟨_, x, rfl, I.hok.fresh (Nat.le_refl _), rfl, fun ys hy => by rw [I.tuple_inj hy hq]; exact hx⟩, ⟨⟨u', ?_⟩, hit'.at fun o q => (sb.2 it (Ne.symm hne)).trans q, hne⟩, fun b hb => ?_⟩
    · have e1 : ((i + 1 : Nat) : Int) = (i : Int) + 1 := by omega
      rw [e1]; exact he'
    · have hb' : b < s.heap.objs.size := by
        have e' : b = e ∨ b = it := by simpa using hb
        rcases e' with z | z
        · rw [z]; exact hel
        · rw [z]; exact hil
      rw [upd_ne (Nat.ne_of_lt hb')]
      exact (hf b hb).1
  done := by
    intro X hP hw hK hc i pins s σ H E I hf st hg
    subst hP hw hK
    obtain ⟨⟨old, he⟩, hit, hne⟩ := st
    obtain ⟨xs, hq, hx⟩ := hg
    obtain ⟨its, rv, p, hz⟩ := I.tuple hq
    obtain ⟨f0, f1, f2, f3, f4, f5⟩ := hf it (by simp)
    have hl := rv.length
    obtain ⟨oa, ha, hca, na, hda⟩ := id p
    have hai : a ≠ it := fun z => by
      obtain ⟨o, ho, hc2, _⟩ := hit
      rw [z, ho] at ha
      cases ha
      rw [hc2] at hca
      exact absurd (Value.type.inj hca) (by decide)
    have hA : X.A.in1.handled = none := I.ok.hd hc
    have hT : s.TypeIs (.ref e) "enumerate" := ⟨_, he, rfl⟩
    unfold pyNext
    refine wpAny_bind (wpAny_attempt (wpAny_callSpecial?_slot (name := Str.ofString "__next__") hT PySem.F.slot_enumerate_next
      (wpAny_call_entry PySem.F.slot_enumerate_next hT PySem.F.entry_enumerate_next ?_ (PySem.F.args_enumerate_next_1 _))))
    show wpAny _ _ (field (.ref e) 2 >>= _) _ _ _
    refine wpAny_bind (wpAny_field he rfl (x := .ref it) rfl ?_)
    refine wpAny_bind (wpAny_nextOf_tuple_end hA hit p (by simp; omega) fun h' x he' hx' => ?_)
    obtain ⟨o, ho, hcc⟩ := hx'
    refine wpAny_bind (wpAny_isInstance (T := "StopIteration") (b := true) ⟨o, ho, hcc⟩ isSubtype_stop ?_)
    exact wpAny_pure ⟨rfl, I.turned (t' := s.toks) (fun b o hb q => he' b o hb q) f0 f1 f3 f4 f5⟩
  self := fun A i s Q E st h => let ⟨⟨_, he⟩, _⟩ := st; wpAny_pyIter_enum he h
def iEnumT (K : PySem.W.Frag) (ta : TA) : TI := fun σ H R => ta σ H fun vs H1 => ∃ a xs, vs = [.ref a] ∧ SqT K H1 a xs ∧ R (IteT K a) H1
theorem pi_enumT {X : Cx} {e : Expr} {ta : TA} {p pos tpos : Pos} {elts : List Expr} {kk : Nat} (hg : Gl X "enumerate") (hm : X.mg "enumerate" = none) (ha : PA X [e] ta) (hs : starEach [e] X.env = [(false, eval e X.env)] := by rfl) :
    PI X (.Tuple elts kk tpos) (.Call (.Name "enumerate" p) [e] [] pos) (iEnumT X.K ta) := by
  refine ⟨fun pins s σ H R I h => ?_⟩
  refine Call_ (ld_blt I hg hm PyProof.Rows.boot_enumerate (PyProof.Rows.callWith_type1 (thn (ha.run pos pins s σ H _ I h) fun us s1 ⟨vs, H1, I1, r1, q1⟩ => ?_) hs rfl))
  obtain ⟨a, xs, ex, hq, q⟩ := q1
  subst ex
  cases r1 with
  | cons r rr =>
    cases rr
    cases r
    obtain ⟨its, rv, p', hz⟩ := I1.tuple hq
    refine call_enumerate_tup p' fun h' he hit hsz hk => wpAny_pyIter_enum he ?_
    have I2 : Inv X pins σ H1 { s1 with heap := h' } := I1.kept (t' := s1.toks) hk
    refine ⟨s1.heap.objs.size + 1, [s1.heap.objs.size + 1, s1.heap.objs.size], _, _, H1, rfl, I2, turn_enumT a (s1.heap.objs.size + 1) s1.heap.objs.size, ⟨⟨.none, he⟩, hit, Nat.succ_ne_self _⟩, fun b hb => ?_, q⟩
    have e' : b = s1.heap.objs.size + 1 ∨ b = s1.heap.objs.size := by simpa using hb
    have hle : s1.heap.objs.size ≤ b := by
      rcases e' with z | z
      · rw [z]; exact Nat.le_add_right _ _
      · rw [z]; exact Nat.le_refl _
    exact I1.fpOk hle (I1.hok.fresh hle)
theorem walk_enumT {K : PySem.W.Frag} {a : Addr} {xs : List V} : L2.Walk (IteT K a) xs.length (fun H => SqT K H a xs) (YPair (fun i => some (.int (i : Nat))) (fun i => xs[i]?)) := by
  refine ⟨fun i _ hi q => ⟨xs, xs[i], q, by simp [hi]⟩, fun _ q => ⟨xs, q, Nat.le_refl _⟩, fun i H v H' _ q y => ?_⟩
  obtain ⟨T, x, h1, h2, h3, h4⟩ := y
  exact ⟨T, .int (i : Nat), x, h1, h2, h3, rfl, h4 xs q⟩
theorem walk_zipT {K : PySem.W.Frag} {a b : Addr} {xs ys : List V} {n : Nat} (hn : n = min xs.length ys.length) : L2.Walk (ItzT K a b) n (fun H => SqT K H a xs ∧ SqT K H b ys) (YPair (fun i => xs[i]?) (fun i => ys[i]?)) := by
  subst hn
  refine ⟨fun i _ hi q => ?_, fun _ q => ⟨xs, ys, q.1, q.2, by omega⟩, fun i H v H' _ q y => ?_⟩
  · have h1 : i < xs.length := by omega
    have h2 : i < ys.length := by omega
    exact ⟨xs, ys, xs[i], ys[i], q.1, q.2, by simp [h1], by simp [h2]⟩
  · obtain ⟨T, x, z, h1, h2, h3, h4, h5⟩ := y
    exact ⟨T, x, z, h1, h2, h3, h4 xs q.1, h5 ys q.2⟩
/-! ## rules over data -/
section
variable {Γ : List Gh} {ρ : Rho} {H : Hp} {E : EX} {t : TS} {ta : TA} {K : PySem.W.Frag}
theorem go_any {Jt : It} {n : Nat} {G : Hp → Prop} {Y : Nat → Hp → V → Hp → Prop} (w : L2.Walk Jt n G Y) (gh : Gh) (it : Nat → PyData) (hG : ∀ H, gh.p H → G H) (hY : ∀ i Hc x Hc', i < n → gh.p Hc → Y i Hc x Hc' → Same Hc Hc' ∧ Dq Hc' x (it i))
    {g : TG} (J : Nat → Rho → Hp → Prop) (h0 : J 0 ρ H) (hs : ∀ i ρ2 H2, i < n → J i ρ2 H2 → WG (gh :: Γ) g (.d (it i)) ρ2 H2 fun ρ3 H3 => Go (gh :: Γ) t { E with nx := J (i + 1), ct := J (i + 1), bk := E.nx } ρ3 H3)
    (hd : ∀ ρ2 H2, J n ρ2 H2 → E.nx ρ2 H2) : ∀ D, Le Γ E D → ∀ σ H', Same H H' → Sr Γ H' σ ρ → gh.p H' →
    ∃ W : Nat → Nat → L2.St → Hp → Prop, (∃ m, W 0 m σ H') ∧ ∀ i m σ H, W i m σ H →
      (Jt.stop i H ∧ D.nx σ H) ∨ (Jt.go i H ∧ ∃ N : L2.St → Hp → Prop, (∀ σ' H', N σ' H' → ∃ m', m' < m ∧ W (i + 1) m' σ' H') ∧ ∀ x H', Jt.yld i H x H' → g x σ H' fun σ2 H2 => t { D with nx := N, ct := N, bk := D.nx } σ2 H2) := fun D le σ H' e s hgh => by
  refine L2.for_it w (fun i σ2 H2' => ∃ ρ2 H2, J i ρ2 H2 ∧ Same H2 H2' ∧ Sr (gh :: Γ) H2' σ2 ρ2) ⟨ρ, H, h0, e, s.ghost hgh⟩ ?_ ?_ ?_
  · rintro i σ2 H2' _ ⟨ρ2, H2, _, _, s2⟩
    exact hG _ (s2.gh _ List.mem_cons_self)
  · rintro i x σ2 Hc Hc' hi ⟨ρ2, H2, j, e2, s2⟩ y
    obtain ⟨sm, dq⟩ := hY i Hc x Hc' hi (s2.gh _ List.mem_cons_self) y
    refine hs i ρ2 H2 hi j x σ2 Hc' (e2.trans sm) (s2.ft sm.ftq) dq _ fun ρ3 H3 σ3 H3' g e3 f3 s3 => ?_
    exact g { D with nx := fun σ2 H2' => ∃ ρ2 H2, J (i + 1) ρ2 H2 ∧ Same H2 H2' ∧ Sr (gh :: Γ) H2' σ2 ρ2, ct := fun σ2 H2' => ∃ ρ2 H2, J (i + 1) ρ2 H2 ∧ Same H2 H2' ∧ Sr (gh :: Γ) H2' σ2 ρ2, bk := D.nx } ⟨fun ρ4 H4 σ4 H4' k4 e4 s4 => ⟨ρ4, H4, k4, e4, s4⟩, le.rt, fun ρ4 H4 σ4 H4' k4 e4 s4 => le.nx ρ4 H4 σ4 H4' k4 e4 s4.unghost, fun ρ4 H4 σ4 H4' k4 e4 s4 => ⟨ρ4, H4, k4, e4, s4⟩⟩ σ3 H3' e3 s3
  · rintro σ2 H2' ⟨ρ2, H2, j, e2, s2⟩
    exact le.nx ρ2 H2 σ2 H2' (hd ρ2 H2 j) e2 s2.unghost
theorem pair_dq {Hc Hc' : Hp} {xs ys : Nat → Option V} {i : Nat} {v : V} {d e : PyData} (y : YPair xs ys i Hc v Hc') (h1 : ∀ x, xs i = some x → Dq Hc x d) (h2 : ∀ y, ys i = some y → Dq Hc y e) : Same Hc Hc' ∧ Dq Hc' v (.tuple [d, e]) := by
  obtain ⟨T, x, z, rfl, hT, rfl, hx, hz⟩ := y
  have sm : Same Hc (upd Hc T (.tup [x, z])) := Same.new hT
  exact ⟨sm, .tup upd_same (.cons (ft_dp sm.ftq _ _ (h1 x hx)) (.cons (ft_dp sm.ftq _ _ (h2 z hz)) .nil))⟩
/-- for number, one in enumerate(t) -/
theorem go_forE {g : TG} (h : WA Γ ta ρ H fun xs H1 => ∃ ds, xs = [.d (.tuple ds)] ∧ ∃ J : Nat → Rho → Hp → Prop, J 0 ρ H1 ∧
    (∀ Γ', (noLs ds = true → (Γ.all fun p => p.nl) = true → (Γ'.all fun p => p.nl) = true) → ∀ i d ρ2 H2, ds[i]? = some d → J i ρ2 H2 → WG Γ' g (.d (.tuple [.int (i : Nat), d])) ρ2 H2 fun ρ3 H3 => Go Γ' t { E with nx := J (i + 1), ct := J (i + 1), bk := E.nx } ρ3 H3) ∧ (∀ ρ2 H2, J ds.length ρ2 H2 → E.nx ρ2 H2)) :
    Go Γ (tFor (iEnumT K ta) g t) E ρ H := fun D le σ H' e s =>
  h σ H' e s _ fun xs vs H1 H'' k e1 f1 d1 => by
    obtain ⟨ds, rfl, J, h0, hs, hd⟩ := k
    cases d1 with
    | cons a1 a2 =>
      cases a2
      cases a1 with
      | @tup a vs _ ha hds =>
        refine ⟨a, vs, rfl, SqT.of ha, go_any (walk_enumT (K := K) (a := a) (xs := vs)) (ghT a vs ds) (fun i => .tuple [.int (i : Nat), atD ds i]) (fun H h => SqT.of h.1) (fun i Hc x Hc' hi p y => ?_) J h0 (fun i ρ2 H2 hi j => ?_) (fun ρ2 H2 j => ?_) D le σ H'' e1 (s.ft f1) ⟨ha, hds⟩⟩
        · refine pair_dq y (fun z hz => ?_) fun z hz => ?_
          · cases hz
            exact Dq.int _
          · obtain ⟨d, h1, h2⟩ := p.2.getV hz
            rw [atD_of h1]
            exact h2
        · have hi' : i < ds.length := by rw [← hds.len]; exact hi
          rw [atD_of (List.getElem?_eq_getElem hi')]
          refine hs _ (fun n n2 => ?_) i _ ρ2 H2 (List.getElem?_eq_getElem hi') j
          simp only [List.all_cons, n2, Bool.and_true]
          exact n
        · rw [hds.len] at j
          exact hd ρ2 H2 j
/-- [e for x, y in zip(t, u)], tuples -/
def ghZ (a b : Addr) (xs ys : List V) (ds es : List PyData) : Gh where
  p := fun H => (H a = some (.tup xs) ∧ DqAll H xs ds) ∧ (H b = some (.tup ys) ∧ DqAll H ys es)
  ft := fun H H' f h => ⟨⟨f.sq _ _ h.1.1 rfl, ft_dps f _ _ h.1.2⟩, ⟨f.sq _ _ h.2.1 rfl, ft_dps f _ _ h.2.2⟩⟩
  nl := noLs ds && noLs es
  ul := fun n H l ys o hl h => by
    obtain ⟨n1, n2⟩ := Bool.and_eq_true_iff.mp n
    exact ⟨⟨updl_t hl h.1.1, updl_dps hl _ _ n1 h.1.2⟩, ⟨updl_t hl h.2.1, updl_dps hl _ _ n2 h.2.2⟩⟩
theorem w_lcZ {R : PX} {te : TE} {tt : TT} {g : TG} {vs : List Nat} (h : WA Γ ta ρ H fun xs H1 => ∃ ds es, xs = [.d (.tuple ds), .d (.tuple es)] ∧ min ds.length es.length ≤ 50000 ∧ ∃ J : Nat → List PyData → Hp → Prop, J 0 [] H1 ∧ (∀ i acc H2 D o, H1 D = none → J i acc H2 → J i acc (upd H2 D o)) ∧
    (∀ i d e acc H2, ds[i]? = some d → es[i]? = some e → acc.length ≤ i → J i acc H2 → TW Γ g vs (.d (.tuple [d, e])) ρ H2 fun ρ3 H3 => WT Γ tt ρ3 H3 fun b H4 => (b = true → W Γ te ρ3 H4 fun y H5 => ∃ e, y = .d e ∧ noL e = true ∧ J (i + 1) (acc ++ [e]) H5) ∧ (b = false → J (i + 1) acc H4)) ∧
    (∀ acc H2, acc.length ≤ min ds.length es.length → J (min ds.length es.length) acc H2 → R (.d (.list acc)) H2)) : W Γ (tLc (iZipA K ta) g tt te vs) ρ H R := fun σ H' e s Q q =>
  h σ H' e s _ fun xs vs' H1 H1' k e1 f1 d1 => by
    obtain ⟨ds, es, rfl, hl, J, h0, hJ, hs, hd⟩ := k
    cases d1 with
    | cons a1 a2 =>
      cases a2 with
      | cons a2 a3 =>
        cases a3
        cases a1 with
        | @tup a us _ ha hds =>
          cases a2 with
          | @tup b zs _ hb hes =>
            refine ⟨a, b, us, zs, rfl, .inr ⟨SqT.of ha, SqT.of hb, lc_any (walk_zipT (K := K) (a := a) (b := b) (xs := us) (ys := zs) rfl) (ghZ a b us zs ds es) (fun i => .tuple [atD ds i, atD es i]) (fun H h => ⟨SqT.of h.1.1, SqT.of h.2.1⟩) (fun i Hc x Hc' hi p y => ?_) (by rw [hds.len, hes.len]; exact hl) J e1 (s.ft f1) ⟨⟨ha, hds⟩, ⟨hb, hes⟩⟩ h0 hJ (fun i acc H2 hi hla j => ?_) fun acc H2 H'' D hla j e2 f2 dq => ?_⟩⟩
            · refine pair_dq y (fun z hz => ?_) fun z hz => ?_
              · obtain ⟨d, h1, h2⟩ := p.1.2.getV hz
                rw [atD_of h1]
                exact h2
              · obtain ⟨d, h1, h2⟩ := p.2.2.getV hz
                rw [atD_of h1]
                exact h2
            · have hi1 : i < ds.length := by rw [← hds.len]; omega
              have hi2 : i < es.length := by rw [← hes.len]; omega
              rw [atD_of (List.getElem?_eq_getElem hi1), atD_of (List.getElem?_eq_getElem hi2)]
              exact hs i _ _ acc H2 (List.getElem?_eq_getElem hi1) (List.getElem?_eq_getElem hi2) hla j
            · rw [hds.len, hes.len] at j hla
              exact q _ _ H2 H'' (hd acc H2 hla j) e2 (f1.trans f2) dq
end
end K2

set_option Elab.async false
set_option linter.all false
set_option maxRecDepth 100000
set_option maxHeartbeats 2000000
/-! ## min, max, * of tuples; a script list; extend; dicts with text keys -/
namespace K2
open PySem L2 PySem.Spec PyProof.Rows
open AutoSeq1 (wpAny_loadPart')
section
variable {prog : Program} {w : World} {A : Around} {E : Value → Shared → Prop} {s : Shared} {l : Addr} {its : List Value} {ns : List Int}
theorem iter_tupI {Q : Value → Shared → Prop} {its : Array Value} (hl : s.heap.IsTuple l its)
    (h : ∀ s₂ : Shared, s₂ = { s with heap := s.heap.push { cls := .type "tuple_iterator", data := .fields #[.ref l, .int 0 0] } } →
      (s₂.heap.IsTupleIter s.heap.objs.size l 0 ∧ s₂.heap.IsTuple l its) → (∀ b ∈ [s.heap.objs.size, l], b < s₂.heap.objs.size) → l ≠ s.heap.objs.size → Q (.ref s.heap.objs.size) s₂) :
    wpAny (model prog w) A (pyIter (.ref l)) Q E s := by
  have hlt : l < s.heap.objs.size := by obtain ⟨_, e, _⟩ := hl; exact Heap.lt_size e
  refine wpAny_pyIter_tuple hl (h _ rfl ⟨⟨_, Heap.get?_push_size _ rfl, rfl, rfl⟩, hl.push _⟩ (fun b hb => ?_) (Nat.ne_of_lt hlt))
  show b < (s.heap.push _).objs.size
  rw [Heap.size_push]
  rcases List.mem_cons.mp hb with rfl | hb
  · exact Nat.lt_succ_self _
  · rcases List.mem_cons.mp hb with rfl | hb
    · exact Nat.lt_succ_of_lt hlt
    · cases hb
theorem old_keptT {h' : Heap} (hk : ∀ b o, b ∉ [s.heap.objs.size] → (s.heap.push { cls := .type "tuple_iterator", data := .fields #[.ref l, .int 0 0] }).get? b = some o → h'.get? b = some o) :
    ∀ b o, s.heap.get? b = some o → h'.get? b = some o := fun b o e => by
  refine hk b o (fun hm => ?_) (Heap.get?_push_of_some _ e)
  rcases List.mem_cons.mp hm with e1 | hm
  · exact absurd (e1 ▸ Heap.lt_size e) (Nat.lt_irrefl _)
  · cases hm
theorem max_rawT {Q : Value → Shared → Prop} (hh : A.handled = none) (hl : s.heap.IsTuple l its.toArray) (hi : IntsAre its ns) (hne : 0 < ns.length)
    (h : ∀ h' tk M t', (∀ b o, s.heap.get? b = some o → h'.get? b = some o) → M ∈ ns → (∀ a, a ∈ ns → a ≤ M) → Q (.int M t') { s with heap := h', toks := tk }) : wpAny (model prog w) A (call (.builtin "max") [.ref l]) Q E s := by
  obtain ⟨xs, e⟩ := hi.allInts.items
  have hn : numsOf (intItems xs).toList = ns := by rw [← e]; exact hi.numsOf
  rw [nums_intItems] at hn
  subst hn
  rw [e] at hl
  have hsz : 0 < xs.size := by simpa using hne
  refine call_max_walk (iter_tupI hl fun s₂ e st hfp hlI => ?_)
  subst e
  refine ⟨_, _, _, _, _, _, _, rfl, Walks.tuple (A := A.in1) hh _ l hlI (intItems xs), st, hfp, by simpa [intItems] using hsz, CmpOf.ints_gt (numAt xs) (fun _ _ => intItems_at), fun v h' tk hP hk => ?_⟩
  have hv : (intItems xs)[argBest (fun i j => decide (numAt xs i > numAt xs j)) (xs.size - 1)]? = some v := by simpa [intItems] using hP
  obtain ⟨t, rfl⟩ := intItems_at hv
  obtain ⟨h1, h2⟩ := argBest_gt (numAt xs) (xs.size - 1)
  refine h h' tk _ t (old_keptT hk) ?_ fun a ha => ?_
  · rw [numAt_eq]; exact PySem.getD_mem (by rw [List.length_map, Array.length_toList]; omega)
  · obtain ⟨j, hj, rfl⟩ := mem_getD ha
    rw [List.length_map, Array.length_toList] at hj
    rw [← numAt_eq]; exact h2 j (by omega)
theorem min_rawT {Q : Value → Shared → Prop} (hh : A.handled = none) (hl : s.heap.IsTuple l its.toArray) (hi : IntsAre its ns) (hne : 0 < ns.length)
    (h : ∀ h' tk M t', (∀ b o, s.heap.get? b = some o → h'.get? b = some o) → M ∈ ns → (∀ a, a ∈ ns → M ≤ a) → Q (.int M t') { s with heap := h', toks := tk }) : wpAny (model prog w) A (call (.builtin "min") [.ref l]) Q E s := by
  obtain ⟨xs, e⟩ := hi.allInts.items
  have hn : numsOf (intItems xs).toList = ns := by rw [← e]; exact hi.numsOf
  rw [nums_intItems] at hn
  subst hn
  rw [e] at hl
  have hsz : 0 < xs.size := by simpa using hne
  refine call_min_walk (iter_tupI hl fun s₂ e st hfp hlI => ?_)
  subst e
  refine ⟨_, _, _, _, _, _, _, rfl, Walks.tuple (A := A.in1) hh _ l hlI (intItems xs), st, hfp, by simpa [intItems] using hsz, CmpOf.ints_lt (numAt xs) (fun _ _ => intItems_at), fun v h' tk hP hk => ?_⟩
  have hv : (intItems xs)[argBest (fun i j => decide (numAt xs i < numAt xs j)) (xs.size - 1)]? = some v := by simpa [intItems] using hP
  obtain ⟨t, rfl⟩ := intItems_at hv
  obtain ⟨h1, h2⟩ := argBest_lt (numAt xs) (xs.size - 1)
  refine h h' tk _ t (old_keptT hk) ?_ fun a ha => ?_
  · rw [numAt_eq]; exact PySem.getD_mem (by rw [List.length_map, Array.length_toList]; omega)
  · obtain ⟨j, hj, rfl⟩ := mem_getD ha
    rw [List.length_map, Array.length_toList] at hj
    rw [← numAt_eq]; exact h2 j (by omega)
end
def rMaxT (K : PySem.W.Frag) : List V → Hp → VK → Prop := fun vs H Q => ∃ (a : Addr) (ns : List Int), vs = [V.ref a] ∧ SqT K H a (ns.map V.int) ∧ 0 < ns.length ∧ ∀ m, m ∈ ns → (∀ y, y ∈ ns → y ≤ m) → Q (.int m) H
def rMinT (K : PySem.W.Frag) : List V → Hp → VK → Prop := fun vs H Q => ∃ (a : Addr) (ns : List Int), vs = [V.ref a] ∧ SqT K H a (ns.map V.int) ∧ 0 < ns.length ∧ ∀ m, m ∈ ns → (∀ y, y ∈ ns → m ≤ y) → Q (.int m) H
section
variable {X : Cx}
theorem cr_maxT (hc : X.calm = true) : CallR X (.builtin "max") (rMaxT X.K) := by
  intro pins s σ H vs us Q I r h
  obtain ⟨a, ns, rfl, hs, hne, q⟩ := h
  obtain ⟨its, rv, hl, _⟩ := I.tuple hs
  rw [Vals.ref1 r]
  exact max_rawT (I.ok.hd hc) hl rv.ints hne fun h' tk m t' hk h1 h2 => ⟨.int _, H, I.kept hk, ⟨_, rfl⟩, q m h1 h2⟩
theorem cr_minT (hc : X.calm = true) : CallR X (.builtin "min") (rMinT X.K) := by
  intro pins s σ H vs us Q I r h
  obtain ⟨a, ns, rfl, hs, hne, q⟩ := h
  obtain ⟨its, rv, hl, _⟩ := I.tuple hs
  rw [Vals.ref1 r]
  exact min_rawT (I.ok.hd hc) hl rv.ints hne fun h' tk m t' hk h1 h2 => ⟨.int _, H, I.kept hk, ⟨_, rfl⟩, q m h1 h2⟩
end
/-! t * k, k at least 1 -/
theorem tuple_mul1 (l : Addr) (items : Array Value) (n : Nat) (dd : Option Addr) (sl : Array (Option Value)) (u : Tok) :
    Meets (Builtin.«tuple.__mul__» ⟨[.ref l, .int 1 u], []⟩) (fun _ R s => s.heap.get? l = some { cls := .type "tuple", dict := dd, data := .seq items n, slots := sl } ∧ R (.ok (.ret (Value.ref l))) s) :=
  .of_wp fun prog w A R s h => by
    obtain ⟨hp, g, d, tk, os⟩ := s
    obtain ⟨hl, h⟩ := h
    have f1 := AutoSeq1.idx_int
    have c1 : (items.isEmpty || (1 : Int) == 1) = true := by simp
    wp_walk using wpAny_loadPart' hl
    exact ⟨_, rfl, h⟩
def rRepT1 (K : PySem.W.Frag) : R2 := fun x y H Q => ∃ l k xs, x = .ref l ∧ y = .int k ∧ SqT K H l xs ∧ xs ≠ [] ∧ 1 ≤ k ∧ k ≤ 1000 ∧ xs.length ≤ 1000 ∧ (k = 1 → Q (.ref l) H) ∧ (2 ≤ k → ∀ p, H p = none → Q (.ref p) (upd H p (.tup (List.replicate k.toNat xs).flatten)))
theorem op_repT1 {X : Cx} : OpR X (binaryOp .Mult) (rRepT1 X.K) := by
  intro pins s σ H x y v u Q I rx ry h
  obtain ⟨l, k, xs, rfl, rfl, hT, hne, h1, h2, hz, q1, q2⟩ := h
  by_cases hk : 2 ≤ k
  · exact op_repT pins s σ H _ _ v u Q I rx ry ⟨l, k, xs, rfl, rfl, hT, hne, hk, h2, hz, q2 hk⟩
  · have e : k = 1 := by omega
    subst e
    cases rx
    obtain ⟨t, rfl⟩ := ry
    obtain ⟨its, r, ⟨⟨cls, dd, data, sl⟩, ho, hc, n, hd⟩, hs⟩ := I.tuple hT
    simp only at hc hd
    subst hc hd
    refine wpAny_binaryOp_repeat_ref (T := "tuple") (U := "int") (by decide) ⟨_, ho, rfl⟩ (fun s' => typeIs_int s' 1 t) noFill_tuple_mul PySem.F.fills_int_mul PySem.F.slot_int_rmul repeat_tuple PySem.F.slot_int_index.lookup
      (call_meets PySem.F.slot_int_rmul (typeIs_int s 1 t) PySem.F.entry_int_rmul (PySem.F.args_int_rmul_2 _ _) (int_rmul_tuple 1 t l its.toArray n dd sl)
        ⟨ho, rfl, ⟨_, ho, rfl⟩, call_meets PySem.F.slot_tuple_mul ⟨_, ho, rfl⟩ PySem.F.entry_tuple_mul (PySem.F.args_tuple_mul_2 _ _) (tuple_mul1 l its.toArray n dd sl t) ⟨ho, ?_⟩⟩)
    exact ⟨.ref l, H, I, rfl, q1 rfl⟩
/-! a list as it came + a new list -/
def rCatS (K : PySem.W.Frag) : R2 := fun x y H Q => ∃ l b xs zs, x = .ref l ∧ y = .ref b ∧ SqL K H l xs ∧ H b = some (.lst zs) ∧ xs.length + zs.length ≤ sizeLine ∧ ∀ p, H p = none → Q (.ref p) (upd H p (.lst (xs ++ zs)))
theorem op_catS {X : Cx} : OpR X (binaryOp .Add) (rCatS X.K) := by
  intro pins s σ H x y v u Q I rx ry h
  obtain ⟨l, b, xs, zs, rfl, rfl, hH, hB, hz, q⟩ := h
  cases rx
  cases ry
  obtain ⟨its, r, ⟨⟨cls, dd, data, sl⟩, n, ho, hc, hdi, hd⟩, hl⟩ := I.list hH
  simp only at hc hd hdi
  subst hc hd hdi
  obtain ⟨z2, its2, n2, r2, hl2, e2⟩ := I.lstM hB
  have h1 := r.length
  have h2 := r2.length
  refine concat_meets ⟨_, ho, rfl⟩ ⟨_, e2, rfl⟩ noFill_list_add seq_list_add PySem.F.slot_list_add PySem.F.entry_list_add (PySem.F.args_list_add_2 _ _) (PyProof.Rows.list_addW l b its.toArray its2.toArray n n2 none none sl #[] (by rw [List.size_toArray, List.size_toArray]; omega)) ⟨ho, e2, ?_⟩
  have ea : its.toArray ++ its2.toArray = (its ++ its2).toArray := by simp
  rw [ea]
  exact ⟨.ref _, _, I.lnew (t' := s.toks) (r.append r2) (by rw [List.length_append]; omega), rfl, q _ I.fresh⟩
/-! ## rules over data -/
section
variable {Γ : List Gh} {ρ : Rho} {H : Hp} {R : PX} {te : TE} {K : PySem.W.Frag}
theorem oa_maxT {ns : List Int} (hn : 0 < ns.length) (k : ∀ m, m ∈ ns → (∀ y, y ∈ ns → y ≤ m) → R (.d (.int m)) H) : OA (rMaxT K) [.d (.tuple (ns.map .int))] H R := fun vs H' e d Q q => by
  cases d with
  | cons a c =>
    cases c
    cases a with
    | @tup p ys _ ha hd =>
      have z := hd.ints
      subst z
      exact ⟨p, ns, rfl, SqT.of ha, hn, fun m h1 h2 => q _ _ H H' (k m h1 h2) e (Ft.refl _) (Dq.int _)⟩
theorem oa_minT {ns : List Int} (hn : 0 < ns.length) (k : ∀ m, m ∈ ns → (∀ y, y ∈ ns → m ≤ y) → R (.d (.int m)) H) : OA (rMinT K) [.d (.tuple (ns.map .int))] H R := fun vs H' e d Q q => by
  cases d with
  | cons a c =>
    cases c
    cases a with
    | @tup p ys _ ha hd =>
      have z := hd.ints
      subst z
      exact ⟨p, ns, rfl, SqT.of ha, hn, fun m h1 h2 => q _ _ H H' (k m h1 h2) e (Ft.refl _) (Dq.int _)⟩
theorem o2_repT {xs : List PyData} {i : Int} (hne : xs ≠ []) (h0 : 1 ≤ i) (h1 : i ≤ 1000) (hz : xs.length ≤ 1000) (k : R (.d (.tuple (List.replicate i.toNat xs).flatten)) H) : O2 (rRepT1 K) (.d (.tuple xs)) (.d (.int i)) H R := fun v u H' e d1 d2 Q q => by
  cases d2
  cases d1 with
  | @tup a vs _ ha h1' =>
    refine ⟨a, i, vs, rfl, rfl, SqT.of ha, fun z => hne ?_, h0, h1, by rw [h1'.len]; exact hz, fun z => ?_, fun _ p hp => ?_⟩
    · subst z
      cases h1'
      rfl
    · subst z
      refine q _ _ H H' k e (Ft.refl _) ?_
      have z : (List.replicate (1 : Int).toNat xs).flatten = xs := by simp
      rw [z]
      exact Dq.tup ha h1'
    · have sm : Same H' (upd H' p (.tup (List.replicate i.toNat vs).flatten)) := Same.new hp
      exact q _ _ H _ k (e.trans sm) sm.ftq (.tup upd_same ((ft_dps sm.ftq _ _ h1').rep _))
/-- a list as it came is kept by name: SqL -/
theorem SqL.same {K : PySem.W.Frag} {H H' : Hp} {a : Addr} {xs : List V} (h : SqL K H a xs) (s : Same H H') : SqL K H' a xs := by
  rcases h with h | h
  · rcases h with h | ⟨o, h⟩
    · exact .inl (.inl (s _ _ h))
    · exact .inl (.inr ⟨o, s _ _ h⟩)
  · exact .inr h
theorem o2_catS {a : Addr} {vs : List V} {ds es : List PyData} (hl : ∀ H', Same H H' → SqL K H' a vs) (hd : ∀ H', DqAll H' vs ds) (hz : ds.length + es.length ≤ 16000000) (k : R (.d (.list (ds ++ es))) H) : O2 (rCatS K) (.o (.ref a)) (.d (.list es)) H R := fun v u H' e d1 d2 Q q => by
  cases d1
  cases d2 with
  | @lst b us _ hb h2 =>
    refine ⟨a, b, vs, us, rfl, rfl, hl H' e, hb, by rw [(hd H').len, h2.len, sizeLine_eq]; omega, fun p hp => ?_⟩
    have sm : Same H' (upd H' p (.lst (vs ++ us))) := Same.new hp
    exact q _ _ H _ k (e.trans sm) sm.ftq (.lst upd_same ((hd _).append (ft_dps sm.ftq _ _ h2)))
end
end K2

set_option Elab.async false
set_option linter.all false
set_option maxRecDepth 100000
set_option maxHeartbeats 2000000
/-! ## dicts with text keys told apart; tuples with objects -/
namespace K2
open PySem L2 PySem.Spec PyProof.Rows
section
variable {Γ : List Gh} {ρ : Rho} {H : Hp} {R : PX} {td ty tv te : TE} {ta : TA}
theorem w_dget (h : W Γ td ρ H fun x H1 => ∃ a kvs, x = .o (.ref a) ∧ H1 a = some (.dK kvs) ∧ W Γ ty ρ H1 fun y H2 => ∃ s v z, y = .d (.str s) ∧ H2 a = some (.dK kvs) ∧ valV kvs (.inr s) = some v ∧ DxR H2 v z ∧ R z H2) : W Γ (tDGet td ty) ρ H R := fun σ H' e s Q q =>
  h σ H' e s _ fun x v H1 H1' k e1 f1 d1 => by
    obtain ⟨a, kvs, rfl, ha, k⟩ := k
    cases d1
    refine k σ H1' e1 (s.ft f1) _ fun y u H2 H2' k2 e2 f2 d2 => ?_
    obtain ⟨t, w, z, rfl, ha2, hv, dz, k2⟩ := k2
    cases d2
    have g := DGet.k (k := .inr t) (e2 _ _ ha2)
    rw [hv] at g
    exact ⟨a, w, rfl, g, q z w H2 H2' k2 e2 (f1.trans f2) (ft_dx e2.ftq dz)⟩
/-- what a store into a dict leaves -/
def PutOk (H : Hp) (a : Addr) (kvs : List (Key × V)) (s : Str) (y : Dx) (R : Hp → Prop) : Prop := H a = some (.dK kvs) ∧ kvs.length ≤ 1000 ∧
  ∀ w H3, Same (fun b => if b = a then none else H b) H3 → Fr [a] H H3 → H3 a = some (.dK (putK kvs (.inr s) w)) → DxR H3 w y → R H3
theorem PutOk.go {H H' : Hp} {a : Addr} {kvs : List (Key × V)} {s : Str} {y : Dx} {R : Hp → Prop} {w : V} (h : PutOk H a kvs s y R) (e : Same H H') (dw : DxR H' w y) : DPut H' a (.str s) w (upd H' a (.dK (putK kvs (.inr s) w))) ∧ R (upd H' a (.dK (putK kvs (.inr s) w))) ∧ Ft H' (upd H' a (.dK (putK kvs (.inr s) w))) := by
  obtain ⟨ha, hl, k⟩ := h
  have fr : Fr [a] H' (upd H' a (.dK (putK kvs (.inr s) w))) := Fr.at (e _ _ ha) rfl
  refine ⟨DPut.k (k := .inr s) (e _ _ ha) (Nat.lt_of_le_of_lt hl (by decide)), k w _ (fun b o q => ?_) (e.frq.trans fr) upd_same (ft_dx fr.ft dw), fr.ft⟩
  by_cases hb : b = a
  · subst hb
    simp at q
  · rw [upd_ne hb]
    simp [hb] at q
    exact e b o q
theorem go_dput {EE : EX} (h : W Γ tv ρ H fun y H1 => W Γ td ρ H1 fun x H2 => W Γ ty ρ H2 fun z H3 => ∃ a kvs s, x = .o (.ref a) ∧ z = .d (.str s) ∧ PutOk H3 a kvs s y fun H4 => EE.nx ρ H4) : Go Γ (sDPut td ty tv) EE ρ H := fun D le σ H' e s =>
  h σ H' e s _ fun y w H1 H1' k e1 f1 d1 => k σ H1' e1 (s.ft f1) _ fun x v H2 H2' k2 e2 f2 d2 => k2 σ H2' e2 ((s.ft f1).ft f2) _ fun z u H3 H3' k3 e3 f3 d3 => by
    obtain ⟨a, kvs, t, rfl, rfl, p⟩ := k3
    cases d2
    cases d3
    obtain ⟨p1, p2, p3⟩ := p.go e3 (ft_dx f3 (ft_dx f2 d1))
    exact ⟨a, _, rfl, p1, le.nx ρ _ σ _ p2 (Same.refl _) ((((s.ft f1).ft f2).ft f3).ft p3)⟩
/-- d[k] as a target -/
theorem wg_dict {x : Dx} {R : Rho → Hp → Prop} (h : W Γ td ρ H fun o H2 => W Γ ty ρ H2 fun z H3 => ∃ a kvs s, o = .o (.ref a) ∧ z = .d (.str s) ∧ PutOk H3 a kvs s x fun H4 => R ρ H4) : WG Γ (gSub td ty rSetD) x ρ H R := fun v σ H' e s d Q q =>
  h σ H' e s _ fun o w H2 H2' k2 e2 f2 d2 => k2 σ H2' e2 (s.ft f2) _ fun z u H3 H3' k3 e3 f3 d3 => by
    obtain ⟨a, kvs, t, rfl, rfl, p⟩ := k3
    cases d2
    cases d3
    obtain ⟨p1, p2, p3⟩ := p.go e3 (ft_dx f3 (ft_dx f2 d))
    exact ⟨a, _, rfl, p1, q ρ _ σ _ p2 (Same.refl _) ((f2.trans f3).trans p3) (((s.ft f2).ft f3).ft p3)⟩
/-- a new tuple told apart -/
theorem w_tupO {ta : TA} (h : WA Γ ta ρ H fun xs H1 => xs.length ≤ 100000 ∧ ∀ p vs H2, Same H1 H2 → H2 p = some (.tup vs) → DxAll H2 vs xs → R (.o (.ref p)) H2) : W Γ (tTup ta) ρ H R := fun σ H' e s Q q =>
  h σ H' e s _ fun xs vs H1 H1' k e1 f1 d1 => by
    obtain ⟨hl, k⟩ := k
    refine ⟨by rw [d1.len]; exact Nat.le_trans hl (by decide), fun p hp => ?_⟩
    have sm : Same H1' (upd H1' p (.tup vs)) := Same.new hp
    exact q _ _ _ _ (k p vs _ (e1.trans sm) upd_same (ft_dxs sm.ftq d1)) (Same.refl _) (f1.trans sm.ftq) rfl
theorem wg_tupO {K : PySem.W.Frag} {n : Nat} {gs : TGs} {p : Addr} {vs : List V} {xs : List Dx} {R : Rho → Hp → Prop} (hp : H p = some (.tup vs)) (hd : DxAll H vs xs) (hn : xs.length = n) (h : WGs Γ gs xs ρ H R) : WG Γ (gTup K n gs) (.o (.ref p)) ρ H R := fun v σ H' e s d Q q => by
  cases d
  exact ⟨p, vs, rfl, SqT.of (e _ _ hp), by rw [hd.len]; exact hn, h _ σ H' e s (ft_dxs e.ftq hd) Q q⟩
theorem go_par3 {i j l : Nat} {EE : EX} {ta : TA} (h : WA Γ ta ρ H fun xs H1 => ∃ x y z, xs = [x, y, z] ∧ EE.nx (((ρ.set i (some x)).set j (some y)).set l (some z)) H1) : Go Γ (tPar3 i j l ta) EE ρ H := fun D le σ H' e s =>
  h σ H' e s _ fun xs vs H1 H'' k e1 f1 d1 => by
    obtain ⟨x, y, z, rfl, k⟩ := k
    cases d1 with
    | cons a b =>
      cases b with
      | cons b c =>
        cases c with
        | cons c d =>
          cases d
          exact ⟨_, _, _, rfl, le.nx _ H1 _ H'' k e1 ((((s.ft f1).set a).set b).set c)⟩
end
end K2

set_option Elab.async false
set_option linter.all false
set_option maxRecDepth 100000
set_option maxHeartbeats 2000000
/-! ## repr -/
namespace K2
open PySem L2 PySem.Spec PyProof.Rows
mutual
def szD : PyData → Nat
  | .none => 10
  | .bool _ => 10
  | .int _ => 2000
  | .str _ => 100
  | .list xs => 10 + szDs xs
  | .tuple xs => 10 + szDs xs
  | .dict _ => 0
def szDs : List PyData → Nat
  | [] => 0
  | x :: xs => szD x + 2 + szDs xs
end
mutual
/-- no dict, short texts, no huge ints -/
def okD : PyData → Bool
  | .none => true
  | .bool _ => true
  | .int i => decide (i.natAbs.log2 < 1920)
  | .str x => decide ((reprText x).length ≤ 100)
  | .list xs => okDs xs
  | .tuple xs => okDs xs
  | .dict _ => false
def okDs : List PyData → Bool
  | [] => true
  | x :: xs => okD x && okDs xs
end
theorem str_app (a b : Str) : (a ++ b).length = a.length + b.length := by
  show (a.cps ++ b.cps).size = _
  rw [Array.size_append]
  rfl
theorem textFrom_le : ∀ (ts : List Str) (k : Nat) (acc : Str), (PySem.textFrom k acc ts).length ≤ acc.length + (ts.map fun t => t.length + 2).sum
  | [], k, acc => by simp [PySem.textFrom]
  | t :: r, k, acc => by
    have h := textFrom_le r (k + 1) (acc ++ (if k > 0 then ", " else "" : String) ++ t)
    rw [str_app, str_app] at h
    have e : (Str.ofString (if k > 0 then ", " else "" : String)).length ≤ 2 := by
      split <;> decide
    rw [List.map_cons, List.sum_cons]
    show (PySem.textFrom (k + 1) _ r).length ≤ _
    omega
theorem join_le : ∀ ts : List Str, (Str.join ", " ts).length ≤ (ts.map fun t => t.length + 2).sum
  | [] => Nat.zero_le _
  | [x] => by
    show x.length ≤ _
    simp
  | x :: y :: r => by
    have ih := join_le (y :: r)
    show (x ++ Str.ofString ", " ++ Str.join ", " (y :: r)).length ≤ _
    rw [str_app, str_app]
    have e : (Str.ofString ", ").length = 2 := by decide
    simp only [List.map_cons, List.sum_cons] at ih ⊢
    omega
mutual
theorem shown_le : ∀ d : PyData, okD d = true → d.shown.length ≤ szD d
  | .none, _ => by
    show (Str.ofString "None").length ≤ 10
    decide
  | .bool b, _ => by
    cases b
    · show (Str.ofString "False").length ≤ 10
      decide
    · show (Str.ofString "True").length ≤ 10
      decide
  | .int i, h => by
    have h' : i.natAbs.log2 < 1920 := of_decide_eq_true h
    have e := int_text_length_le (k := 1920) (by decide) h'
    show (Str.ofString (toString i)).length ≤ 2000
    rw [PySem.ofString_length]
    omega
  | .str x, h => of_decide_eq_true h
  | .list xs, h => by
    have e := shownAll_le xs h
    have t := textFrom_le (PyData.shownAll xs) 0 "["
    show (PySem.textFrom 0 "[" (PyData.shownAll xs) ++ Str.ofString "]").length ≤ 10 + szDs xs
    rw [str_app]
    have e1 : (Str.ofString "]").length = 1 := by decide
    have e2 : (Str.ofString "[").length = 1 := by decide
    omega
  | .tuple xs, h => by
    have e := shownAll_le xs h
    have t := join_le (PyData.shownAll xs)
    show (Str.ofString "(" ++ Str.join ", " (PyData.shownAll xs) ++ Str.ofString (if (PyData.shownAll xs).length == 1 then ",)" else ")" : String)).length ≤ 10 + szDs xs
    rw [str_app, str_app]
    have e1 : (Str.ofString "(").length = 1 := by decide
    have e2 : (Str.ofString (if (PyData.shownAll xs).length == 1 then ",)" else ")" : String)).length ≤ 2 := by
      split <;> decide
    omega
  | .dict _, h => by simp [okD] at h
theorem shownAll_le : ∀ ds : List PyData, okDs ds = true → ((PyData.shownAll ds).map fun t => t.length + 2).sum ≤ szDs ds
  | [], _ => Nat.le_refl _
  | d :: ds, h => by
    have h' : okD d = true ∧ okDs ds = true := by simpa [okDs] using h
    have h1 := shown_le d h'.1
    have h2 := shownAll_le ds h'.2
    have e : ((PyData.shownAll (d :: ds)).map fun t => t.length + 2).sum = (d.shown.length + 2) + ((PyData.shownAll ds).map fun t => t.length + 2).sum := by
      have e0 : PyData.shownAll (d :: ds) = d.shown :: PyData.shownAll ds := by rw [PyData.shownAll]
      rw [e0, List.map_cons, List.sum_cons]
    rw [e]
    show _ ≤ szD d + 2 + szDs ds
    omega
end
mutual
theorem okD_show : ∀ d : PyData, okD d = true → d.showable = true ∧ d.hasDict = false
  | .none, _ => ⟨rfl, rfl⟩
  | .bool _, _ => ⟨rfl, rfl⟩
  | .int _, h => ⟨h, rfl⟩
  | .str _, _ => ⟨rfl, rfl⟩
  | .list xs, h => okDs_show xs h
  | .tuple xs, h => okDs_show xs h
  | .dict _, h => by simp [okD] at h
theorem okDs_show : ∀ ds : List PyData, okDs ds = true → PyData.showableAll ds = true ∧ PyData.hasDictAll ds = false
  | [], _ => ⟨rfl, rfl⟩
  | d :: ds, h => by
    have h' : okD d = true ∧ okDs ds = true := by simpa [okDs] using h
    obtain ⟨a1, a2⟩ := okD_show d h'.1
    obtain ⟨b1, b2⟩ := okDs_show ds h'.2
    exact ⟨by simp [PyData.showableAll, a1, b1], by simp [PyData.hasDictAll, a2, b2]⟩
end
def refD : PyData → Bool
  | .list _ => true
  | .tuple _ => true
  | _ => false
def rRepr (K : PySem.W.Frag) : List V → Hp → VK → Prop := fun xs H Q => ∃ v d, xs = [v] ∧ Dp K H v d ∧ ((∃ i, d = .int i) ∨ refD d = true) ∧ okD d = true ∧ d.depth ≤ 50 ∧ szD d ≤ 16000000 ∧ Q (.str d.shown) H
theorem call_repr {X : Cx} (hg : X.A.guards = some []) (hu : X.A.units + 100 < cLine) : CallR X (.builtin "repr") (rRepr X.K) := by
  intro pins s σ H xs us Q I r h
  obtain ⟨v, d, rfl, hd, hk, ok, hdep, hsz, q⟩ := h
  obtain ⟨u, rfl, ru⟩ := r.one
  obtain ⟨s1, s2⟩ := okD_show d ok
  rcases hk with ⟨i, rfl⟩ | hk
  · cases hd
    obtain ⟨t, rfl⟩ := ru
    refine PySem.P.repr_of_int (of_decide_eq_true s1) ⟨.str (PyData.int i).shown, H, I.tok _, ⟨_, rfl⟩, q⟩
  · have hl := shown_le d ok
    obtain ⟨as, rd⟩ := Dp.reads I d v u hd ru
    have hr : ∃ a, u = .ref a := by
      cases hd <;> first | (cases hk; done) | (cases ru; exact ⟨_, rfl⟩)
    obtain ⟨a, rfl⟩ := hr
    exact repr_of_reads' rd s1 (PyData.noDict_hsm s2) hg (by omega) (fun _ _ z => z) (fun h' t tk k => ⟨.str d.shown, H, I.kept k, ⟨t, rfl⟩, q⟩) (by rw [sizeLine_eq]; omega)
section
variable {H : Hp} {R : PX} {K : PySem.W.Frag}
theorem oa_repr {d : PyData} (hk : (∃ i, d = .int i) ∨ refD d = true) (ok : okD d = true) (hdep : d.depth ≤ 50) (hsz : szD d ≤ 16000000) (k : R (.d (.str d.shown)) H) : OA (rRepr K) [.d d] H R := fun vs H' e dd Q q => by
  cases dd with
  | cons a b =>
    cases b
    exact ⟨_, d, rfl, Dq.dp d _ a, hk, ok, hdep, hsz, q _ _ H H' k e (Ft.refl _) (Dq.str _)⟩
end
end K2

set_option Elab.async false
set_option linter.all false
set_option maxRecDepth 100000
set_option maxHeartbeats 2000000
/-! ## lambdas handed to a def, with or without a default -/
namespace K2
open PySem L2 PySem.Spec PyProof.Rows LamX PySem.W PySem.Calls
abbrev klf (name qual : Str) (params : Arguments) (body : Expr) (scope : Scope) (cl : List (Str × Addr)) (pm cdv ct dV : Value) : FuncData :=
  { name, qualname := qual, params, body := .expr body, scope, globals := mainGlobals, closure := cl, defaults := dV, kwdefaults := .none, doc := .none, pyModule := pm, annotations := none, code := cdv, closureTuple := ct, builtins := builtinsNs }
abbrev klo (name qual : Str) (params : Arguments) (body : Expr) (scope : Scope) (clos : List (Str × Addr)) (pm : Value) (c' : Addr) (ctv dV : Value) : Obj :=
  { cls := .type "function", data := .func (klf name qual params body scope clos pm (.ref c') ctv dV) }
section
variable {M : Model} {A : Around} {E : Value → Shared → Prop} {s : Shared} {name qual : Str} {params : Arguments} {body : Expr} {scope : Scope} {env : Env} {c P : Addr} {ps : Array Value} {pos : Pos} {firstLine : Nat} {mg : Str → Option Value}
  {clos : List (Str × Addr)} {Q : Value → Shared → Prop} {dV : Value}
theorem kl_tail (hcl : closureFor scope env = pure clos) (hge0 : env.globals = mainGlobals) (hg : s.heap.Ns mainGlobals mg) (hcode : env.code = .ref c) (C : CodeHd s.heap c P) (hP : s.heap.get? P = some (tabObj ps)) (ht : TriplesOk ps.toList)
    (hnf : codeAmong pos ps.toList = none) (hgP : mainGlobals ≠ P) (hb : s.heap.BuiltinsAt mg P)
    (h : ∀ c' ctv h' tk, Heap.ExtBut P s.heap h' → s.heap.objs.size ≤ c' → c' < h'.objs.size → h'.CodeRec (.ref c') qual → h'.get? P = some (tabObj (ps ++ #[rawInt pos.line, rawInt pos.col, .ref c'])) →
      Q (.ref h'.objs.size) { s with heap := h'.push (klo name qual params body scope clos ((mg "__name__").getD .none) c' ctv dV), toks := tk }) :
    wpAny M A (makeTail name qual params (.expr body) scope env dV .none none pos firstLine) Q E s := by
  obtain ⟨bm, ob, hbm, hne0, _, hneP, hbo, hcls, hdict, hdata⟩ := hb
  unfold makeTail
  rw [hcl, hge0]
  refine wpAny_bind (wpAny_pure ?_)
  cases clos with
  | nil =>
    simp only [List.isEmpty_nil, if_true]
    refine wpAny_bind (wpAny_pure ?_)
    refine wpAny_bind (wpAny_functionCodeX hcode (C.code hP ht) (C.tab hP) hnf fun c' h' tk hx hge hlt _ hrec htb _ => ?_)
    have hg' := hg.extBut hx hgP
    refine wpAny_bind (wpAny_builtinsFor hg' hbm hne0 (hx _ _ hneP hbo) hcls hdict hdata ?_)
    refine wpAny_bind (wpAny_nsGet hg' ?_)
    exact wpAny_bind (wpAny_pure (wpAny_newObj_type (h c' .none h' tk hx hge hlt hrec htb.2) (by size_fits)))
  | cons q r =>
    simp only [List.isEmpty_cons, Bool.false_eq_true, if_false]
    refine wpAny_bind (wpAny_newTextTuple ?_)
    refine wpAny_bind (wpAny_functionCodeX hcode ((C.keeps fun b o e => Heap.get?_push_of_some _ e).code (Heap.get?_push_of_some _ hP) ht) ((C.keeps fun b o e => Heap.get?_push_of_some _ e).tab (Heap.get?_push_of_some _ hP)) hnf fun c' h' tk hx hge hlt _ hrec htb _ => ?_)
    have hg' := (hg.push _).extBut hx hgP
    have hx' : Heap.ExtBut P s.heap h' := fun b o hb' e => hx b o hb' (Heap.get?_push_of_some _ e)
    have hge' : s.heap.objs.size ≤ c' := Nat.le_trans (by rw [Heap.size_push]; omega) hge
    refine wpAny_bind (wpAny_builtinsFor hg' hbm hne0 (hx' _ _ hneP hbo) hcls hdict hdata ?_)
    refine wpAny_bind (wpAny_nsGet hg' ?_)
    exact wpAny_bind (wpAny_pure (wpAny_newObj_type (h c' _ h' tk hx' hge' hlt hrec htb.2) (by size_fits)))
theorem kl_tailHit {cv : Value} (hcl : closureFor scope env = pure clos) (hge0 : env.globals = mainGlobals) (hg : s.heap.Ns mainGlobals mg) (hcode : env.code = .ref c) (C : CodeHd s.heap c P) (hP : s.heap.get? P = some (tabObj ps)) (ht : TriplesOk ps.toList)
    (hf : codeAmong pos ps.toList = some cv) (hb : s.heap.BuiltinsAt mg P)
    (h : ∀ (ctv : Value) (h' : Heap) (tk : Tok), (∀ b o, s.heap.get? b = some o → h'.get? b = some o) → s.heap.objs.size ≤ h'.objs.size →
      Q (.ref h'.objs.size) { s with heap := h'.push { cls := .type "function", data := .func (klf name qual params body scope clos ((mg "__name__").getD .none) cv ctv dV) }, toks := tk }) :
    wpAny M A (makeTail name qual params (.expr body) scope env dV .none none pos firstLine) Q E s := by
  obtain ⟨bm, ob, hbm, hne0, _, hneP, hbo, hcls, hdict, hdata⟩ := hb
  unfold makeTail
  rw [hcl, hge0]
  refine wpAny_bind (wpAny_pure ?_)
  cases clos with
  | nil =>
    simp only [List.isEmpty_nil, if_true]
    refine wpAny_bind (wpAny_pure ?_)
    refine wpAny_bind (wpAny_functionCode_hit hcode (C.code hP ht) hf ?_)
    refine wpAny_bind (wpAny_builtinsFor hg hbm hne0 hbo hcls hdict hdata ?_)
    refine wpAny_bind (wpAny_nsGet hg ?_)
    exact wpAny_bind (wpAny_pure (wpAny_newObj_type (h .none s.heap s.toks (fun _ _ e => e) (Nat.le_refl _)) (by size_fits)))
  | cons q r =>
    simp only [List.isEmpty_cons, Bool.false_eq_true, if_false]
    refine wpAny_bind (wpAny_newTextTuple ?_)
    refine wpAny_bind (wpAny_functionCode_hit hcode ((C.keeps fun b o e => Heap.get?_push_of_some _ e).code (Heap.get?_push_of_some _ hP) ht) hf ?_)
    refine wpAny_bind (wpAny_builtinsFor (hg.push _) hbm hne0 (Heap.get?_push_of_some _ hbo) hcls hdict hdata ?_)
    refine wpAny_bind (wpAny_nsGet (hg.push _) ?_)
    have hsz : ∀ oT : Obj, s.heap.objs.size ≤ (s.heap.push oT).objs.size := fun oT => by rw [Heap.size_push]; omega
    exact wpAny_bind (wpAny_pure (wpAny_newObj_type (h _ _ s.toks (fun b o e => Heap.get?_push_of_some _ e) (hsz _)) (by size_fits)))
end
/-- the defaults as they stand: none, or a tuple of one value -/
def DvAt (dv : Option V) (h : Heap) (dV : Value) : Prop := match dv with
  | none => dV = .none
  | some y => ∃ T v, L2.RelV y v ∧ dV = .ref T ∧ h.get? T = some { cls := .type "tuple", data := .seq [v].toArray }
/-- how a lambda's defaults come to be: none, or the one v -/
def DefEv (params : Arguments) (env : Env) (dv : Option V) : Prop := match dv with
  | none => defaultsOf params env = ([], [])
  | some y => ∃ x, defaultsOf params env = ([x], []) ∧ ∀ (M : Model) (A : Around) (Q : Value → Shared → Prop) (E : Value → Shared → Prop) (s : Shared), (∀ v tk, L2.RelV y v → Q v { s with toks := tk }) → wpAny M A x Q E s
theorem kl_eval {M : Model} {A : Around} {E : Value → Shared → Prop} {s : Shared} {Q : Value → Shared → Prop} {params : Arguments} {body : Expr} {scope : Scope} {pos : Pos} {env : Env} {dv : Option V} (hd : DefEv params env dv)
    (h : ∀ dV s', (∀ b o, s.heap.get? b = some o → s'.heap.get? b = some o) → s.heap.objs.size ≤ s'.heap.objs.size → (∃ h' tk, s' = { s with heap := h', toks := tk }) → DvAt dv s'.heap dV → (∀ T, dV = .ref T → s.heap.objs.size ≤ T) →
      wpAny M A (makeTail "<lambda>" (env.qual ++ "<lambda>") params (.expr body) scope env dV .none none pos pos.line) Q E s') : wpAny M A (eval (.Lambda params body scope pos) env) Q E s := by
  rw [arm_eval_Lambda]
  cases dv with
  | none =>
    have hd' : defaultsOf params env = ([], []) := hd
    rw [hd']
    show wpAny M A (do let dv ← evalAll []; let kdv ← holding dv (evalAllOpt []); makeFunction "<lambda>" (env.qual ++ "<lambda>") params (.expr body) scope env dv kdv [] pos pos.line) Q E s
    refine wpAny_bind (wpAny_pure (wpAny_bind (wpAny_holding (wpAny_pure ?_))))
    rw [makeFunction_eq]
    simp only [List.zip_nil_right, List.filterMap_nil, List.isEmpty_nil, if_true, pure_bind]
    exact h .none s (fun _ _ e => e) (Nat.le_refl _) ⟨_, _, rfl⟩ rfl (fun T e => by cases e)
  | some y =>
    obtain ⟨x, hd', hx⟩ := (show ∃ x, defaultsOf params env = ([x], []) ∧ ∀ (M : Model) (A : Around) (Q : Value → Shared → Prop) (E : Value → Shared → Prop) (s : Shared), (∀ v tk, L2.RelV y v → Q v { s with toks := tk }) → wpAny M A x Q E s from hd)
    rw [hd']
    show wpAny M A (do let dv ← evalAll [x]; let kdv ← holding dv (evalAllOpt []); makeFunction "<lambda>" (env.qual ++ "<lambda>") params (.expr body) scope env dv kdv [] pos pos.line) Q E s
    refine wpAny_bind ?_
    show wpAny M A (do let v ← x; let r ← holding [v] (evalAll []); return v :: r) _ E s
    refine wpAny_bind (hx _ _ _ _ _ fun v tk rv => wpAny_bind (wpAny_holding (wpAny_pure (wpAny_pure (wpAny_bind (wpAny_holding (wpAny_pure ?_)))))))
    rw [makeFunction_eq]
    simp only [List.zip_nil_right, List.filterMap_nil, List.isEmpty_nil, List.isEmpty_cons, Bool.false_eq_true, if_false, if_true, pure_bind]
    refine wpAny_bind (wpAny_newTextTuple ?_)
    exact h _ _ (fun b o e => Heap.get?_push_of_some _ e) (by rw [Heap.size_push]; exact Nat.le_succ _) ⟨_, _, rfl⟩ ⟨_, v, rv, rfl, Heap.get?_push_size _ rfl⟩ (fun T e => by cases e; exact Nat.le_refl _)
section
variable {X : Cx} {pins : List (Addr × Obj)} {σ : L2.St} {H : Hp} {s : Shared}
/-- the lambda is made -/
theorem lam_make3 {c P : Addr} {params : Arguments} {body : Expr} {scope : Scope} {pos : Pos} {dv : Option V} {E : Value → Shared → Prop} {Q : Value → Shared → Prop} (I : Inv X pins σ H s) (TB : TabB X.base X.mg c P) (hcode : X.env.code = .ref c)
    (hT : TabS H P (X.env.qual ++ "<lambda>")) (hdef : DefEv params X.env dv) (hfree : ∀ y ∈ scope.names, y.2 = .free → ∃ c, X.env.cells.lookup y.1 = some c)
    (h : ∀ (f c' : Addr) (pm ctv dV : Value) (H1 : Hp) (s' : Shared), Inv X pins σ H1 s' → Fr [P] H H1 → TabS H1 P (X.env.qual ++ "<lambda>") →
      s'.heap.get? f = some (klo "<lambda>" (X.env.qual ++ "<lambda>") params body scope (cloFrom X.env.cells scope.names []) pm c' ctv dV) → H1 f = none → f ∉ frs X.stack → H1 c' = some (CodeO c' (X.env.qual ++ "<lambda>")) →
      DvAt dv s'.heap dV → (∀ T, dV = .ref T → H1 T = none ∧ T ∉ frs X.stack) → Q (.ref f) s') :
    wpAny (model X.prog X.w) X.A (eval (.Lambda params body scope pos) X.env) Q E s := by
  refine kl_eval hdef fun dV s0 k0 hsz0 hs0 hdv hTn => ?_
  obtain ⟨h0, tk0, rfl⟩ := hs0
  have I0 : Inv X pins σ H { s with heap := h0, toks := tk0 } := I.kept (t' := tk0) k0
  obtain ⟨ps, hP, ht, ha⟩ := hT
  have bP : Heap.BuiltinsAt h0 X.mg P := TB.bm.keeps I0.bk
  have hP' : h0.get? P = some { cls := .none, data := .fields ps } := I0.hok P _ hP
  have nofr : ∀ f, h0.objs.size ≤ f → f ∉ frs X.stack := fun f hf z => by
    rcases List.mem_cons.mp (I0.stkSub _ z) with e | e
    · have h1 := I0.lt
      rw [← e] at h1
      exact Nat.lt_irrefl _ (Nat.lt_of_lt_of_le h1 hf)
    · exact I0.nofs hf e
  have dvT : ∀ T, dV = .ref T → H T = none ∧ T ∉ frs X.stack ∧ T ≠ P := fun T e => by
    have hT := hTn T e
    have n := I.hok.fresh hT
    refine ⟨n, fun z => ?_, fun z => ?_⟩
    · rcases List.mem_cons.mp (I.stkSub _ z) with e | e
      · have h1 := I.lt
        rw [← e] at h1
        exact Nat.lt_irrefl _ (Nat.lt_of_lt_of_le h1 hT)
      · exact I.nofs hT e
    · rw [z, hP] at n
      cases n
  have dvK : ∀ (h2 : Heap), (∀ b o, b ≠ P → h0.get? b = some o → h2.get? b = some o) → DvAt dv h2 dV := fun h2 kk => by
    cases dv with
    | none => exact hdv
    | some y =>
      obtain ⟨T, v, rv, e, hT⟩ := hdv
      exact ⟨T, v, rv, e, kk T _ (dvT T e).2.2 hT⟩
  cases hc : codeAmong pos ps.toList with
  | none =>
    refine kl_tail (mg := X.mg) (c := c) (P := P) (ps := ps) (closure_ok hfree) I0.ok.glob (I0.mod.glob.keeps I0.bk) hcode (TB.code.keeps I0.bk) hP' ht hc TB.gP bP fun c' ctv h' tk hx hge hlt hrec htb => ?_
    obtain ⟨c2, oc, vs, t, e2, hoc, hd, hv⟩ := hrec
    cases e2
    have hsz : h0.objs.size ≤ h'.objs.size := Nat.le_trans hge (Nat.le_of_lt hlt)
    have nC : H c' = none := I0.hok.fresh hge
    have I1 := inv_table (t' := tk) (more := #[rawInt pos.line, rawInt pos.col, .ref c']) (h' := h'.push (klo "<lambda>" (X.env.qual ++ "<lambda>") params body scope (cloFrom X.env.cells scope.names []) ((X.mg "__name__").getD .none) c' ctv dV)) I0 hP
      (fun b o hb e => Heap.get?_push_of_some _ (hx b o hb e)) (Heap.get?_push_of_some _ htb) hge ⟨oc, vs, t, Heap.get?_push_of_some _ hoc, hd, hv⟩
    have nPc : P ≠ c' := ne_of_none hP nC
    have hE : Fr [P] H (upd (upd H P (.tbl (ps ++ #[rawInt pos.line, rawInt pos.col, .ref c']))) c' (CodeO c' (X.env.qual ++ "<lambda>"))) := (Fr.at hP rfl).trans (Same.new (by rw [upd_ne (Ne.symm nPc)]; exact nC)).frq
    have eL : (ps ++ #[rawInt pos.line, rawInt pos.col, .ref c']).toList = ps.toList ++ [rawInt pos.line, rawInt pos.col, .ref c'] := by simp
    refine h h'.objs.size c' ((X.mg "__name__").getD .none) ctv dV _ _ I1 hE ?_ (Heap.get?_push_size _ rfl) ?_ (nofr _ hsz) upd_same ?_ fun T e => ?_
    · refine ⟨_, by rw [upd_ne nPc, upd_same], by rw [eL]; exact PySem.TriplesOk_snoc _ _ _ _ ht, fun p' cv hcv => ?_⟩
      rw [eL] at hcv
      rcases among_app _ ht hcv with z | z
      · obtain ⟨c0, e1, e2⟩ := ha p' cv z
        refine ⟨c0, e1, hE.kp _ _ e2 (.inl fun hm => ?_)⟩
        rw [List.mem_singleton.mp hm, hP] at e2
        exact codeO_ne ps (Option.some.inj e2).symm
      · exact ⟨c', z, upd_same⟩
    · have n1 : h'.objs.size ≠ c' := Nat.ne_of_gt hlt
      have n2 : h'.objs.size ≠ P := Nat.ne_of_gt (Nat.lt_of_lt_of_le (Heap.lt_size hP') hsz)
      rw [upd_ne n1, upd_ne n2]
      exact I0.hok.fresh hsz
    · exact dvK _ fun b o hb e => Heap.get?_push_of_some _ (hx b o hb e)
    · have nT := dvT T e
      have hne : T ≠ c' := fun z => by
        cases dv with
        | none =>
          rw [show dV = .none from hdv] at e
          cases e
        | some y =>
          obtain ⟨T', v, rv, e', hT⟩ := hdv
          rw [e] at e'
          cases e'
          have h1 : T < h0.objs.size := Heap.lt_size hT
          have h2 : h0.objs.size ≤ c' := hge
          rw [z] at h1
          exact Nat.lt_irrefl _ (Nat.lt_of_lt_of_le h1 h2)
      refine ⟨by rw [upd_ne hne, upd_ne nT.2.2]; exact nT.1, nT.2.1⟩
  | some cv =>
    obtain ⟨c', e, hco⟩ := ha pos cv hc
    subst e
    refine kl_tailHit (mg := X.mg) (c := c) (P := P) (ps := ps) (closure_ok hfree) I0.ok.glob (I0.mod.glob.keeps I0.bk) hcode (TB.code.keeps I0.bk) hP' ht hc bP fun ctv h' tk hx hsz => ?_
    have I1 : Inv X pins σ H { s with heap := h'.push (klo "<lambda>" (X.env.qual ++ "<lambda>") params body scope (cloFrom X.env.cells scope.names []) ((X.mg "__name__").getD .none) c' ctv dV), toks := tk } := I0.kept fun b o e => Heap.get?_push_of_some _ (hx b o e)
    refine h h'.objs.size c' ((X.mg "__name__").getD .none) ctv dV H _ I1 (Fr.refl H) ⟨ps, hP, ht, ha⟩ (Heap.get?_push_size _ rfl) (I0.hok.fresh hsz) (nofr _ hsz) hco ?_ fun T e => ⟨(dvT T e).1, (dvT T e).2.1⟩
    exact dvK _ fun b o hb e => Heap.get?_push_of_some _ (hx b o e)
end
/-! ### its names -/
/-- captured ones and globals; own names are none of the maker's -/
structure LamN (N : List Str) (sc scope : Scope) : Prop where
  kind : scope.kind = .function
  co : scope.isCoroutine = false
  gen : scope.isGenerator = false
  own : ∀ y ∈ scope.names, y.2 ≠ .cell ∧ (y.2 = .local → y.1 ∉ N)
  free : ∀ y ∈ scope.names, y.2 = .free → sc.names.lookup y.1 = some .cell ∨ sc.names.lookup y.1 = some .free
def lamNB (N : List Str) (sc scope : Scope) : Bool :=
  decide (scope.kind = .function) && !scope.isCoroutine && !scope.isGenerator && scope.names.all fun y => !decide (y.2 = .cell) && (!decide (y.2 = .local) || !N.contains y.1) && (!decide (y.2 = .free) || decide (sc.names.lookup y.1 = some .cell) || decide (sc.names.lookup y.1 = some .free))
theorem lamN_by {N : List Str} {sc scope : Scope} (h : lamNB N sc scope = true) : LamN N sc scope := by
  unfold lamNB at h
  simp only [Bool.and_eq_true, Bool.or_eq_true, Bool.not_eq_true', decide_eq_true_eq, decide_eq_false_iff_not, List.all_eq_true] at h
  obtain ⟨⟨⟨h1, h2⟩, h3⟩, h4⟩ := h
  refine ⟨h1, h2, h3, fun y hy => ⟨(h4 y hy).1.1, fun e => ?_⟩, fun y hy e => ?_⟩
  · rcases (h4 y hy).1.2 with z | z
    · exact absurd e z
    · simpa using z
  · rcases (h4 y hy).2 with (z | z) | z
    · exact absurd e z
    · exact .inl z
    · exact .inr z
theorem LamN.has {X : Cx} {scope : Scope} (L : LamN X.N X.env.scope scope) (ok : X.Ok) : ∀ y ∈ scope.names, y.2 = .free → ∃ c, X.env.cells.lookup y.1 = some c := fun y hy e => by
  rcases L.free y hy e with k | k
  · exact ok.has _ (.inl k)
  · exact ok.has _ (.inr k)
section
variable {X : Cx} {pins : List (Addr × Obj)} {σ : L2.St} {H HZ : Hp} {s s1 : Shared}
theorem lam_start3 {A : Around} {outer : List Env} {E : XK} {scope : Scope} {f c' : Addr} {h₁ : Heap} {tk : Nat} {m : Str → Option Value} (I : Inv X pins σ H s) (L : LamN X.N X.env.scope scope) (e0 : Env0 X.prog X.w X.K X.mg X.base A outer s1 HZ) (hd : A.handled = none)
    (un : Un (frs X.stack) [] H HZ s.heap s1.heap) (hns : h₁.Ns s1.heap.objs.size m) (kp : ∀ b o, s1.heap.get? b = some o → h₁.get? b = some o) :
    Inv (lamCx X A outer s1 HZ E scope f c') [] σ HZ { s1 with heap := h₁, toks := tk } := by
  have hfree := L.has I.ok
  have cm : ∀ {y c}, (cloFrom X.env.cells scope.names []).lookup y = some c → X.env.cells.lookup y = some c := fun {y c} e => by
    rcases cloFrom_mem (PySem.mem_of_lookup e) with hm | ⟨h1, h2⟩
    · cases hm
    · obtain ⟨c1, hc⟩ := hfree _ h1 rfl
      have hc : X.env.cells.lookup y = some c1 := hc
      have e2 : c = c1 := by
        rw [h2, hc] <;> rfl
      rw [e2]
      exact hc
  have look : ∀ {y}, scope.names.lookup y = some .free → ∃ c, (cloFrom X.env.cells scope.names []).lookup y = some c := fun {y} hl => by
    have hy : (y, NameKind.free) ∈ scope.names := PySem.mem_of_lookup hl
    exact mem_lookup (cloFrom_has (cells := X.env.cells) (acc := []) hy)
  have cellK : ∀ {c : Addr} {v : Option Value}, H c = none → s.heap.IsCell c v → h₁.IsCell c v := fun {c v} n ⟨o, ho, hd⟩ => by
    obtain ⟨sl, q⟩ := un.any ho n (by simp)
    exact ⟨_, kp _ _ q, hd⟩
  have noA : ∀ b : Addr, b ∉ (lamCx X A outer s1 HZ E scope f c').ex := fun b z => absurd (show b ∈ ([] : List Addr) from z) (by simp)
  refine ⟨⟨e0.mod, L.kind, rfl, rfl, Nat.le_refl _, fun y z c e1 e2 => I.ok.inj y z c (cm e1) (cm e2), fun y hy => ?_, fun y c z _ => ?_, fun _ => hd, Around.frames_deeper e0.frames, .inr ⟨rfl, rfl⟩, fun b z => absurd z (noA b), e0.bs, e0.bsz, fun b _ _ => noA b,
      fun b z => absurd z (noA b), e0.funs, e0.frf⟩,
    rfl, e0.bare, Un.kept kp, ⟨_, hns, fun i y v e1 e2 e3 => ?_⟩, fun y c e => ?_, e0.hok.fresh (Nat.le_refl _), fun y c e => ?_, fun q hq => absurd (show q ∈ ([] : List (Addr × Obj)) ++ [] from hq) (by simp), e0.hok.kept kp, I.len⟩
  · have hy : scope.names.lookup y = some .cell ∨ scope.names.lookup y = some .free := hy
    rcases hy with hy | hy
    · exact absurd rfl (L.own _ (PySem.mem_of_lookup hy)).1
    · exact look hy
  · have z : false = true := z
    cases z
  · have e3 : Vis scope y := e3
    rcases e3 with k | k | k
    · exact absurd (List.mem_of_getElem? e1) ((L.own _ (PySem.mem_of_lookup k)).2 rfl)
    · exact absurd rfl (L.own _ (PySem.mem_of_lookup k)).1
    · obtain ⟨m, hn, hl⟩ := I.loc
      have hvis : Vis X.env.scope y := (L.free _ (PySem.mem_of_lookup k) rfl).elim (fun k => .inr (.inl k)) (fun k => .inr (.inr k))
      obtain ⟨w', r, q⟩ := hl i y v e1 e2 hvis
      obtain ⟨c2, h2⟩ := look k
      refine ⟨w', r, .inr ⟨.inr k, c2, h2, ?_⟩⟩
      have c1 := cm h2
      rcases q with ⟨k', _⟩ | ⟨_, c3, e', z⟩
      · have k' : X.env.scope.names.lookup y = some .local := k'
        rcases L.free _ (PySem.mem_of_lookup k) rfl with k2 | k2 <;> rw [show X.env.scope.names.lookup y = _ from k2] at k' <;> cases k'
      · rw [c1] at e'
        cases e'
        exact cellK (I.freeC y _ c1) z
  · obtain ⟨w', z⟩ := I.cell y c (cm e)
    exact ⟨w', cellK (I.freeC y c (cm e)) z⟩
  · obtain ⟨v, o, ho, hd⟩ := I.cell y c (cm e)
    exact un.free c o ho (I.freeC y c (cm e)) (by simp)
/-- how such a lambda's call binds -/
def BindEv (params : Arguments) (dv : Option V) (scope : Scope) : Prop := ∀ (name q : Str) (body : Expr) (cl : List (Str × Addr)) (pm cv ctv dV : Value) (M : Model) (A : Around) (Q : List (Str × Value) → Shared → Prop) (E : Value → Shared → Prop) (s : Shared), DvAt dv s.heap dV →
  (∀ binds, (∀ y ∈ binds, scope.names.lookup y.1 = some .local) → Q binds s) → wpAny M A (bindArgs (klf name q params body scope cl pm cv ctv dV) ⟨[], []⟩) Q E s
/-- x(), in the def that got the lambda -/
theorem act3 {CXg : CXT} {Eg : XK} {Ng : List Str} {qg : Str} {sg : Scope} {g f c' : Addr} {cdg pm ctv dV : Value} {dv : Option V} {params : Arguments} {body : Expr} {scope : Scope} {k i : Nat} {a : Str} {pn : List (Addr × Obj)} {xe : Value → Shared → Prop} {W : WX} {t : XK → TE} {p1 p2 : Pos}
    (I : Inv X pins σ H s) (L : LamN X.N X.env.scope scope) (hf : s.heap.get? f = some (klo "<lambda>" (X.env.qual ++ "<lambda>") params body scope (cloFrom X.env.cells scope.names []) pm c' ctv dV)) (hfn : H f = none) (hfr : f ∉ frs X.stack) (hdv : DvAt dv s.heap dV) (hdT : ∀ T, dV = .ref T → H T = none ∧ T ∉ frs X.stack)
    (hbind : BindEv params dv scope)
    (tk : Takes ((cxOf CXg X.prog X.w X.K X.mg X.base Ng qg sg g cdg X.A X.stack s H Eg).tr pn xe) W) (hr : Room (k + 1) (X.A.deeper (envOfC qg sg s.heap.objs.size g cdg)))
    (hbody : ∀ (A : Around) (outer : List Env) (s : Shared) (H : Hp) (E : XK), Room k (A.deeper (lamEnv X scope s.heap.objs.size f c')) → PE (lamCx X A outer s H E scope f c') body (t E))
    (hN : Ng[i]? = some a) (hv : Vis sg a) (hd : (a == ("__debug__" : Str)) = false := by decide) (hcd : (a == ("__classdict__" : Str)) = false := by decide) :
    PE ((cxOf CXg X.prog X.w X.K X.mg X.base Ng qg sg g cdg X.A X.stack s H Eg).tr pn xe) (.Call (.Name a p1) [] [] p2)
      (fun σZ HZ Q => σZ[i]? = some (some (.ref f)) ∧ HZ c' = some (CodeO c' (X.env.qual ++ "<lambda>")) ∧ ∃ E, (∀ cls d H', E cls d H' → W cls d σZ H') ∧ t E σ HZ Q) := by
  refine ⟨fun pinsZ sZ σZ HZ Q IZ h => ?_⟩
  obtain ⟨hs, hc, E, hW, ht⟩ := h
  refine wpAny_Call_Name_kw (thn ((pe_var (pos := p1) (i := i) hN hv hd hcd).run pinsZ sZ σZ HZ (fun v H1 => v = .ref f ∧ H1 = HZ) IZ ⟨.ref f, hs, rfl, rfl⟩) fun u s1 ⟨v, H1, I1, r1, q1⟩ => ?_)
  obtain ⟨ev, eH⟩ := q1
  subst ev
  rw [eH] at I1
  obtain rfl : u = Value.ref f := r1
  have of1 : s1.heap.get? f = some (klo "<lambda>" (X.env.qual ++ "<lambda>") params body scope (cloFrom X.env.cells scope.names []) pm c' ctv dV) := I1.base.keep f _ hf hfn hfr (fun z => nomatch (show f ∈ ([] : List Addr) from z))
  have dv1 : DvAt dv s1.heap dV := by
    cases dv with
    | none => exact hdv
    | some y =>
      obtain ⟨T, v, rv, e, hT⟩ := hdv
      exact ⟨T, v, rv, e, I1.base.keep T _ hT (hdT T e).1 (hdT T e).2 (fun z => nomatch (show T ∈ ([] : List Addr) from z))⟩
  refine PySem.W.callWith_F0 ⟨_, _, _, _, of1⟩ ?_
  have un : Un (frs X.stack) [] H HZ s.heap s1.heap := I1.base
  obtain ⟨⟨oc, vs, t', hoc, hdc, hvc⟩, _, _⟩ := I1.hok c' _ hc
  have rc : codeAny (model X.prog X.w) (X.A.deeper (envOfC qg sg s.heap.objs.size g cdg)) (.call (.ref f) ⟨[], []⟩) (CR (L2.CX X.prog X.w) (envOfC qg sg s.heap.objs.size g cdg :: X.stack) X.prog X.w HZ s1 Q E) s1 := by
    refine PySem.W.kla_callFunE hr.depth of1 rfl L.co L.gen rfl ⟨c', oc, vs, t', rfl, hoc, hdc, hvc⟩ ?_
    refine hbind _ _ _ _ _ _ _ _ _ _ _ _ _ dv1 fun binds hb => ?_
    refine wpAny_newFunctionEnv (fun y hy => (L.own y hy).1) hb (fun h₁ hns hsb => ⟨I1.nolimit.fresh _ hsb, ?_⟩) L.kind
    show codeAny _ _ (.expr body (lamEnv X scope s1.heap.objs.size f c')) _ _
    have kp : ∀ b o, s1.heap.get? b = some o → h₁.get? b = some o := fun b o e => hsb.extBut b o (Nat.ne_of_lt (Heap.lt_size e)) (Heap.get?_push_of_some _ e)
    have J : Inv (lamCx X (X.A.deeper (envOfC qg sg s.heap.objs.size g cdg)) (envOfC qg sg s.heap.objs.size g cdg :: X.stack) s1 HZ E scope f c') [] σ HZ { s1 with heap := h₁, toks := s1.toks + binds.length } :=
      lam_start3 I L I1.env0 hr.hd un hns kp
    refine PySem.W.kla_codeExpr (wpAny_mono ((hbody _ _ s1 HZ E (hr.deeper _)).run [] _ _ HZ Q J ht) (fun v s' hq => ?_) fun e s' hq => hq)
    obtain ⟨w', H', J', rv, q⟩ := hq
    exact ⟨w', H', J'.os, J'.bare, J'.base, J'.hok, rv, q⟩
  refine wpAny_call (codeAny_mono rc fun r s' hq => ?_)
  cases r with
  | error e => exact tk e s' (XE.of_call I1 hW hq)
  | ok fl =>
    cases fl with
    | ret u => exact I1.after hq
    | next => exact False.elim hq
    | brk => exact False.elim hq
    | cont => exact False.elim hq
end
/-- the def that calls what it got -/
def Gives3 (X : Cx) (Ng : List Str) (x : Str) (sg : Scope) (g : Addr) (cdg : Value) (bg : List Stmt) (a : Str) (q : Str) (TT : (XK → Hp → VK → Prop) → Hp → VK → Prop) : Prop :=
  ∀ (f c' : Addr) (s : Shared) (H : Hp) (Q : VK) (tl : XK → Hp → VK → Prop),
    (∀ (W : WX) (pn : List (Addr × Obj)) (xe : Value → Shared → Prop) (p1 p2 : Pos), Takes ((cxOf C8.CX0 X.prog X.w X.K X.mg X.base Ng x sg g cdg X.A X.stack s H C8.E0).tr pn xe) W →
      PE ((cxOf C8.CX0 X.prog X.w X.K X.mg X.base Ng x sg g cdg X.A X.stack s H C8.E0).tr pn xe) (.Call (.Name a p1) [] [] p2) (fun σZ HZ Q => σZ[0]? = some (some (.ref f)) ∧ HZ c' = some (CodeO c' q) ∧ ∃ E, (∀ cls d H', E cls d H' → W cls d σZ H') ∧ tl E HZ Q)) →
    H c' = some (CodeO c' q) → TT tl H Q →
    ∃ t, PSs (cxOf C8.CX0 X.prog X.w X.K X.mg X.base Ng x sg g cdg X.A X.stack s H C8.E0).nox bg t ∧ t { nx := fun _ H' => Q .non H', rt := Q } (L2.start Ng [.ref f]) H
def tLam3 (P : Addr) (q : Str) (TT : (XK → Hp → VK → Prop) → Hp → VK → Prop) (t : XK → TE) : TE := fun σ H Q => TabS H P q ∧ ∀ H1, Fr [P] H H1 → TabS H1 P q → TT (fun E H' Q' => t E σ H' Q') H1 Q
section
variable {X : Cx}
theorem pe_lam3 {TT : (XK → Hp → VK → Prop) → Hp → VK → Prop} {x a : Str} {g c P : Addr} {k : Nat} {pg : Arguments} {bg : List Stmt} {sg : Scope} {dV kV doc pm cdv ct oc : Value} {an od : Option Addr} {osl : Array (Option Value)} {Ng : List Str} {dv : Option V}
    {params : Arguments} {body : Expr} {scope : Scope} {t : XK → TE} {p lpos pos : Pos} (hg : Gl X x) (hm : X.mg x = some (.ref g)) (hk : PySem.W.keepIn X.K (.ref g) = true)
    (lk : X.K.lookup g = some ⟨oc, od, .func (PySem.W.fnOf x x pg bg sg dV kV doc pm an cdv ct), osl⟩) (hcg : PySem.W.codeIn X.K cdv x = true) (hb : L2.Binds X.K (PySem.W.fnOf x x pg bg sg dV kV doc pm an cdv ct) [a] []) (Sg : FnScope Ng [a] sg) (hNg : Ng[0]? = some a) (hva : Vis sg a)
    (hG : Room (k + 1) X.A → Gives3 X Ng x sg g cdv bg a (X.env.qual ++ "<lambda>") TT)
    (TB : TabB X.base X.mg c P) (hcode : X.env.code = .ref c) (hr : Room (k + 2) X.A) (L : LamN X.N X.env.scope scope) (hdef : DefEv params X.env dv) (hbind : BindEv params dv scope)
    (hbody : ∀ (A : Around) (outer : List Env) (s : Shared) (H : Hp) (E : XK) (f c' : Addr), Room k (A.deeper (lamEnv X scope s.heap.objs.size f c')) → PE (lamCx X A outer s H E scope f c') body (t E))
    (hdb : (x == ("__debug__" : Str)) = false := by decide) (hd : (a == ("__debug__" : Str)) = false := by decide) (hcd : (a == ("__classdict__" : Str)) = false := by decide) :
    PE X (.Call (.Name x p) [.Lambda params body scope lpos] [] pos) (tLam3 P (X.env.qual ++ "<lambda>") TT t) := by
  refine ⟨fun pins s σ H Q I h => ?_⟩
  obtain ⟨hT, h⟩ := h
  refine wpAny_Call_Name_kw (ld_glob I hg hm ?_ hdb)
  refine PySem.W.callWith_K (h₀ := X.base) I.ok.mod.kin hk ?_ (by rfl) (by rfl)
  show wpAny _ _ (spliced ((false, eval (.Lambda params body scope lpos) X.env) :: backTo pos (starEach [] X.env))) _ _ s
  refine Calls.spliced_cons (lam_make3 I TB hcode hT hdef (L.has I.ok) fun f c' pm' ctv dV' H1 s' I1 eN T1 hf hfn hfr hco hdv hdT => ?_)
  refine Calls.spliced_nil ⟨I1.kIn, ?_⟩
  have rc : codeAny (model X.prog X.w) X.A (.call (.ref g) ⟨[.ref f], []⟩) (CR C8.CX0 X.stack X.prog X.w H1 s' Q C8.E0) s' := by
    refine run_ofS (N := Ng) (ps := [a]) (us := [.ref f]) (vs := [.ref f]) lk hcg Sg hr I1.env0 (hb s' [.ref f] I1.kIn rfl) (.cons rfl .nil) rfl fun hr' => ?_
    obtain ⟨t', ht', hq'⟩ := hG (hr.mono (Nat.le_succ _)) f c' s' H1 Q (fun E H' Q' => t E σ H' Q') (fun W pn xe p1 p2 tk => act3 (i := 0) I1 L hf hfn hfr hdv hdT hbind tk hr' (fun A outer s H E hr2 => hbody A outer s H E f c' hr2) hNg hva hd hcd) hco (h H1 eN T1)
    exact ⟨t', ht'.nox, hq'⟩
  refine wpAny_call (codeAny_mono rc fun r s2 hq => ?_)
  cases r with
  | error e => exact (show False from hq).elim
  | ok fl =>
    cases fl with
    | ret u => exact I1.after hq
    | next => exact False.elim hq
    | brk => exact False.elim hq
    | cont => exact False.elim hq
end
end K2

set_option Elab.async false
set_option linter.all false
set_option maxRecDepth 100000
set_option maxHeartbeats 2000000
/-! ## the program's defs, their promises -/
namespace K2
open PySem L2 PySem.Spec PyProof.Rows
abbrev FnP (K : PySem.W.Frag) (x qual : Str) (st : Stmt) (dvs : List V) (f : Addr) (fd : FuncData) : Prop := FunD K x qual (defArgs st) (defBody st) (defScope st) dvs [] f fd
/-- a def that keeps its promise -/
structure DefOk (P : Program) (w : World) (K : PySem.W.Frag) (mg : Str → Option Value) (base : Heap) (lvl : Nat) (x : Str) (ps : List Str) (S : Spc) : Prop where
  ex : ∃ f fd, FnOk P w K mg base (L2.CX P w) lvl f fd ps (sp S) ∧ mg x = some (.ref f) ∧ PySem.W.keepIn K (.ref f) = true ∧ Binds K fd ps []
theorem pass_none {P : Program} {w : World} {X : Cx} : Passes (L2.CX P w) X (fun _ _ _ => False) := fun _ _ _ _ _ _ _ c => by
  obtain ⟨_, _, _, _, _, _, _, _, _, _, _, _, z⟩ := c
  exact z.elim
abbrev Eno : XK := fun _ _ _ => False
section
variable {X : Cx} {lvl : Nat} {x : Str} {ps : List Str} {S : Spc} {e : Expr} {es : List Expr} {t : TA} {p pos : Pos} {E : XK}
theorem pe_D (D : DefOk X.prog X.w X.K X.mg X.base lvl x ps S) (hr : Room lvl X.A) (hg : Gl X x) (hx : Passes (L2.CX X.prog X.w) X E) (ha : PA X (e :: es) t) (hdb : (x == ("__debug__" : Str)) = false := by decide)
    (he : starEach (e :: es) X.env = (false, eval e X.env) :: starEach es X.env := by rfl) (hpl : (backTo pos (starEach es X.env)).any (·.1) = false := by rfl) : PE X (.Call (.Name x p) (e :: es) [] pos) (tCall (sp S) [] E t) := by
  obtain ⟨f, fd, F, gm, kp, b⟩ := D.ex
  exact pe_call F hr hg gm kp b .nil hx ha hdb he hpl
end
theorem CallS.mk {S : Spc} {xs : List Dx} {H : Hp} {R : PX} (i : S.ι) (h1 : xs = S.args i) (h2 : ∀ H', Same H H' → S.pre i H') (h3 : ∀ x H2, Fr (S.mod i) H H2 → S.post i x H2 → R x H2) (h4 : ∀ c d H2, S.ex i c d H2 → False) : CallS S xs H Eno R := ⟨i, h1, h2, h3, fun c d H2 _ e => h4 c d H2 e⟩
theorem CallS.pure {S : Spc} {xs : List Dx} {H : Hp} {R : PX} (i : S.ι) (h1 : xs = S.args i) (h2 : ∀ H', Same H H' → S.pre i H') (hm : S.mod i = []) (h3 : ∀ x H2, Same H H2 → S.post i x H2 → R x H2) (h4 : ∀ c d H2, S.ex i c d H2 → False := by exact fun _ _ _ h => h) : CallS S xs H Eno R :=
  CallS.mk i h1 h2 (fun x H2 f po => h3 x H2 (by rw [hm] at f; exact f.same) po) h4
/-- how a def's body may end -/
def EB (M : List Addr) (H : Hp) (po : Dx → Hp → Prop) : EX := ⟨fun _ H' => Fr M H H' ∧ ∀ H2, Same H' H2 → po (.d .none) H2, fun x H' => Fr M H H' ∧ ∀ H2, Same H' H2 → po x H2, fun _ _ => False, fun _ _ => False⟩
theorem rt_pure {M : List Addr} {H H1 : Hp} {po : Dx → Hp → Prop} {x : Dx} (e : Same H H1) (h : ∀ H2, po x H2) : (EB M H po).rt x H1 := ⟨e.frq, fun H2 _ => h H2⟩
/-- the def's body from its own rules -/
theorem go_run {t : TS} {xs : List Dx} {vs : List V} {N : List Str} {H : Hp} {Q : VK} {M : List Addr} {po : Dx → Hp → Prop} (d : DxAll H vs xs) (hq : ∀ x v H', Fr M H H' → po x H' → DxR H' v x → Q v H')
    (h : Go [] t (EB M H po) (xs.map some ++ List.replicate (N.length - xs.length) none) H) : t { nx := fun _ H' => Q .non H', rt := Q } (L2.start N vs) H := by
  refine h { nx := fun _ H' => Q .non H', rt := Q } ⟨fun ρ1 H1 σ1 H2 k e s => ?_, fun x v H1 H2 k e dx => ?_, fun _ _ _ _ k => k.elim, fun _ _ _ _ k => k.elim⟩ _ H (Same.refl _) (Sr.start d)
  · exact hq _ _ H2 (k.1.trans e.frq) (k.2 H2 e) Dq.non
  · exact hq x v H2 (k.1.trans e.frq) (k.2 H2 e) dx
/-- THE RULE for a def that lets no exception out -/
theorem ok_pure {P : Program} {w : World} {K : PySem.W.Frag} {mg : Str → Option Value} {base : Heap} {x qual : Str} {st : Stmt} {dvs : List V} {f : Addr} {fd : FuncData} {N ps : List Str} {k : Nat} {S : Spc} (F : FnP K x qual st dvs f fd) (sc : FnScope N ps (defScope st)) (hl : ∀ i, (S.args i).length = ps.length)
    (hb : ∀ (cdv : Value) (A : Around) (outer : List Env) (s : Shared) (H : Hp) (E : XK), Room k (A.deeper (envOfC qual (defScope st) s.heap.objs.size f cdv)) →
      ∃ t, PSs (cxOf (L2.CX P w) P w K mg base N qual (defScope st) f cdv A outer s H E).nox (defBody st) t ∧ ∀ i, S.pre i H → Go [] t (EB (S.mod i) H (S.post i)) ((S.args i).map some ++ List.replicate (N.length - (S.args i).length) none) H) :
    FnOk P w K mg base (L2.CX P w) (k + 1) f fd ps (sp S) := by
  refine F.ok sc (fun vs H Q E h => ?_) (fun cdv A outer s H vs Q E hr h => ?_)
  · obtain ⟨i, d, _⟩ := h
    rw [d.len, hl]
  · obtain ⟨t, ht, hg⟩ := hb cdv A outer s H E hr
    obtain ⟨i, d, p, q, _⟩ := h
    exact ⟨t, ht.nox, go_run d q (hg i p)⟩
/-- .. that may let some out -/
theorem ok_exc {P : Program} {w : World} {K : PySem.W.Frag} {mg : Str → Option Value} {base : Heap} {x qual : Str} {st : Stmt} {dvs : List V} {f : Addr} {fd : FuncData} {N ps : List Str} {k : Nat} {S : Spc} (F : FnP K x qual st dvs f fd) (sc : FnScope N ps (defScope st)) (hl : ∀ i, (S.args i).length = ps.length)
    (hb : ∀ (cdv : Value) (A : Around) (outer : List Env) (s : Shared) (H : Hp) (E : XK), Room k (A.deeper (envOfC qual (defScope st) s.heap.objs.size f cdv)) →
      ∃ t, PSs (cxOf (L2.CX P w) P w K mg base N qual (defScope st) f cdv A outer s H E) (defBody st) t ∧ ∀ i, S.pre i H → (∀ c d H', Fr (S.mod i) H H' → S.ex i c d H' → E c d H') → Go [] t (EB (S.mod i) H (S.post i)) ((S.args i).map some ++ List.replicate (N.length - (S.args i).length) none) H) :
    FnOk P w K mg base (L2.CX P w) (k + 1) f fd ps (sp S) := by
  refine F.ok sc (fun vs H Q E h => ?_) (fun cdv A outer s H vs Q E hr h => ?_)
  · obtain ⟨i, d, _⟩ := h
    rw [d.len, hl]
  · obtain ⟨t, ht, hg⟩ := hb cdv A outer s H E hr
    obtain ⟨i, d, p, q, ex⟩ := h
    exact ⟨t, ht, go_run d q (hg i p ex)⟩
theorem takesE {P : Program} {w : World} {K : PySem.W.Frag} {mg : Str → Option Value} {base : Heap} {N : List Str} {qual : Str} {scope : Scope} {f : Addr} {cd : Value} {A : Around} {outer : List Env} {s : Shared} {H : Hp} {E : XK} : Takes (cxOf (L2.CX P w) P w K mg base N qual scope f cd A outer s H E) (fun cls d _ H' => E cls d H') := takes_of rfl rfl rfl rfl
theorem passE {P : Program} {w : World} {K : PySem.W.Frag} {mg : Str → Option Value} {base : Heap} {N : List Str} {qual : Str} {scope : Scope} {f : Addr} {cd : Value} {A : Around} {outer : List Env} {s : Shared} {H : Hp} {E : XK} : Passes (L2.CX P w) (cxOf (L2.CX P w) P w K mg base N qual scope f cd A outer s H E) E := passes_call takesE fun _ _ _ _ h => h
/-! ### the globals -/
/-- what the top says of the names that the defs read -/
structure GF (mg : Str → Option Value) : Prop where
  gfree : ∀ x ∈ (["isinstance", "int", "bool", "tuple", "str", "len", "all", "zip", "enumerate", "max", "min", "abs", "sum", "list", "range", "repr"] : List Str), mg x = none
  gint : ∀ q ∈ ([("MOST_DRIFT", 60), ("MOST_ERROR", 60), ("MOST_LOSSES", 3), ("MOST_RUN", 60), ("MOST_PARTS", 60), ("MOST_MODES", 3), ("MOST_CUTS", 4), ("MOST_CUT", 300), ("MOST_BEGIN", 500), ("MOST_DONE", 1000)] : List (Str × Int)), ∃ t, mg q.1 = some (.int q.2 t)
  gstr : ∀ q ∈ ([("HOLD", "hold"), ("SHIFT", "shift"), ("RUN", "run"), ("JUMP", "jump")] : List (Str × Str)), ∃ t, mg q.1 = some (.str q.2 t)
section
variable {X : Cx}
theorem pe_gi {x : Str} {i : Int} {pos : Pos} (hm : ∃ t, X.mg x = some (.int i t)) (hg : Gl X x) (hd : (x == ("__debug__" : Str)) = false := by decide) : PE X (.Name x pos) (tC (.int i)) := by
  obtain ⟨t, e⟩ := hm
  exact pe_glob hg e ⟨t, rfl⟩ hd
theorem pe_gs {x z : Str} {pos : Pos} (hm : ∃ t, X.mg x = some (.str z t)) (hg : Gl X x) (hd : (x == ("__debug__" : Str)) = false := by decide) : PE X (.Name x pos) (tC (.str z)) := by
  obtain ⟨t, e⟩ := hm
  exact pe_glob hg e ⟨t, rfl⟩ hd
theorem pe_ty {x : Str} {T : String} {pos : Pos} (hm : X.mg x = none) (hb : bootBuiltins x = some (.type T)) (hg : Gl X x) (hn : x ≠ "__name__" := by decide) (hd : (x == ("__debug__" : Str)) = false := by decide) : PE X (.Name x pos) (tC (.ty T)) := pe_bltn hg hm hb rfl hn hd
end
section
variable {H : Hp} {R : PX} {K : PySem.W.Frag} {d : PyData}
def isiI : PyData → Bool
  | .int _ => true
  | .bool _ => true
  | _ => false
def isiB : PyData → Bool
  | .bool _ => true
  | _ => false
def isiT : PyData → Bool
  | .tuple _ => true
  | _ => false
def isiS : PyData → Bool
  | .str _ => true
  | _ => false
theorem k_isiI : ∀ d : PyData, kitB (tyN d) "int" = some (isiI d)
  | .none  => (by decide +kernel : kitB "NoneType" "int" = some false)
  | .bool _ => (by decide +kernel : kitB "bool" "int" = some true)
  | .int _ => (by decide +kernel : kitB "int" "int" = some true)
  | .str _ => (by decide +kernel : kitB "str" "int" = some false)
  | .list _ => (by decide +kernel : kitB "list" "int" = some false)
  | .tuple _ => (by decide +kernel : kitB "tuple" "int" = some false)
  | .dict _ => (by decide +kernel : kitB "dict" "int" = some false)
theorem oa_isiI (k : R (.d (.bool (isiI d))) H) : OA (rIsi K) [.d d, .o (.ty "int")] H R := oa_isi (k_isiI d) k
theorem k_isiB : ∀ d : PyData, kitB (tyN d) "bool" = some (isiB d)
  | .none  => (by decide +kernel : kitB "NoneType" "bool" = some false)
  | .bool _ => (by decide +kernel : kitB "bool" "bool" = some true)
  | .int _ => (by decide +kernel : kitB "int" "bool" = some false)
  | .str _ => (by decide +kernel : kitB "str" "bool" = some false)
  | .list _ => (by decide +kernel : kitB "list" "bool" = some false)
  | .tuple _ => (by decide +kernel : kitB "tuple" "bool" = some false)
  | .dict _ => (by decide +kernel : kitB "dict" "bool" = some false)
theorem oa_isiB (k : R (.d (.bool (isiB d))) H) : OA (rIsi K) [.d d, .o (.ty "bool")] H R := oa_isi (k_isiB d) k
theorem k_isiT : ∀ d : PyData, kitB (tyN d) "tuple" = some (isiT d)
  | .none  => (by decide +kernel : kitB "NoneType" "tuple" = some false)
  | .bool _ => (by decide +kernel : kitB "bool" "tuple" = some false)
  | .int _ => (by decide +kernel : kitB "int" "tuple" = some false)
  | .str _ => (by decide +kernel : kitB "str" "tuple" = some false)
  | .list _ => (by decide +kernel : kitB "list" "tuple" = some false)
  | .tuple _ => (by decide +kernel : kitB "tuple" "tuple" = some true)
  | .dict _ => (by decide +kernel : kitB "dict" "tuple" = some false)
theorem oa_isiT (k : R (.d (.bool (isiT d))) H) : OA (rIsi K) [.d d, .o (.ty "tuple")] H R := oa_isi (k_isiT d) k
theorem k_isiS : ∀ d : PyData, kitB (tyN d) "str" = some (isiS d)
  | .none  => (by decide +kernel : kitB "NoneType" "str" = some false)
  | .bool _ => (by decide +kernel : kitB "bool" "str" = some false)
  | .int _ => (by decide +kernel : kitB "int" "str" = some false)
  | .str _ => (by decide +kernel : kitB "str" "str" = some true)
  | .list _ => (by decide +kernel : kitB "list" "str" = some false)
  | .tuple _ => (by decide +kernel : kitB "tuple" "str" = some false)
  | .dict _ => (by decide +kernel : kitB "dict" "str" = some false)
theorem oa_isiS (k : R (.d (.bool (isiS d))) H) : OA (rIsi K) [.d d, .o (.ty "str")] H R := oa_isi (k_isiS d) k
end
def isInt : PyData → Bool
  | .int _ => true
  | _ => false
def isWhole : PyData → Int → Int → Bool
  | .int i, a, b => decide (a ≤ i) && decide (i ≤ b)
  | _, _, _ => false
end K2

set_option Elab.async false
set_option linter.all false
set_option maxRecDepth 100000
set_option maxHeartbeats 4000000
namespace K2
open PySem L2 PySem.Spec PyProof.Rows StX RZ
local macro_rules | `(tactic| walk_at "k2") => `(tactic| first
  | with_reducible refine w_var rfl ?_
  | with_reducible refine w_int ?_
  | with_reducible refine w_bl ?_
  | with_reducible refine w_non ?_
  | with_reducible refine w_str ?_
  | with_reducible refine w_o ?_
  | with_reducible refine wa_cons ?_
  | with_reducible refine wa_nil ?_
  | with_reducible refine w_op ?_
  | with_reducible refine w_un ?_
  | with_reducible refine w_cb ?_
  | with_reducible refine w_call0 ?_
  | with_reducible refine w_chain ?_
  | with_reducible refine w_tup ?_
  | with_reducible refine w_lst ?_
  | with_reducible refine w_andV ?_
  | with_reducible refine w_orV ?_
  | with_reducible refine w_notV ?_
  | with_reducible refine w_if ?_
  | with_reducible refine wt_test ?_
  | with_reducible refine wt_B ?_
  | with_reducible refine wt_and ?_
  | with_reducible refine wt_or ?_
  | with_reducible refine wt_not ?_
  | with_reducible refine go_seq ?_
  | with_reducible refine go_ret ?_
  | with_reducible refine go_retN ?_
  | with_reducible refine go_set ?_
  | with_reducible refine go_par ?_
  | with_reducible refine go_par3 ?_
  | with_reducible refine go_asg ?_
  | with_reducible refine go_drop ?_
  | with_reducible refine go_next ?_
  | with_reducible refine go_if ?_
  | with_reducible refine o2_ii ?_
  | with_reducible refine o2_ib ?_
  | with_reducible refine o1_i ?_
  | with_reducible refine o2_isN ?_
  | with_reducible refine o2_notN ?_
  | with_reducible refine oa_isiI ?_
  | with_reducible refine oa_isiB ?_
  | with_reducible refine oa_isiT ?_
  | with_reducible refine oa_isiS ?_
  | with_reducible refine oa_abs ?_
  | with_reducible refine oa_max ?_
  | with_reducible refine oa_min ?_
  | with_reducible refine oa_len ?_
  | with_reducible refine oa_lenL ?_
  | with_reducible refine oa_intB ?_
  | refine ⟨[_, _], rfl, by decide, ?_⟩
  | refine ⟨[_, _, _], rfl, by decide, ?_⟩
  | refine ⟨[_], rfl, by decide, ?_⟩
  | refine ⟨[], rfl, by decide, ?_⟩)

def S_is_integer : Spc where
  ι := PyData
  args d := [.d d]
  pre _ _ := True
  mod _ := []
  post d x _ := x = .d (.bool (isInt d))
def S_is_whole : Spc where
  ι := PyData × Int × Int
  args i := [.d i.1, .d (.int i.2.1), .d (.int i.2.2)]
  pre _ _ := True
  mod _ := []
  post i x _ := x = .d (.bool (isWhole i.1 i.2.1 i.2.2))
section
variable {P : Program} {w : World} {K : PySem.W.Frag} {mg : Str → Option Value} {base : Heap} {f : Addr} {fd : FuncData} (G : GF mg)
include G
omit G in
theorem sc_is_integer : FnScope ["thing"] ["thing"] (defScope (top 18)) := ⟨rfl, rfl, rfl, by decide +kernel, rfl, by decide +kernel, by decide +kernel⟩
theorem ok_is_integer  (F : FnP K "is_integer" "is_integer" (top 18) [] f fd) : FnOk P w K mg base (L2.CX P w) 1 f fd ["thing"] (sp S_is_integer) := by
  have sc := sc_is_integer
  refine ok_pure F sc (fun _ => rfl) fun cdv A outer s H E hr => ⟨_, pss_one (ps_ret (pe_and (pe_callB call_isi rfl (G.gfree "isinstance" (by decide +kernel)) (by decide +kernel) (pa_cons (pe_var (i := 0) rfl (.inl rfl)) (pa_cons (pe_ty (T := "int") (G.gfree "int" (by decide +kernel)) (by decide +kernel) rfl) (pa_nil)))) (pe_one (pe_not (pe_callB call_isi rfl (G.gfree "isinstance" (by decide +kernel)) (by decide +kernel) (pa_cons (pe_var (i := 0) rfl (.inl rfl)) (pa_cons (pe_ty (T := "bool") (G.gfree "bool" (by decide +kernel)) (by decide +kernel) rfl) (pa_nil)))))))), fun (i : PyData) hp => ?_⟩
  repeat walk_at "k2"
  refine ⟨_, rfl, fun hb => ?_, fun hb => ?_⟩
  · repeat walk_at "k2"
    refine ⟨_, rfl, ?_⟩
    refine rt_pure (Same.refl _) fun _ => ?_
    cases i <;> first | rfl | cases hb
  · refine rt_pure (Same.refl _) fun _ => ?_
    cases i <;> first | rfl | cases hb
omit G in
theorem sc_is_whole : FnScope ["thing", "least", "most"] ["thing", "least", "most"] (defScope (top 19)) := ⟨rfl, rfl, rfl, by decide +kernel, rfl, by decide +kernel, by decide +kernel⟩
theorem ok_is_whole (D1 : DefOk P w K mg base 1 "is_integer" ["thing"] S_is_integer) (F : FnP K "is_whole" "is_whole" (top 19) [] f fd) : FnOk P w K mg base (L2.CX P w) 2 f fd ["thing", "least", "most"] (sp S_is_whole) := by
  have sc := sc_is_whole
  refine ok_pure F sc (fun _ => rfl) fun cdv A outer s H E hr => ⟨_, pss_one (ps_ret (pe_and (pe_D D1 (hr.mono (by decide)) rfl pass_none (pa_cons (pe_var (i := 0) rfl (.inl rfl)) (pa_nil))) (pe_one (pe_chain op_le op_le (pe_var (i := 1) rfl (.inl rfl)) (pe_var (i := 0) rfl (.inl rfl)) (pe_var (i := 2) rfl (.inl rfl)))))), fun (i : PyData × Int × Int) hp => ?_⟩
  obtain ⟨d, a, b⟩ := i
  repeat walk_at "k2"
  refine CallS.pure d rfl (fun _ _ => trivial) rfl fun x H2 e po => ?_
  obtain rfl : x = .d (.bool (isInt d)) := po
  refine ⟨_, rfl, fun hb => ?_, fun hb => ?_⟩
  · cases d <;> first | cases hb | skip
    repeat walk_at "k2"
    refine ⟨_, rfl, fun h => ?_, fun h => ?_⟩
    · repeat walk_at "k2"
      refine rt_pure e fun _ => ?_
      show _ = Dx.d (.bool _)
      simp [isWhole, of_decide_eq_true h]
    · refine rt_pure e fun _ => ?_
      show _ = Dx.d (.bool _)
      simp [isWhole, of_decide_eq_false h]
  · refine rt_pure e fun _ => ?_
    cases d <;> first | (cases hb; done) | rfl
end
theorem cs_is_integer {d : PyData} {H : Hp} {R : PX} (k : ∀ H2, Same H H2 → R (.d (.bool (isInt d))) H2) : CallS S_is_integer [.d d] H Eno R := CallS.pure d rfl (fun _ _ => trivial) rfl fun x H2 e po => by
  obtain rfl : x = .d (.bool (isInt d)) := po
  exact k H2 e
theorem cs_is_whole {d : PyData} {a b : Int} {H : Hp} {R : PX} (k : ∀ H2, Same H H2 → R (.d (.bool (isWhole d a b))) H2) : CallS S_is_whole [.d d, .d (.int a), .d (.int b)] H Eno R := CallS.pure (S := S_is_whole) (d, a, b) rfl (fun _ _ => trivial) rfl fun x H2 e po => by
  obtain rfl : x = .d (.bool (isWhole d a b)) := po
  exact k H2 e
end K2

set_option Elab.async false
set_option linter.all false
set_option maxRecDepth 100000
set_option maxHeartbeats 2000000
/-! ## the mirrors -/
namespace K2
open PySem L2
structure Wld where
  lo : Int
  hi : Int
  e0 : Int
  e1 : Int
  ls : Int
def Wld.enc (w : Wld) : PyData := .tuple [.int w.lo, .int w.hi, .int w.e0, .int w.e1, .int w.ls]
structure Wld.ok (w : Wld) : Prop where
  l1 : -60 ≤ w.lo
  l2 : w.lo ≤ w.hi
  l3 : w.hi ≤ 60
  a1 : 0 ≤ w.e0
  a2 : w.e0 ≤ 60
  b1 : 0 ≤ w.e1
  b2 : w.e1 ≤ 60
  c1 : 0 ≤ w.ls
  c2 : w.ls ≤ 3
inductive Deed where
  | hold
  | shift (n : Int)
  | run (n : Int)
  | jump (a b : Int)
def Deed.enc : Deed → PyData
  | .hold => .tuple [.str "hold"]
  | .shift n => .tuple [.str "shift", .int n]
  | .run n => .tuple [.str "run", .int n]
  | .jump a b => .tuple [.str "jump", .int a, .int b]
def Deed.ok : Deed → Prop
  | .hold => True
  | .shift n => -60 ≤ n ∧ n ≤ 60
  | .run n => 0 ≤ n ∧ n ≤ 60
  | .jump a b => 1 ≤ b ∧ b ≤ 60 ∧ 0 ≤ a ∧ a ≤ b
def Deed.still : Deed → Prop
  | .hold => True
  | .shift _ => True
  | _ => False
structure Ent where
  d : Deed
  m : Int
def Ent.enc (e : Ent) : PyData := .tuple [e.d.enc, .int e.m]
def Ent.ok (k : Int) (e : Ent) : Prop := e.d.ok ∧ 0 ≤ e.m ∧ e.m ≤ k - 1
structure Mod where
  cuts : List Int
  ents : List Ent
  miss : Ent
def Mod.enc (m : Mod) : PyData := .tuple [.tuple (m.cuts.map .int), .tuple (m.ents.map Ent.enc), m.miss.enc]
structure Mod.ok (k : Int) (m : Mod) : Prop where
  few : m.cuts.length ≤ 4
  big : ∀ c ∈ m.cuts, -300 ≤ c ∧ c ≤ 300
  up : m.cuts.Pairwise (· < ·)
  len : m.ents.length = m.cuts.length + 1
  ent : ∀ e ∈ m.ents, e.ok k
  mis : m.miss.ok k
  sti : m.miss.d.still
abbrev Rul := List Mod
def encR (r : Rul) : PyData := .tuple (r.map Mod.enc)
structure Rul.ok (r : Rul) : Prop where
  pos : 1 ≤ r.length
  few : r.length ≤ 3
  mod : ∀ m ∈ r, m.ok r.length
structure Std where
  m : Int
  ms : Int
  df : Int
def Std.enc (s : Std) : PyData := .tuple [.int s.m, .int s.ms, .int s.df]
def encO : Option Int → PyData
  | none => .none
  | some i => .int i
/-! ### what the defs compute -/
def takenBy : Deed → Int → Int
  | .hold, _ => 0
  | .shift n, _ => n
  | .run n, e => if (if e < n then e else n) > 0 - n then (if e < n then e else n) else 0 - n
  | .jump a b, e => if 0 ≤ e then a * (if e < 0 then -e else e) / b else 0 - a * (if e < 0 then -e else e) / b
def below (cuts : List Int) (e : Int) : List Int := cuts.filter fun c => decide (c ≤ e)
def entryAt (m : Mod) (e : Int) : Ent := m.ents.getD (below m.cuts e).length ⟨.hold, 0⟩
def modeOf (r : Rul) (i : Int) : Mod := r.getD i.toNat ⟨[], [], ⟨.hold, 0⟩⟩
/-- amid, the deed, gone, the stand behind -/
def stepped (r : Rul) (s : Std) (dr : Int) (er : Option Int) : Int × Deed × Int × Std :=
  let md := modeOf r s.m
  let amid := s.df + dr
  match er with
  | none =>
    let gone := takenBy md.miss.d 0
    (amid, md.miss.d, gone, ⟨md.miss.m, s.ms + 1, amid - gone⟩)
  | some e =>
    let en := entryAt md (amid + e)
    let gone := takenBy en.d (amid + e)
    (amid, en.d, gone, ⟨en.m, 0, amid - gone⟩)
/-- a round as data -/
abbrev Rd2 := PyData × PyData
def Rd2.enc (r : Rd2) : PyData := .tuple [r.1, r.2]
def encRs (rs : List Rd2) : PyData := .tuple (rs.map Rd2.enc)
def isRound (w : Wld) (ms : Int) (r : Rd2) : Bool := isWhole r.1 w.lo w.hi && (match r.2 with
  | .none => decide (ms < w.ls)
  | d => isWhole d (0 - w.e0) w.e1)
def ofI : PyData → Int
  | .int i => i
  | _ => 0
def ofO : PyData → Option Int
  | .int i => some i
  | _ => none
/-- where a run ends: the first round that is none (or none), what was found, the stand -/
def gone (w : Wld) (r : Rul) : Std → List Int → Nat → List Rd2 → Option Nat × List Int × Std
  | s, fd, _, [] => (none, fd, s)
  | s, fd, n, q :: qs => if isRound w s.ms q then gone w r (stepped r s (ofI q.1) (ofO q.2)).2.2.2 (fd ++ [(stepped r s (ofI q.1) (ofO q.2)).1, (stepped r s (ofI q.1) (ofO q.2)).2.2.2.df]) (n + 1) qs else (some n, fd, s)
/-! ### plain facts -/
def Std.ok (r : Rul) (s : Std) : Prop := 0 ≤ s.m ∧ s.m < r.length
theorem modeOf_mem {r : Rul} {i : Int} (h0 : 0 ≤ i) (h1 : i < r.length) : modeOf r i ∈ r ∧ r[i.toNat]? = some (modeOf r i) := by
  have hi : i.toNat < r.length := by omega
  have e : r[i.toNat]? = some r[i.toNat] := List.getElem?_eq_getElem hi
  have e2 : modeOf r i = r[i.toNat] := by
    unfold modeOf
    rw [List.getD_eq_getElem?_getD, e]
    rfl
  rw [e2]
  exact ⟨List.getElem_mem hi, e⟩
theorem below_len (cuts : List Int) (e : Int) : (below cuts e).length ≤ cuts.length := List.length_filter_le _ _
theorem entryAt_mem {k : Int} {m : Mod} (h : m.ok k) (e : Int) : entryAt m e ∈ m.ents ∧ m.ents[(below m.cuts e).length]? = some (entryAt m e) := by
  have hi : (below m.cuts e).length < m.ents.length := by
    have := below_len m.cuts e
    have := h.len
    omega
  have x : m.ents[(below m.cuts e).length]? = some m.ents[(below m.cuts e).length] := List.getElem?_eq_getElem hi
  have e2 : entryAt m e = m.ents[(below m.cuts e).length] := by
    unfold entryAt
    rw [List.getD_eq_getElem?_getD, x]
    rfl
  rw [e2]
  exact ⟨List.getElem_mem hi, x⟩
theorem stepped_ok {r : Rul} {s : Std} {dr : Int} {er : Option Int} (hr : Rul.ok r) (hs : s.ok r) : (stepped r s dr er).2.2.2.ok r ∧ (stepped r s dr er).2.1.ok := by
  obtain ⟨hm, _⟩ := modeOf_mem hs.1 hs.2
  have mo := hr.mod _ hm
  cases er with
  | none =>
    have z := mo.mis
    exact ⟨⟨z.2.1, by have := z.2.2; show (modeOf r s.m).miss.m < _; omega⟩, z.1⟩
  | some e =>
    obtain ⟨he, _⟩ := entryAt_mem mo (s.df + dr + e)
    have z := mo.ent _ he
    exact ⟨⟨z.2.1, by have := z.2.2; show (entryAt (modeOf r s.m) (s.df + dr + e)).m < _; omega⟩, z.1⟩
theorem isWhole_t {i a b : Int} (h1 : a ≤ i) (h2 : i ≤ b) : isWhole (.int i) a b = true := by simp [isWhole, h1, h2]
/-! ### shapes -/
def Shp (n : Nat) (d : PyData) : Prop := d.canLay0 = true ∧ d.depth ≤ n
theorem Shp.ok {n : Nat} {d : PyData} (h : Shp n d) (hn : n ≤ 64 := by decide) : SeqAt.shaped d = true := by
  unfold SeqAt.shaped
  rw [h.1, decide_eq_true (Nat.le_trans h.2 hn)]
  rfl
theorem Shp.mono {n m : Nat} {d : PyData} (h : Shp n d) (hn : n ≤ m) : Shp m d := ⟨h.1, Nat.le_trans h.2 hn⟩
theorem shp_i {n : Nat} {i : Int} : Shp n (.int i) := ⟨rfl, Nat.zero_le _⟩
theorem shp_b {n : Nat} {i : Bool} : Shp n (.bool i) := ⟨rfl, Nat.zero_le _⟩
theorem shp_n {n : Nat} : Shp n .none := ⟨rfl, Nat.zero_le _⟩
theorem shp_s {n : Nat} {x : Str} (h : (PyData.str x).canLay0 = true) : Shp n (.str x) := ⟨h, Nat.zero_le _⟩
theorem shps {n : Nat} : ∀ {ds : List PyData}, (∀ d ∈ ds, Shp n d) → PyData.canLayAll0 ds = true ∧ PyData.depthAll ds ≤ n
  | [], _ => ⟨rfl, Nat.zero_le _⟩
  | d :: ds, h => by
    obtain ⟨a1, a2⟩ := h d List.mem_cons_self
    obtain ⟨b1, b2⟩ := shps (ds := ds) fun x hx => h x (List.mem_cons_of_mem _ hx)
    exact ⟨by simp [PyData.canLayAll0, a1, b1], by simp only [PyData.depthAll]; omega⟩
theorem shp_t {n : Nat} {ds : List PyData} (h : ∀ d ∈ ds, Shp n d) : Shp (n + 1) (.tuple ds) := by
  obtain ⟨h1, h2⟩ := shps h
  exact ⟨h1, by simp only [PyData.depth]; omega⟩
theorem shp_l {n : Nat} {ds : List PyData} (h : ∀ d ∈ ds, Shp n d) : Shp (n + 1) (.list ds) := by
  obtain ⟨h1, h2⟩ := shps h
  exact ⟨h1, by simp only [PyData.depth]; omega⟩
theorem all_nil {p : PyData → Prop} : ∀ d ∈ ([] : List PyData), p d := fun d h => absurd h (by simp)
theorem all_cons {p : PyData → Prop} {x : PyData} {xs : List PyData} (h : p x) (r : ∀ d ∈ xs, p d) : ∀ d ∈ x :: xs, p d := fun d hd => by
  rcases List.mem_cons.mp hd with rfl | hd
  · exact h
  · exact r d hd
theorem all_map {α : Type} {p : PyData → Prop} {f : α → PyData} {xs : List α} (h : ∀ x ∈ xs, p (f x)) : ∀ d ∈ xs.map f, p d := fun d hd => by
  obtain ⟨x, hx, rfl⟩ := List.mem_map.mp hd
  exact h x hx
theorem shp_ints (l : List Int) : Shp 1 (.tuple (l.map .int)) := shp_t (all_map fun _ _ => shp_i)
theorem Wld.shp (w : Wld) : Shp 1 w.enc := shp_t (all_cons shp_i (all_cons shp_i (all_cons shp_i (all_cons shp_i (all_cons shp_i all_nil)))))
theorem Deed.shp (d : Deed) : Shp 1 d.enc := by
  cases d with
  | hold => exact shp_t (all_cons (shp_s (by decide +kernel)) all_nil)
  | shift n => exact shp_t (all_cons (shp_s (by decide +kernel)) (all_cons shp_i all_nil))
  | run n => exact shp_t (all_cons (shp_s (by decide +kernel)) (all_cons shp_i all_nil))
  | jump a b => exact shp_t (all_cons (shp_s (by decide +kernel)) (all_cons shp_i (all_cons shp_i all_nil)))
theorem Ent.shp (e : Ent) : Shp 2 e.enc := shp_t (all_cons e.d.shp (all_cons shp_i all_nil))
theorem Mod.shp (m : Mod) : Shp 4 m.enc := shp_t (all_cons ((shp_ints _).mono (by decide)) (all_cons (shp_t (all_map fun e _ => e.shp)) (all_cons (m.miss.shp.mono (by decide)) all_nil)))
theorem encR_shp (r : Rul) : Shp 5 (encR r) := shp_t (all_map fun m _ => m.shp)
theorem Std.shp (s : Std) : Shp 1 s.enc := shp_t (all_cons shp_i (all_cons shp_i (all_cons shp_i all_nil)))
/-! the same data -/
mutual
theorem eqv_self : ∀ d : PyData, d.canLay0 = true → PyData.eqv d d = true
  | .none, _ => by simp [PyData.eqv]
  | .bool _, _ => by simp [PyData.eqv]
  | .int _, _ => by simp [PyData.eqv]
  | .str _, _ => by simp [PyData.eqv]
  | .list xs, h => by
    simp only [PyData.eqv]
    exact eqv_selfs xs h
  | .tuple xs, h => by
    simp only [PyData.eqv]
    exact eqv_selfs xs h
  | .dict _, h => by simp [PyData.canLay0] at h
theorem eqv_selfs : ∀ ds : List PyData, PyData.canLayAll0 ds = true → PyData.eqvAll ds ds = true
  | [], _ => by simp [PyData.eqvAll]
  | d :: ds, h => by
    have h' : d.canLay0 = true ∧ PyData.canLayAll0 ds = true := by simpa [PyData.canLayAll0] using h
    simp [PyData.eqvAll, eqv_self d h'.1, eqv_selfs ds h'.2]
end
theorem Shp.self {n : Nat} {d : PyData} (h : Shp n d) : PyData.eqv d d = true := eqv_self d h.1
theorem eqv_i (a b : Int) : PyData.eqv (.int a) (.int b) = decide (a = b) := by
  simp only [PyData.eqv]
  rfl
theorem eqv_s (a b : Str) : PyData.eqv (.str a) (.str b) = decide (a = b) := by
  simp only [PyData.eqv]
  rfl
section
variable {H : Hp} {R : PX} {K : PySem.W.Frag}
theorem o2_eqI {a b : Int} (k : R (.d (.bool (decide (a = b)))) H) : O2 (rEqD K) (.d (.int a)) (.d (.int b)) H R := o2_eqD rfl rfl (by rw [eqv_i]; exact k)
theorem o2_neI {a b : Int} (k : R (.d (.bool (!decide (a = b)))) H) : O2 (rNeD K) (.d (.int a)) (.d (.int b)) H R := o2_neD rfl rfl (by rw [eqv_i]; exact k)
theorem o2_eqS {a b : Str} (ha : (PyData.str a).canLay0 = true) (hb : (PyData.str b).canLay0 = true) (k : R (.d (.bool (decide (a = b)))) H) : O2 (rEqD K) (.d (.str a)) (.d (.str b)) H R := o2_eqD (shp_s (n := 1) ha).ok (shp_s (n := 1) hb).ok (by rw [eqv_s]; exact k)
theorem o2_neS {a b : Str} (ha : (PyData.str a).canLay0 = true) (hb : (PyData.str b).canLay0 = true) (k : R (.d (.bool (!decide (a = b)))) H) : O2 (rNeD K) (.d (.str a)) (.d (.str b)) H R := o2_neD (shp_s (n := 1) ha).ok (shp_s (n := 1) hb).ok (by rw [eqv_s]; exact k)
end

theorem both_t {b : Bool} {X Y : Prop} (h : b = true) (x : X) : (b = true → X) ∧ (b = false → Y) := ⟨fun _ => x, fun z => absurd (h.symm.trans z) (by decide)⟩
theorem both_f {b : Bool} {X Y : Prop} (h : b = false) (y : Y) : (b = true → X) ∧ (b = false → Y) := ⟨fun z => absurd (h.symm.trans z) (by decide), fun _ => y⟩
theorem both_f2 {b : Bool} {X Y : Prop} (h : b = false) (x : X) : (b = false → X) ∧ (b = true → Y) := ⟨fun _ => x, fun z => absurd (h.symm.trans z) (by decide)⟩
theorem both_t2 {b : Bool} {X Y : Prop} (h : b = true) (y : Y) : (b = false → X) ∧ (b = true → Y) := ⟨fun z => absurd (h.symm.trans z) (by decide), fun _ => y⟩
theorem ex_b {b : Bool} {A : Bool → Prop} (h : A b) : ∃ c, Dx.d (PyData.bool b) = Dx.d (PyData.bool c) ∧ A c := ⟨b, rfl, h⟩
end K2

set_option Elab.async false
set_option linter.all false
set_option maxRecDepth 100000
set_option maxHeartbeats 4000000
namespace K2
open PySem L2 PySem.Spec PyProof.Rows StX RZ
local macro_rules | `(tactic| walk_at "k2") => `(tactic| first
  | with_reducible refine w_var rfl ?_
  | with_reducible refine w_int ?_
  | with_reducible refine w_bl ?_
  | with_reducible refine w_non ?_
  | with_reducible refine w_str ?_
  | with_reducible refine w_o ?_
  | with_reducible refine wa_cons ?_
  | with_reducible refine wa_nil ?_
  | with_reducible refine w_op ?_
  | with_reducible refine w_un ?_
  | with_reducible refine w_cb ?_
  | with_reducible refine w_call0 ?_
  | with_reducible refine w_chain ?_
  | with_reducible refine w_tup ?_
  | with_reducible refine w_lst ?_
  | with_reducible refine w_andV ?_
  | with_reducible refine w_orV ?_
  | with_reducible refine w_notV ?_
  | with_reducible refine w_if ?_
  | with_reducible refine wt_test ?_
  | with_reducible refine wt_B ?_
  | with_reducible refine wt_and ?_
  | with_reducible refine wt_or ?_
  | with_reducible refine wt_not ?_
  | with_reducible refine go_seq ?_
  | with_reducible refine go_ret ?_
  | with_reducible refine go_retN ?_
  | with_reducible refine go_set ?_
  | with_reducible refine go_par ?_
  | with_reducible refine go_par3 ?_
  | with_reducible refine go_asg ?_
  | with_reducible refine go_drop ?_
  | with_reducible refine go_next ?_
  | with_reducible refine go_if ?_
  | with_reducible refine o2_ii ?_
  | with_reducible refine o2_ib ?_
  | with_reducible refine o1_i ?_
  | with_reducible refine o2_isN ?_
  | with_reducible refine o2_notN ?_
  | with_reducible refine oa_isiI ?_
  | with_reducible refine oa_isiB ?_
  | with_reducible refine oa_isiT ?_
  | with_reducible refine oa_isiS ?_
  | with_reducible refine oa_abs ?_
  | with_reducible refine oa_max ?_
  | with_reducible refine oa_min ?_
  | with_reducible refine oa_len ?_
  | with_reducible refine oa_lenL ?_
  | with_reducible refine oa_intB ?_
  | refine ⟨[_, _], rfl, by decide, ?_⟩
  | refine ⟨[_, _, _], rfl, by decide, ?_⟩
  | refine ⟨[_], rfl, by decide, ?_⟩
  | refine ⟨[], rfl, by decide, ?_⟩)

local macro_rules | `(tactic| walk_at "k2") => `(tactic| first
  | with_reducible refine ex_b ?_
  | refine both_t rfl ?_
  | refine both_f rfl ?_
  | refine both_f2 rfl ?_
  | refine both_t2 rfl ?_
  | with_reducible refine cs_is_integer fun _ _ => ?_
  | with_reducible refine cs_is_whole fun _ _ => ?_
  | refine oa_len ?_
  | refine oa_lenL ?_
  | refine o2_ixT rfl ?_
  | refine o2_ixL rfl ?_
  | refine o2_in rfl rfl ?_
  | refine o2_eqI ?_
  | refine o2_neI ?_
  | refine o2_eqS (by decide +kernel) (by decide +kernel) ?_
  | refine o2_neS (by decide +kernel) (by decide +kernel) ?_
  | refine o2_eqD (Deed.shp _).ok rfl ?_
  | refine both_t (by decide +kernel) ?_
  | refine both_f (by decide +kernel) ?_
  | refine both_f2 (by decide +kernel) ?_
  | refine both_t2 (by decide +kernel) ?_)
local macro_rules | `(tactic| walk_at "same") => `(tactic| ((repeat (first | exact Same.refl _ | assumption | refine Same.trans ?_ (by assumption)))))
def S_is_world : Spc where
  ι := Wld
  args w := [.d w.enc]
  pre w _ := w.ok
  mod _ := []
  post _ x _ := x = .d (.bool true)
def S_need_world : Spc where
  ι := Wld
  args w := [.d w.enc]
  pre w _ := w.ok
  mod _ := []
  post w x _ := x = .d w.enc
def S_is_deed : Spc where
  ι := Deed
  args d := [.d d.enc]
  pre d _ := d.ok
  mod _ := []
  post _ x _ := x = .d (.bool true)
def S_is_entry : Spc where
  ι := Ent × Int
  args i := [.d i.1.enc, .d (.int i.2)]
  pre i _ := i.1.ok i.2
  mod _ := []
  post _ x _ := x = .d (.bool true)
def S_are_cuts : Spc where
  ι := List Int
  args l := [.d (.tuple (l.map .int))]
  pre l _ := l.length ≤ 4 ∧ (∀ c ∈ l, -300 ≤ c ∧ c ≤ 300) ∧ l.Pairwise (· < ·)
  mod _ := []
  post _ x _ := x = .d (.bool true)
def S_is_mode : Spc where
  ι := Mod × Int
  args i := [.d i.1.enc, .d (.int i.2)]
  pre i _ := i.1.ok i.2
  mod _ := []
  post _ x _ := x = .d (.bool true)
def S_need_rule : Spc where
  ι := Rul
  args r := [.d (encR r)]
  pre r _ := r.ok
  mod _ := []
  post r x _ := x = .d (encR r)
section
variable {P : Program} {w : World} {K : PySem.W.Frag} {mg : Str → Option Value} {base : Heap} {f : Addr} {fd : FuncData} (G : GF mg)
include G
omit G in
theorem sc_is_world : FnScope ["thing"] ["thing"] (defScope (top 34)) := ⟨rfl, rfl, rfl, by decide +kernel, rfl, by decide +kernel, by decide +kernel⟩
theorem ok_is_world (D_is_whole : DefOk P w K mg base 2 "is_whole" ["thing", "least", "most"] S_is_whole) (F : FnP K "is_world" "is_world" (top 34) [] f fd) : FnOk P w K mg base (L2.CX P w) 3 f fd ["thing"] (sp S_is_world) := by
  have sc := sc_is_world
  refine ok_pure F sc (fun _ => rfl) fun cdv A outer s H E hr => ⟨_, pss_cons (ps_if (PW.pt (pw_or (pt_not (pt_val (pe_callB call_isi rfl (G.gfree "isinstance" (by decide +kernel)) (by decide +kernel) (pa_cons (pe_var (i := 0) rfl (.inl rfl)) (pa_cons (pe_ty (T := "tuple") (G.gfree "tuple" (by decide +kernel)) (by decide +kernel) rfl) (pa_nil)))))) (pw_or1 (pt_cmpR (op_neD hr.units) (pe_callB call_len_seq rfl (G.gfree "len" (by decide +kernel)) (by decide +kernel) (pa_cons (pe_var (i := 0) rfl (.inl rfl)) (pa_nil))) (pe_int) (nomark _))))) (pss_one (ps_ret (pe_bl))) (pss_nil)) (pss_cons (ps_if (PW.pt (pw_or (pt_not (pt_val (pe_D D_is_whole (hr.mono (by decide)) rfl pass_none (pa_cons (pe_ix ix_seq (pe_var (i := 0) rfl (.inl rfl)) (pe_int) (fun _ _ => rfl)) (pa_cons (pe_un un_neg (pe_gi (G.gint ("MOST_DRIFT", 60) (by decide +kernel)) rfl)) (pa_cons (pe_gi (G.gint ("MOST_DRIFT", 60) (by decide +kernel)) rfl) (pa_nil))))))) (pw_or1 (pt_not (pt_val (pe_D D_is_whole (hr.mono (by decide)) rfl pass_none (pa_cons (pe_ix ix_seq (pe_var (i := 0) rfl (.inl rfl)) (pe_int) (fun _ _ => rfl)) (pa_cons (pe_un un_neg (pe_gi (G.gint ("MOST_DRIFT", 60) (by decide +kernel)) rfl)) (pa_cons (pe_gi (G.gint ("MOST_DRIFT", 60) (by decide +kernel)) rfl) (pa_nil)))))))))) (pss_one (ps_ret (pe_bl))) (pss_nil)) (pss_cons (ps_if (PW.pt (pw_or (pt_not (pt_val (pe_D D_is_whole (hr.mono (by decide)) rfl pass_none (pa_cons (pe_ix ix_seq (pe_var (i := 0) rfl (.inl rfl)) (pe_int) (fun _ _ => rfl)) (pa_cons (pe_int) (pa_cons (pe_gi (G.gint ("MOST_ERROR", 60) (by decide +kernel)) rfl) (pa_nil))))))) (pw_or1 (pt_not (pt_val (pe_D D_is_whole (hr.mono (by decide)) rfl pass_none (pa_cons (pe_ix ix_seq (pe_var (i := 0) rfl (.inl rfl)) (pe_int) (fun _ _ => rfl)) (pa_cons (pe_int) (pa_cons (pe_gi (G.gint ("MOST_ERROR", 60) (by decide +kernel)) rfl) (pa_nil)))))))))) (pss_one (ps_ret (pe_bl))) (pss_nil)) (pss_one (ps_ret (pe_and (pe_D D_is_whole (hr.mono (by decide)) rfl pass_none (pa_cons (pe_ix ix_seq (pe_var (i := 0) rfl (.inl rfl)) (pe_int) (fun _ _ => rfl)) (pa_cons (pe_int) (pa_cons (pe_gi (G.gint ("MOST_LOSSES", 3) (by decide +kernel)) rfl) (pa_nil))))) (pe_one (pe_cmpR op_le (pe_ix ix_seq (pe_var (i := 0) rfl (.inl rfl)) (pe_int) (fun _ _ => rfl)) (pe_ix ix_seq (pe_var (i := 0) rfl (.inl rfl)) (pe_int) (fun _ _ => rfl)) (nomark _)))))))), fun (i : Wld) hp => ?_⟩
  obtain ⟨lo, hi, e0, e1, ls⟩ := i
  obtain ⟨l1, l2, l3, a1, a2, b1, b2, c1, c2⟩ := (hp : Wld.ok ⟨lo, hi, e0, e1, ls⟩)
  dsimp only at l1 l2 l3 a1 a2 b1 b2 c1 c2
  repeat walk_at "k2"
  refine both_f2 (congrArg Bool.not (isWhole_t (i := lo) (a := -60) (b := 60) l1 (by omega))) ?_
  repeat walk_at "k2"
  refine both_f (congrArg Bool.not (isWhole_t (i := hi) (a := -60) (b := 60) (by omega) l3)) ?_
  repeat walk_at "k2"
  refine both_f2 (congrArg Bool.not (isWhole_t (i := e0) (a := 0) (b := 60) a1 a2)) ?_
  repeat walk_at "k2"
  refine both_f (congrArg Bool.not (isWhole_t (i := e1) (a := 0) (b := 60) b1 b2)) ?_
  repeat walk_at "k2"
  refine both_t (isWhole_t (i := ls) (a := 0) (b := 3) c1 c2) ?_
  repeat walk_at "k2"
  refine rt_pure (by walk_at "same") fun _ => ?_
  exact congrArg (fun b => Dx.d (PyData.bool b)) (decide_eq_true l2)
omit G in
theorem sc_need_world : FnScope ["thing"] ["thing"] (defScope (top 35)) := ⟨rfl, rfl, rfl, by decide +kernel, rfl, by decide +kernel, by decide +kernel⟩
theorem ok_need_world (D_is_world : DefOk P w K mg base 3 "is_world" ["thing"] S_is_world) (F : FnP K "need_world" "need_world" (top 35) [] f fd) : FnOk P w K mg base (L2.CX P w) 4 f fd ["thing"] (sp S_need_world) := by
  have sc := sc_need_world
  refine ok_pure F sc (fun _ => rfl) fun cdv A outer s H E hr => ⟨_, pss_cons (ps_if (pt_not (pt_val (pe_D D_is_world (hr.mono (by decide)) rfl pass_none (pa_cons (pe_var (i := 0) rfl (.inl rfl)) (pa_nil))))) (pss_one (ps_never)) (pss_nil)) (pss_one (ps_ret (pe_var (i := 0) rfl (.inl rfl)))), fun (i : Wld) hp => ?_⟩
  repeat walk_at "k2"
  refine CallS.pure (S := S_is_world) i rfl (fun _ _ => hp) rfl fun x H2 e po => ?_
  obtain rfl : x = .d (.bool true) := po
  repeat walk_at "k2"
  exact rt_pure e fun _ => rfl
omit G in
theorem sc_is_deed : FnScope ["thing"] ["thing"] (defScope (top 36)) := ⟨rfl, rfl, rfl, by decide +kernel, rfl, by decide +kernel, by decide +kernel⟩
theorem ok_is_deed (D_is_whole : DefOk P w K mg base 2 "is_whole" ["thing", "least", "most"] S_is_whole) (F : FnP K "is_deed" "is_deed" (top 36) [] f fd) : FnOk P w K mg base (L2.CX P w) 3 f fd ["thing"] (sp S_is_deed) := by
  have sc := sc_is_deed
  refine ok_pure F sc (fun _ => rfl) fun cdv A outer s H E hr => ⟨_, pss_cons (ps_if (PW.pt (pw_or (pt_not (pt_val (pe_callB call_isi rfl (G.gfree "isinstance" (by decide +kernel)) (by decide +kernel) (pa_cons (pe_var (i := 0) rfl (.inl rfl)) (pa_cons (pe_ty (T := "tuple") (G.gfree "tuple" (by decide +kernel)) (by decide +kernel) rfl) (pa_nil)))))) (pw_or (pt_cmpR (op_eqD hr.units) (pe_var (i := 0) rfl (.inl rfl)) (pe_tup (pa_nil)) (nomark _)) (pw_or1 (pt_not (pt_val (pe_callB call_isi rfl (G.gfree "isinstance" (by decide +kernel)) (by decide +kernel) (pa_cons (pe_ix ix_seq (pe_var (i := 0) rfl (.inl rfl)) (pe_int) (fun _ _ => rfl)) (pa_cons (pe_ty (T := "str") (G.gfree "str" (by decide +kernel)) (by decide +kernel) rfl) (pa_nil)))))))))) (pss_one (ps_ret (pe_bl))) (pss_nil)) (pss_cons (ps_if (pt_cmpR (op_eqD hr.units) (pe_ix ix_seq (pe_var (i := 0) rfl (.inl rfl)) (pe_int) (fun _ _ => rfl)) (pe_gs (G.gstr ("JUMP", "jump") (by decide +kernel)) rfl) (nomark _)) (pss_one (ps_ret (pe_and (pe_cmpR (op_eqD hr.units) (pe_callB call_len_seq rfl (G.gfree "len" (by decide +kernel)) (by decide +kernel) (pa_cons (pe_var (i := 0) rfl (.inl rfl)) (pa_nil))) (pe_int) (nomark _)) (pe_and (pe_D D_is_whole (hr.mono (by decide)) rfl pass_none (pa_cons (pe_ix ix_seq (pe_var (i := 0) rfl (.inl rfl)) (pe_int) (fun _ _ => rfl)) (pa_cons (pe_int) (pa_cons (pe_gi (G.gint ("MOST_PARTS", 60) (by decide +kernel)) rfl) (pa_nil))))) (pe_one (pe_D D_is_whole (hr.mono (by decide)) rfl pass_none (pa_cons (pe_ix ix_seq (pe_var (i := 0) rfl (.inl rfl)) (pe_int) (fun _ _ => rfl)) (pa_cons (pe_int) (pa_cons (pe_ix ix_seq (pe_var (i := 0) rfl (.inl rfl)) (pe_int) (fun _ _ => rfl)) (pa_nil)))))))))) (pss_nil)) (pss_cons (ps_if (pt_cmpR (op_eqD hr.units) (pe_ix ix_seq (pe_var (i := 0) rfl (.inl rfl)) (pe_int) (fun _ _ => rfl)) (pe_gs (G.gstr ("HOLD", "hold") (by decide +kernel)) rfl) (nomark _)) (pss_one (ps_ret (pe_cmpR (op_eqD hr.units) (pe_callB call_len_seq rfl (G.gfree "len" (by decide +kernel)) (by decide +kernel) (pa_cons (pe_var (i := 0) rfl (.inl rfl)) (pa_nil))) (pe_int) (nomark _)))) (pss_nil)) (pss_cons (ps_if (PW.pt (pw_or (pt_cmpR (op_neD hr.units) (pe_callB call_len_seq rfl (G.gfree "len" (by decide +kernel)) (by decide +kernel) (pa_cons (pe_var (i := 0) rfl (.inl rfl)) (pa_nil))) (pe_int) (nomark _)) (pw_or1 (pt_cmpR op_notIn_seq (pe_ix ix_seq (pe_var (i := 0) rfl (.inl rfl)) (pe_int) (fun _ _ => rfl)) (pe_tup (pa_cons (pe_gs (G.gstr ("SHIFT", "shift") (by decide +kernel)) rfl) (pa_cons (pe_gs (G.gstr ("RUN", "run") (by decide +kernel)) rfl) (pa_nil)))) (by rfl))))) (pss_one (ps_ret (pe_bl))) (pss_nil)) (pss_one (ps_ret (pe_D D_is_whole (hr.mono (by decide)) rfl pass_none (pa_cons (pe_ix ix_seq (pe_var (i := 0) rfl (.inl rfl)) (pe_int) (fun _ _ => rfl)) (pa_cons (pe_ifExp (pt_cmpR (op_eqD hr.units) (pe_ix ix_seq (pe_var (i := 0) rfl (.inl rfl)) (pe_int) (fun _ _ => rfl)) (pe_gs (G.gstr ("SHIFT", "shift") (by decide +kernel)) rfl) (nomark _)) (pe_un un_neg (pe_gi (G.gint ("MOST_RUN", 60) (by decide +kernel)) rfl)) (pe_int)) (pa_cons (pe_gi (G.gint ("MOST_RUN", 60) (by decide +kernel)) rfl) (pa_nil)))))))))), fun (i : Deed) hp => ?_⟩
  cases i with
  | hold =>
    repeat walk_at "k2"
    exact rt_pure (by walk_at "same") fun _ => rfl
  | shift n =>
    obtain ⟨h1, h2⟩ := (show -60 ≤ n ∧ n ≤ 60 from hp)
    repeat walk_at "k2"
    exact rt_pure (by walk_at "same") fun _ => congrArg (fun b => Dx.d (PyData.bool b)) (isWhole_t h1 h2)
  | run n =>
    obtain ⟨h1, h2⟩ := (show 0 ≤ n ∧ n ≤ 60 from hp)
    repeat walk_at "k2"
    exact rt_pure (by walk_at "same") fun _ => congrArg (fun b => Dx.d (PyData.bool b)) (isWhole_t h1 h2)
  | jump a b =>
    obtain ⟨h1, h2, h3, h4⟩ := (show 1 ≤ b ∧ b ≤ 60 ∧ 0 ≤ a ∧ a ≤ b from hp)
    repeat walk_at "k2"
    refine both_t (isWhole_t h1 h2) ?_
    repeat walk_at "k2"
    exact rt_pure (by walk_at "same") fun _ => congrArg (fun b => Dx.d (PyData.bool b)) (isWhole_t h3 h4)
omit G in
theorem sc_is_entry : FnScope ["thing", "modes"] ["thing", "modes"] (defScope (top 37)) := ⟨rfl, rfl, rfl, by decide +kernel, rfl, by decide +kernel, by decide +kernel⟩
theorem ok_is_entry (D_is_deed : DefOk P w K mg base 3 "is_deed" ["thing"] S_is_deed) (D_is_whole : DefOk P w K mg base 2 "is_whole" ["thing", "least", "most"] S_is_whole) (F : FnP K "is_entry" "is_entry" (top 37) [] f fd) : FnOk P w K mg base (L2.CX P w) 4 f fd ["thing", "modes"] (sp S_is_entry) := by
  have sc := sc_is_entry
  refine ok_pure F sc (fun _ => rfl) fun cdv A outer s H E hr => ⟨_, pss_one (ps_ret (pe_and (pe_callB call_isi rfl (G.gfree "isinstance" (by decide +kernel)) (by decide +kernel) (pa_cons (pe_var (i := 0) rfl (.inl rfl)) (pa_cons (pe_ty (T := "tuple") (G.gfree "tuple" (by decide +kernel)) (by decide +kernel) rfl) (pa_nil)))) (pe_and (pe_cmpR (op_eqD hr.units) (pe_callB call_len_seq rfl (G.gfree "len" (by decide +kernel)) (by decide +kernel) (pa_cons (pe_var (i := 0) rfl (.inl rfl)) (pa_nil))) (pe_int) (nomark _)) (pe_and (pe_D D_is_deed (hr.mono (by decide)) rfl pass_none (pa_cons (pe_ix ix_seq (pe_var (i := 0) rfl (.inl rfl)) (pe_int) (fun _ _ => rfl)) (pa_nil))) (pe_one (pe_D D_is_whole (hr.mono (by decide)) rfl pass_none (pa_cons (pe_ix ix_seq (pe_var (i := 0) rfl (.inl rfl)) (pe_int) (fun _ _ => rfl)) (pa_cons (pe_int) (pa_cons (pe_op op_sub (pe_var (i := 1) rfl (.inl rfl)) (pe_int)) (pa_nil)))))))))), fun (i : Ent × Int) hp => ?_⟩
  obtain ⟨⟨d, m⟩, k⟩ := i
  obtain ⟨h1, h2, h3⟩ := (show d.ok ∧ 0 ≤ m ∧ m ≤ k - 1 from hp)
  repeat walk_at "k2"
  refine CallS.pure (S := S_is_deed) d rfl (fun _ _ => h1) rfl fun x H2 e po => ?_
  obtain rfl : x = .d (.bool true) := po
  repeat walk_at "k2"
  exact rt_pure (by walk_at "same") fun _ => congrArg (fun b => Dx.d (PyData.bool b)) (isWhole_t h2 h3)
end
end K2

set_option Elab.async false
set_option linter.all false
set_option maxRecDepth 100000
set_option maxHeartbeats 2000000
/-! ## comprehensions that only look -/
namespace K2
open PySem L2 PySem.Spec PyProof.Rows RZ
theorem take_more {α : Type} {l : List α} {i : Nat} {x : α} (h : l[i]? = some x) : l.take (i + 1) = l.take i ++ [x] := by
  rw [List.take_add_one, h]
  rfl
section
variable {Γ : List Gh} {ρ : Rho} {H : Hp} {R : PX} {te tl : TE} {tt : TT} {ta : TA} {K : PySem.W.Frag} {g : TG} {vs : List Nat}
/-- [f(x) for x in t] -/
theorem w_lcTm (f : PyData → PyData) (h : W Γ tl ρ H fun x H1 => ∃ ds, x = .d (.tuple ds) ∧ ds.length ≤ 50000 ∧ (∀ d ∈ ds, noL (f d) = true ∧ ∀ H2, Same H1 H2 → TW Γ g vs (.d d) ρ H2 fun ρ3 H3 => W Γ te ρ3 H3 fun y H5 => y = .d (f d) ∧ Same H1 H5) ∧
    ∀ H2, Same H1 H2 → R (.d (.list (ds.map f))) H2) : W Γ (tLc (iTup K tl) g tYes te vs) ρ H R := by
  refine w_lcT (h.imp fun x H1 k => ?_)
  obtain ⟨ds, rfl, hl, hs, hd⟩ := k
  refine ⟨ds, rfl, hl, fun i acc H2 => Same H1 H2 ∧ acc = (ds.take i).map f, ⟨Same.refl _, by simp⟩, fun i acc H2 D o n j => ⟨Same.offnew j.1 n, j.2⟩, fun i d acc H2 hi hla j => ?_, fun acc H2 hla j => ?_⟩
  · obtain ⟨hn, ht⟩ := hs d (List.mem_of_getElem? hi)
    intro v σ H' e s dd Q q
    refine ht H2 j.1 v σ H' e s dd Q fun ρ1 H3 σ1 H'' k => q ρ1 H3 σ1 H'' (wt_yes ⟨fun _ => k.imp fun y H5 z => ⟨f d, z.1, hn, z.2, ?_⟩, fun z => by cases z⟩)
    rw [take_more hi, List.map_append, ← j.2]
    rfl
  · have e : acc = ds.map f := by rw [j.2, List.take_length]
    rw [e]
    exact hd H2 j.1
/-- [x for x in t if p(x)] -/
theorem w_lcTf (p : PyData → Bool) (h : W Γ tl ρ H fun x H1 => ∃ ds, x = .d (.tuple ds) ∧ ds.length ≤ 50000 ∧ (∀ d ∈ ds, noL d = true ∧ ∀ H2, Same H1 H2 → TW Γ g vs (.d d) ρ H2 fun ρ3 H3 => WT Γ tt ρ3 H3 fun b H4 => b = p d ∧ Same H1 H4 ∧ W Γ te ρ3 H4 fun y H5 => y = .d d ∧ Same H1 H5) ∧
    ∀ H2, Same H1 H2 → R (.d (.list (ds.filter p))) H2) : W Γ (tLc (iTup K tl) g tt te vs) ρ H R := by
  refine w_lcT (h.imp fun x H1 k => ?_)
  obtain ⟨ds, rfl, hl, hs, hd⟩ := k
  refine ⟨ds, rfl, hl, fun i acc H2 => Same H1 H2 ∧ acc = (ds.take i).filter p, ⟨Same.refl _, by simp⟩, fun i acc H2 D o n j => ⟨Same.offnew j.1 n, j.2⟩, fun i d acc H2 hi hla j => ?_, fun acc H2 hla j => ?_⟩
  · obtain ⟨hn, ht⟩ := hs d (List.mem_of_getElem? hi)
    intro v σ H' e s dd Q q
    refine ht H2 j.1 v σ H' e s dd Q fun ρ1 H3 σ1 H'' k => q ρ1 H3 σ1 H'' (k.imp fun b H4 k => ⟨fun hb => ?_, fun hb => ?_⟩)
    · obtain ⟨rfl, e1, k⟩ := k
      refine k.imp fun y H5 z => ⟨d, z.1, hn, z.2, ?_⟩
      rw [take_more hi, List.filter_append, ← j.2, List.filter_cons_of_pos hb]
      rfl
    · obtain ⟨rfl, e1, k⟩ := k
      refine ⟨e1, ?_⟩
      rw [take_more hi, List.filter_append, ← j.2, List.filter_cons_of_neg (by rw [hb]; simp)]
      simp
  · have e : acc = ds.filter p := by rw [j.2, List.take_length]
    rw [e]
    exact hd H2 j.1
/-- [f(x, y) for x, y in zip(t, u)] -/
theorem w_lcZm (f : PyData → PyData → PyData) (h : WA Γ ta ρ H fun xs H1 => ∃ ds es : List PyData, xs = [.d (.tuple ds), .d (.tuple es)] ∧ min ds.length es.length ≤ 50000 ∧ (∀ (i : Nat) (d e : PyData), ds[i]? = some d → es[i]? = some e → noL (f d e) = true ∧ ∀ H2, Same H1 H2 → TW Γ g vs (.d (.tuple [d, e])) ρ H2 fun ρ3 H3 => W Γ te ρ3 H3 fun y H5 => y = .d (f d e) ∧ Same H1 H5) ∧
    ∀ H2, Same H1 H2 → R (.d (.list ((ds.zip es).map fun q => f q.1 q.2))) H2) : W Γ (tLc (iZipA K ta) g tYes te vs) ρ H R := by
  refine w_lcZ fun σ H' e s Q q => h σ H' e s Q fun xs vs H1 H'' k => q xs vs H1 H'' ?_
  obtain ⟨ds, es, rfl, hl, hs, hd⟩ := k
  refine ⟨ds, es, rfl, hl, fun i acc H2 => Same H1 H2 ∧ acc = ((ds.zip es).take i).map fun q => f q.1 q.2, ⟨Same.refl _, by simp⟩, fun i acc H2 D o n j => ⟨Same.offnew j.1 n, j.2⟩, fun i d e acc H2 hi hi2 hla j => ?_, fun acc H2 hla j => ?_⟩
  · obtain ⟨hn, ht⟩ := hs i d e hi hi2
    have hz : (ds.zip es)[i]? = some (d, e) := by simp [List.getElem?_zip_eq_some, hi, hi2]
    intro v σ H' e' s dd Q q
    refine ht H2 j.1 v σ H' e' s dd Q fun ρ1 H3 σ1 H'' k => q ρ1 H3 σ1 H'' (wt_yes ⟨fun _ => k.imp fun y H5 z => ⟨f d e, z.1, hn, z.2, ?_⟩, fun z => by cases z⟩)
    rw [take_more hz, List.map_append, ← j.2]
    rfl
  · have hn : min ds.length es.length = (ds.zip es).length := by simp
    have e : acc = (ds.zip es).map fun q => f q.1 q.2 := by rw [j.2, hn, List.take_length]
    rw [e]
    exact hd H2 j.1
end
theorem cutD_from (ds : List PyData) (k : Nat) : cutD ds (some (k : Int)) none = ds.drop k := by
  unfold cutD
  rw [HT.sIx_nat, HT.sIx_none]
  by_cases h : k ≤ ds.length
  · rw [Nat.min_eq_left h, ← List.length_drop, List.take_length]
  · rw [Nat.min_eq_right (by omega), List.drop_length, List.drop_eq_nil_of_le (by omega)]
    simp
theorem cutD_upto (ds : List PyData) (k : Nat) : cutD ds none (some (k : Int)) = ds.take k := by
  unfold cutD
  rw [HT.sIx_nat, HT.sIx_none, List.drop_zero, Nat.sub_zero]
  by_cases h : k ≤ ds.length
  · rw [Nat.min_eq_left h]
  · rw [Nat.min_eq_right (by omega), List.take_of_length_le (Nat.le_refl _), List.take_of_length_le (by omega)]
theorem cutD_minus (ds : List PyData) (k : Nat) (hk : k ≤ ds.length) (h0 : 0 < k) : cutD ds none (some (-(k : Int))) = ds.take (ds.length - k) := by
  unfold cutD
  have e : HT.sIx ds.length ds.length (some (-(k : Int))) = ds.length - k := by
    show (if (-(k : Int)) < 0 then ((-(k : Int)) + (ds.length : Int)).toNat else min (-(k : Int)).toNat ds.length) = _
    rw [if_pos (by omega)]
    omega
  rw [e, HT.sIx_none, List.drop_zero, Nat.sub_zero]
end K2

set_option Elab.async false
set_option linter.all false
set_option maxRecDepth 100000
set_option maxHeartbeats 4000000
namespace K2
open PySem L2 PySem.Spec PyProof.Rows StX RZ
local macro_rules | `(tactic| walk_at "k2") => `(tactic| first
  | with_reducible refine w_var rfl ?_
  | with_reducible refine w_int ?_
  | with_reducible refine w_bl ?_
  | with_reducible refine w_non ?_
  | with_reducible refine w_str ?_
  | with_reducible refine w_o ?_
  | with_reducible refine wa_cons ?_
  | with_reducible refine wa_nil ?_
  | with_reducible refine w_op ?_
  | with_reducible refine w_un ?_
  | with_reducible refine w_cb ?_
  | with_reducible refine w_call0 ?_
  | with_reducible refine w_chain ?_
  | with_reducible refine w_tup ?_
  | with_reducible refine w_lst ?_
  | with_reducible refine w_andV ?_
  | with_reducible refine w_orV ?_
  | with_reducible refine w_notV ?_
  | with_reducible refine w_if ?_
  | with_reducible refine wt_test ?_
  | with_reducible refine wt_B ?_
  | with_reducible refine wt_and ?_
  | with_reducible refine wt_or ?_
  | with_reducible refine wt_not ?_
  | with_reducible refine go_seq ?_
  | with_reducible refine go_ret ?_
  | with_reducible refine go_retN ?_
  | with_reducible refine go_set ?_
  | with_reducible refine go_par ?_
  | with_reducible refine go_par3 ?_
  | with_reducible refine go_asg ?_
  | with_reducible refine go_drop ?_
  | with_reducible refine go_next ?_
  | with_reducible refine go_if ?_
  | with_reducible refine o2_ii ?_
  | with_reducible refine o2_ib ?_
  | with_reducible refine o1_i ?_
  | with_reducible refine o2_isN ?_
  | with_reducible refine o2_notN ?_
  | with_reducible refine oa_isiI ?_
  | with_reducible refine oa_isiB ?_
  | with_reducible refine oa_isiT ?_
  | with_reducible refine oa_isiS ?_
  | with_reducible refine oa_abs ?_
  | with_reducible refine oa_max ?_
  | with_reducible refine oa_min ?_
  | with_reducible refine oa_len ?_
  | with_reducible refine oa_lenL ?_
  | with_reducible refine oa_intB ?_
  | refine ⟨[_, _], rfl, by decide, ?_⟩
  | refine ⟨[_, _, _], rfl, by decide, ?_⟩
  | refine ⟨[_], rfl, by decide, ?_⟩
  | refine ⟨[], rfl, by decide, ?_⟩)

local macro_rules | `(tactic| walk_at "k2") => `(tactic| first
  | with_reducible refine ex_b ?_
  | refine both_t rfl ?_
  | refine both_f rfl ?_
  | refine both_f2 rfl ?_
  | refine both_t2 rfl ?_
  | with_reducible refine cs_is_integer fun _ _ => ?_
  | with_reducible refine cs_is_whole fun _ _ => ?_
  | refine oa_len ?_
  | refine oa_lenL ?_
  | refine o2_ixT rfl ?_
  | refine o2_ixL rfl ?_
  | refine o2_in rfl rfl ?_
  | refine o2_eqI ?_
  | refine o2_neI ?_
  | refine o2_eqS (by decide +kernel) (by decide +kernel) ?_
  | refine o2_neS (by decide +kernel) (by decide +kernel) ?_
  | refine o2_eqD (Deed.shp _).ok rfl ?_
  | refine both_t (by decide +kernel) ?_
  | refine both_f (by decide +kernel) ?_
  | refine both_f2 (by decide +kernel) ?_
  | refine both_t2 (by decide +kernel) ?_
  | with_reducible refine w_slT ?_
  | with_reducible refine w_slL ?_
  | with_reducible refine wo_no ?_
  | with_reducible refine wo_some ?_
  | with_reducible refine ⟨_, rfl, ?_⟩)
local macro_rules | `(tactic| walk_at "same") => `(tactic| ((repeat (first | exact Same.refl _ | assumption | refine Same.trans ?_ (by assumption)))))
theorem noLs_map {α : Type} {f : α → PyData} (h : ∀ x, noL (f x) = true) : ∀ l : List α, noLs (l.map f) = true
  | [] => rfl
  | x :: l => by simp [noLs, h x, noLs_map h l]
theorem all_id_of {α : Type} {l : List α} {f : α → Bool} (h : ∀ x ∈ l, f x = true) : (l.map f).all id = true := by
  simp only [List.all_map, List.all_eq_true]
  exact h
theorem zip_up : ∀ {l : List Int}, l.Pairwise (· < ·) → ∀ q ∈ l.zip (l.drop 1), q.1 < q.2
  | [], _, q, hq => by simp at hq
  | [a], _, q, hq => by simp at hq
  | a :: b :: l, h, q, hq => by
    have hq' : q ∈ (a, b) :: (b :: l).zip l := hq
    rcases List.mem_cons.mp hq' with rfl | hq'
    · exact (List.pairwise_cons.mp h).1 b List.mem_cons_self
    · exact zip_up (List.pairwise_cons.mp h).2 q hq'
theorem cs_is_entry {e : Ent} {k : Int} (h : e.ok k) {H : Hp} {R : PX} (q : ∀ H2, Same H H2 → R (.d (.bool true)) H2) : CallS S_is_entry [.d e.enc, .d (.int k)] H Eno R := CallS.pure (S := S_is_entry) (e, k) rfl (fun _ _ => h) rfl fun x H2 s po => by
  obtain rfl : x = .d (.bool true) := po
  exact q H2 s
section
variable {P : Program} {w : World} {K : PySem.W.Frag} {mg : Str → Option Value} {base : Heap} {f : Addr} {fd : FuncData} (G : GF mg)
include G
omit G in
theorem sc_are_cuts : FnScope ["thing", "cut", "one", "other"] ["thing"] (defScope (top 38)) := ⟨rfl, rfl, rfl, by decide +kernel, rfl, by decide +kernel, by decide +kernel⟩
theorem ok_are_cuts (D_is_whole : DefOk P w K mg base 2 "is_whole" ["thing", "least", "most"] S_is_whole) (F : FnP K "are_cuts" "are_cuts" (top 38) [] f fd) : FnOk P w K mg base (L2.CX P w) 3 f fd ["thing"] (sp S_are_cuts) := by
  have sc := sc_are_cuts
  refine ok_pure F sc (fun _ => rfl) fun cdv A outer s H E hr => ⟨_, pss_cons (ps_if (PW.pt (pw_or (pt_not (pt_val (pe_callB call_isi rfl (G.gfree "isinstance" (by decide +kernel)) (by decide +kernel) (pa_cons (pe_var (i := 0) rfl (.inl rfl)) (pa_cons (pe_ty (T := "tuple") (G.gfree "tuple" (by decide +kernel)) (by decide +kernel) rfl) (pa_nil)))))) (pw_or1 (pt_cmpR op_gt (pe_callB call_len_seq rfl (G.gfree "len" (by decide +kernel)) (by decide +kernel) (pa_cons (pe_var (i := 0) rfl (.inl rfl)) (pa_nil))) (pe_gi (G.gint ("MOST_CUTS", 4) (by decide +kernel)) rfl) (nomark _))))) (pss_one (ps_ret (pe_bl))) (pss_nil)) (pss_cons (ps_if (pt_not (pt_val (pe_callB (cr_all rfl) rfl (G.gfree "all" (by decide +kernel)) (by decide +kernel) (pa_cons (pe_lc (own := [("cut", 1)]) (g := gName 1) (tt := tYes) rfl sc.nd (pi_tup (pe_var (i := 0) rfl (.inl rfl))) (blkOk_by (own := [("cut", 1)]) (N := ["thing", "cut", "one", "other"]) (sc := defScope (top 38)) (by decide +kernel)) (fun _ _ _ _ _ => pg_name (i := 1) sc.nd rfl (.inl rfl)) (fun _ _ _ _ _ => pts_nil) (fun _ _ _ _ _ => pe_D D_is_whole (hr.mono (by decide)) rfl pass_none (pa_cons (pe_var (i := 1) rfl (.inl rfl)) (pa_cons (pe_un un_neg (pe_gi (G.gint ("MOST_CUT", 300) (by decide +kernel)) rfl)) (pa_cons (pe_gi (G.gint ("MOST_CUT", 300) (by decide +kernel)) rfl) (pa_nil)))))) (pa_nil))))) (pss_one (ps_ret (pe_bl))) (pss_nil)) (pss_one (ps_ret (pe_callB (cr_all rfl) rfl (G.gfree "all" (by decide +kernel)) (by decide +kernel) (pa_cons (pe_lc (own := [("one", 2), ("other", 3)]) (g := gTup _ 2 (gCons (gName 2) (gCons (gName 3) (gNil)))) (tt := tYes) rfl sc.nd (pi_zipA rfl (G.gfree "zip" (by decide +kernel)) (pa_cons (pe_var (i := 0) rfl (.inl rfl)) (pa_cons (pe_slice sl_tupA (pe_var (i := 0) rfl (.inl rfl)) (po_some (pe_int)) (po_none)) (pa_nil)))) (blkOk_by (own := [("one", 2), ("other", 3)]) (N := ["thing", "cut", "one", "other"]) (sc := defScope (top 38)) (by decide +kernel)) (fun _ _ _ _ _ => pg_tup rfl (pgs_cons (pg_name (i := 2) sc.nd rfl (.inl rfl)) (pgs_cons (pg_name (i := 3) sc.nd rfl (.inl rfl)) (pgs_nil)))) (fun _ _ _ _ _ => pts_nil) (fun _ _ _ _ _ => pe_cmpR op_lt (pe_var (i := 2) rfl (.inl rfl)) (pe_var (i := 3) rfl (.inl rfl)) (nomark _))) (pa_nil)))))), fun (i : List Int) hp => ?_⟩
  obtain ⟨h1, h2, h3⟩ := (show i.length ≤ 4 ∧ (∀ c ∈ i, -300 ≤ c ∧ c ≤ 300) ∧ i.Pairwise (· < ·) from hp)
  repeat walk_at "k2"
  refine both_f (decide_eq_false (by simp; omega)) ?_
  repeat walk_at "k2"
  refine w_lcTm (f := fun d => .bool (isWhole d (-300) 300)) ?_
  repeat walk_at "k2"
  refine ⟨by simp; omega, fun d hd => ⟨rfl, fun H2 e2 => tw1 ?_⟩, fun H2 e2 => ?_⟩
  · repeat walk_at "k2"
    exact ⟨rfl, by walk_at "same"⟩
  repeat walk_at "k2"
  rw [List.map_map]
  have e3 : (fun d => PyData.bool (isWhole d (-300) 300)) ∘ PyData.int = fun c => PyData.bool (isWhole (.int c) (-300) 300) := rfl
  rw [e3, show (fun c => PyData.bool (isWhole (.int c) (-300) 300)) = PyData.bool ∘ (fun c => isWhole (.int c) (-300) 300) from rfl, ← List.map_map]
  refine oa_all ?_
  rw [all_id_of fun c hc => isWhole_t (h2 c hc).1 (h2 c hc).2]
  repeat walk_at "k2"
  refine w_lcZm (f := fun a b => .bool (decide (ofI a < ofI b))) ?_
  repeat walk_at "k2"
  have e5 : cutD (i.map PyData.int) (some 1) none = (i.drop 1).map PyData.int := by rw [show (1 : Int) = ((1 : Nat) : Int) from rfl, cutD_from, List.map_drop]
  rw [e5]
  refine ⟨_, _, rfl, by simp; omega, fun j d e hd he => ⟨rfl, fun H2 e2 => ?_⟩, fun H2 e2 => ?_⟩
  · rw [List.getElem?_map] at hd he
    obtain ⟨a, ha, rfl⟩ := Option.map_eq_some_iff.mp hd
    obtain ⟨b, hb, rfl⟩ := Option.map_eq_some_iff.mp he
    refine tw2 (by decide) ?_
    repeat walk_at "k2"
    exact ⟨rfl, by walk_at "same"⟩
  · rw [List.zip_map, List.map_map]
    have e6 : ((fun q : PyData × PyData => PyData.bool (decide (ofI q.1 < ofI q.2))) ∘ Prod.map PyData.int PyData.int) = PyData.bool ∘ fun q : Int × Int => decide (q.1 < q.2) := rfl
    rw [e6, ← List.map_map]
    repeat walk_at "k2"
    refine oa_all ?_
    have up : ∀ q ∈ i.zip (i.drop 1), decide (q.1 < q.2) = true := fun q hq => decide_eq_true (zip_up h3 q hq)
    rw [all_id_of up]
    exact rt_pure (by walk_at "same") fun _ => rfl
omit G in
theorem sc_is_mode : FnScope ["thing", "modes", "entry"] ["thing", "modes"] (defScope (top 39)) := ⟨rfl, rfl, rfl, by decide +kernel, rfl, by decide +kernel, by decide +kernel⟩
theorem ok_is_mode (D_are_cuts : DefOk P w K mg base 3 "are_cuts" ["thing"] S_are_cuts) (D_is_entry : DefOk P w K mg base 4 "is_entry" ["thing", "modes"] S_is_entry) (F : FnP K "is_mode" "is_mode" (top 39) [] f fd) : FnOk P w K mg base (L2.CX P w) 5 f fd ["thing", "modes"] (sp S_is_mode) := by
  have sc := sc_is_mode
  refine ok_pure F sc (fun _ => rfl) fun cdv A outer s H E hr => ⟨_, pss_cons (ps_if (PW.pt (pw_or (pt_not (pt_val (pe_callB call_isi rfl (G.gfree "isinstance" (by decide +kernel)) (by decide +kernel) (pa_cons (pe_var (i := 0) rfl (.inl rfl)) (pa_cons (pe_ty (T := "tuple") (G.gfree "tuple" (by decide +kernel)) (by decide +kernel) rfl) (pa_nil)))))) (pw_or (pt_cmpR (op_neD hr.units) (pe_callB call_len_seq rfl (G.gfree "len" (by decide +kernel)) (by decide +kernel) (pa_cons (pe_var (i := 0) rfl (.inl rfl)) (pa_nil))) (pe_int) (nomark _)) (pw_or1 (pt_not (pt_val (pe_D D_are_cuts (hr.mono (by decide)) rfl pass_none (pa_cons (pe_ix ix_seq (pe_var (i := 0) rfl (.inl rfl)) (pe_int) (fun _ _ => rfl)) (pa_nil))))))))) (pss_one (ps_ret (pe_bl))) (pss_nil)) (pss_cons (ps_if (PW.pt (pw_or (pt_not (pt_val (pe_callB call_isi rfl (G.gfree "isinstance" (by decide +kernel)) (by decide +kernel) (pa_cons (pe_ix ix_seq (pe_var (i := 0) rfl (.inl rfl)) (pe_int) (fun _ _ => rfl)) (pa_cons (pe_ty (T := "tuple") (G.gfree "tuple" (by decide +kernel)) (by decide +kernel) rfl) (pa_nil)))))) (pw_or1 (pt_cmpR (op_neD hr.units) (pe_callB call_len_seq rfl (G.gfree "len" (by decide +kernel)) (by decide +kernel) (pa_cons (pe_ix ix_seq (pe_var (i := 0) rfl (.inl rfl)) (pe_int) (fun _ _ => rfl)) (pa_nil))) (pe_op op_add (pe_callB call_len_seq rfl (G.gfree "len" (by decide +kernel)) (by decide +kernel) (pa_cons (pe_ix ix_seq (pe_var (i := 0) rfl (.inl rfl)) (pe_int) (fun _ _ => rfl)) (pa_nil))) (pe_int)) (nomark _))))) (pss_one (ps_ret (pe_bl))) (pss_nil)) (pss_cons (ps_if (pt_not (pt_val (pe_callB (cr_all rfl) rfl (G.gfree "all" (by decide +kernel)) (by decide +kernel) (pa_cons (pe_lc (own := [("entry", 2)]) (g := gName 2) (tt := tYes) rfl sc.nd (pi_tup (pe_ix ix_seq (pe_var (i := 0) rfl (.inl rfl)) (pe_int) (fun _ _ => rfl))) (blkOk_by (own := [("entry", 2)]) (N := ["thing", "modes", "entry"]) (sc := defScope (top 39)) (by decide +kernel)) (fun _ _ _ _ _ => pg_name (i := 2) sc.nd rfl (.inl rfl)) (fun _ _ _ _ _ => pts_nil) (fun _ _ _ _ _ => pe_D D_is_entry (hr.mono (by decide)) rfl pass_none (pa_cons (pe_var (i := 2) rfl (.inl rfl)) (pa_cons (pe_var (i := 1) rfl (.inr (.inl rfl))) (pa_nil))))) (pa_nil))))) (pss_one (ps_ret (pe_bl))) (pss_nil)) (pss_one (ps_ret (pe_and (pe_D D_is_entry (hr.mono (by decide)) rfl pass_none (pa_cons (pe_ix ix_seq (pe_var (i := 0) rfl (.inl rfl)) (pe_int) (fun _ _ => rfl)) (pa_cons (pe_var (i := 1) rfl (.inr (.inl rfl))) (pa_nil)))) (pe_one (pe_cmpR op_in_seq (pe_ix ix_seq (pe_ix ix_seq (pe_ix ix_seq (pe_var (i := 0) rfl (.inl rfl)) (pe_int) (fun _ _ => rfl)) (pe_int) (fun _ _ => rfl)) (pe_int) (fun _ _ => rfl)) (pe_tup (pa_cons (pe_gs (G.gstr ("HOLD", "hold") (by decide +kernel)) rfl) (pa_cons (pe_gs (G.gstr ("SHIFT", "shift") (by decide +kernel)) rfl) (pa_nil)))) (by rfl)))))))), fun (i : Mod × Int) hp => ?_⟩
  obtain ⟨⟨cuts, ents, miss⟩, k⟩ := i
  have hp : Mod.ok k ⟨cuts, ents, miss⟩ := hp
  repeat walk_at "k2"
  refine CallS.pure (S := S_are_cuts) cuts rfl (fun _ _ => ⟨hp.few, hp.big, hp.up⟩) rfl fun x H2 e po => ?_
  obtain rfl : x = .d (.bool true) := po
  repeat walk_at "k2"
  refine both_f (by have := hp.len; simp at this; simp [this]) ?_
  repeat walk_at "k2"
  refine w_lcTm (f := fun d => .bool true) ?_
  repeat walk_at "k2"
  refine ⟨by have := hp.len; have := hp.few; simp at *; omega, fun d hd => ⟨rfl, fun H2 e2 => tw1 ?_⟩, fun H2 e2 => ?_⟩
  · obtain ⟨en, hen, rfl⟩ := List.mem_map.mp hd
    repeat walk_at "k2"
    refine cs_is_entry (hp.ent en hen) fun H3 e3 => ?_
    exact ⟨rfl, by walk_at "same"⟩
  repeat walk_at "k2"
  rw [List.map_map, show ((fun d => PyData.bool true) ∘ Ent.enc) = PyData.bool ∘ (fun _ => true) from rfl, ← List.map_map]
  refine oa_all ?_
  rw [all_id_of (l := ents) (f := fun _ => true) fun _ _ => rfl]
  repeat walk_at "k2"
  refine cs_is_entry hp.mis fun H3 e3 => ?_
  repeat walk_at "k2"
  have st := hp.sti
  obtain ⟨d, m⟩ := miss
  cases d with
  | hold =>
    repeat walk_at "k2"
    exact rt_pure (by walk_at "same") fun _ => by
      show Dx.d (PyData.bool _) = Dx.d (PyData.bool true)
      exact congrArg (fun b => Dx.d (PyData.bool b)) (by decide +kernel)
  | shift n =>
    repeat walk_at "k2"
    exact rt_pure (by walk_at "same") fun _ => by
      show Dx.d (PyData.bool _) = Dx.d (PyData.bool true)
      exact congrArg (fun b => Dx.d (PyData.bool b)) (by decide +kernel)
  | run n => exact st.elim
  | jump a b => exact st.elim
end
end K2

set_option Elab.async false
set_option linter.all false
set_option maxRecDepth 100000
set_option maxHeartbeats 2000000
/-! ## local lists that are written -/
namespace K2
open PySem L2 PySem.Spec PyProof.Rows RZ
section
variable {Γ : List Gh} {ρ : Rho} {H : Hp} {R : PX} {te to : TE} {ta : TA} {K : PySem.W.Frag} {EE : EX}
/-- a list told apart, looked at as data -/
theorem w_varL {i : Nat} {l : Addr} {vs : List V} {ds : List PyData} (h : ρ[i]? = some (some (.o (.ref l)))) (hl : H l = some (.lst vs)) (hd : DqAll H vs ds) (k : R (.d (.list ds)) H) : W Γ (tVar i) ρ H R := fun σ H' e s Q q => by
  obtain ⟨v, h1, h2⟩ := s.at_ i _ h
  cases h2
  exact ⟨.ref l, h1, q _ _ H H' k e (Ft.refl _) (.lst (e _ _ hl) (ft_dps e.ftq _ _ hd))⟩
theorem go_extend (h : W Γ to ρ H fun x H1 => ∃ l ys, x = .o (.ref l) ∧ H1 l = some (.lst ys) ∧ WA Γ ta ρ H1 fun xs H2 => ∃ ns : List Int, xs = [.d (.list (ns.map .int))] ∧ H2 l = some (.lst ys) ∧ noLr Γ ρ = true ∧ ys.length + ns.length ≤ 1000000 ∧ EE.nx ρ (upd H2 l (.lst (ys ++ ns.map .int)))) :
    Go Γ (tDrop (tBM K "list" rExtend to ta)) EE ρ H := fun D le σ H' e s =>
  h σ H' e s _ fun x v H1 H1' k e1 f1 d1 => by
    obtain ⟨l, ys, rfl, hl, k⟩ := k
    cases d1
    refine ⟨.inl ⟨rfl, ys, SqL.of (e1 _ _ hl)⟩, k σ H1' e1 (s.ft f1) _ fun xs vs H2 H2' k2 e2 f2 d2 => ?_⟩
    obtain ⟨ns, rfl, hl2, nl, hz, k2⟩ := k2
    cases d2 with
    | cons a b =>
      cases b
      cases a with
      | @lst b zs _ hb hd =>
        have ez := hd.ints
        subst ez
        exact ⟨l, b, ys, _, rfl, rfl, e2 _ _ hl2, hb, by rw [List.length_map, sizeLine_eq]; omega, go_mut (P := True) hl2 nl k2 D le σ H2' e2 ((s.ft f1).ft f2)⟩
/-- xs.append(e), e no list -/
theorem go_append (h : W Γ to ρ H fun x H1 => ∃ l ys, x = .o (.ref l) ∧ H1 l = some (.lst ys) ∧ WA Γ ta ρ H1 fun xs H2 => ∃ i : Int, xs = [.d (.int i)] ∧ H2 l = some (.lst ys) ∧ noLr Γ ρ = true ∧ ys.length ≤ 1000000 ∧ EE.nx ρ (upd H2 l (.lst (ys ++ [.int i])))) :
    Go Γ (tDrop (tBM K "list" rAppend to ta)) EE ρ H := fun D le σ H' e s =>
  h σ H' e s _ fun x v H1 H1' k e1 f1 d1 => by
    obtain ⟨l, ys, rfl, hl, k⟩ := k
    cases d1
    refine ⟨.inl ⟨rfl, ys, SqL.of (e1 _ _ hl)⟩, k σ H1' e1 (s.ft f1) _ fun xs vs H2 H2' k2 e2 f2 d2 => ?_⟩
    obtain ⟨i, rfl, hl2, nl, hz, k2⟩ := k2
    cases d2 with
    | cons a b =>
      cases b
      cases a
      exact ⟨l, ys, _, rfl, rfl, e2 _ _ hl2, by rw [sizeLine_eq]; omega, go_mut (P := True) hl2 nl k2 D le σ H2' e2 ((s.ft f1).ft f2)⟩
/-- xs.append(e), e any data without lists; the list is looked at as data -/
theorem go_appendD {ds : List PyData} (h : W Γ to ρ H fun x H1 => ∃ l ys, x = .o (.ref l) ∧ H1 l = some (.lst ys) ∧ DqAll H1 ys ds ∧ noLs ds = true ∧ WA Γ ta ρ H1 fun xs H2 => ∃ d, xs = [.d d] ∧ noL d = true ∧ Same H1 H2 ∧ noLr Γ ρ = true ∧ ds.length ≤ 1000000 ∧
    ∀ H3 zs, (∀ b o, b ≠ l → H2 b = some o → H3 b = some o) → (∀ b, H3 b = none → H2 b = none) → H3 l = some (.lst zs) → DqAll H3 zs (ds ++ [d]) → EE.nx ρ H3) :
    Go Γ (tDrop (tBM K "list" rAppend to ta)) EE ρ H := fun D le σ H' e s =>
  h σ H' e s _ fun x v H1 H1' k e1 f1 d1 => by
    obtain ⟨l, ys, rfl, hl, hd, hn, k⟩ := k
    cases d1
    refine ⟨.inl ⟨rfl, ys, SqL.of (e1 _ _ hl)⟩, k σ H1' e1 (s.ft f1) _ fun xs vs H2 H2' k2 e2 f2 d2 => ?_⟩
    obtain ⟨d, rfl, nd, s12, nl, hz, k2⟩ := k2
    have hl2 : H2' l = some (.lst ys) := e2 _ _ (s12 _ _ hl)
    have hd2 : DqAll H2' ys ds := ft_dps (s12.trans e2).ftq _ _ hd
    cases d2 with
    | @cons v _ _ _ a b =>
      cases b
      refine ⟨l, ys, v, rfl, rfl, hl2, by rw [hd.len, sizeLine_eq]; omega, ?_⟩
      refine le.nx ρ _ σ _ (k2 (upd H2' l (.lst (ys ++ [v]))) _ (fun b o hb q => by rw [upd_ne hb]; exact e2 b o q) (fun b q => e2.free (upd_fr q)) upd_same ?_) (Same.refl _) (((s.ft f1).ft f2).updl hl2 nl)
      exact (updl_dps hl2 _ _ hn hd2).append (.cons (updl_dp hl2 _ _ nd a) .nil)
end
end K2

set_option Elab.async false
set_option linter.all false
set_option maxRecDepth 100000
set_option maxHeartbeats 4000000
namespace K2
open PySem L2 PySem.Spec PyProof.Rows StX RZ
local macro_rules | `(tactic| walk_at "k2") => `(tactic| first
  | with_reducible refine w_var rfl ?_
  | with_reducible refine w_int ?_
  | with_reducible refine w_bl ?_
  | with_reducible refine w_non ?_
  | with_reducible refine w_str ?_
  | with_reducible refine w_o ?_
  | with_reducible refine wa_cons ?_
  | with_reducible refine wa_nil ?_
  | with_reducible refine w_op ?_
  | with_reducible refine w_un ?_
  | with_reducible refine w_cb ?_
  | with_reducible refine w_call0 ?_
  | with_reducible refine w_chain ?_
  | with_reducible refine w_tup ?_
  | with_reducible refine w_lst ?_
  | with_reducible refine w_andV ?_
  | with_reducible refine w_orV ?_
  | with_reducible refine w_notV ?_
  | with_reducible refine w_if ?_
  | with_reducible refine wt_test ?_
  | with_reducible refine wt_B ?_
  | with_reducible refine wt_and ?_
  | with_reducible refine wt_or ?_
  | with_reducible refine wt_not ?_
  | with_reducible refine go_seq ?_
  | with_reducible refine go_ret ?_
  | with_reducible refine go_retN ?_
  | with_reducible refine go_set ?_
  | with_reducible refine go_par ?_
  | with_reducible refine go_par3 ?_
  | with_reducible refine go_asg ?_
  | with_reducible refine go_drop ?_
  | with_reducible refine go_next ?_
  | with_reducible refine go_if ?_
  | with_reducible refine o2_ii ?_
  | with_reducible refine o2_ib ?_
  | with_reducible refine o1_i ?_
  | with_reducible refine o2_isN ?_
  | with_reducible refine o2_notN ?_
  | with_reducible refine oa_isiI ?_
  | with_reducible refine oa_isiB ?_
  | with_reducible refine oa_isiT ?_
  | with_reducible refine oa_isiS ?_
  | with_reducible refine oa_abs ?_
  | with_reducible refine oa_max ?_
  | with_reducible refine oa_min ?_
  | with_reducible refine oa_len ?_
  | with_reducible refine oa_lenL ?_
  | with_reducible refine oa_intB ?_
  | refine ⟨[_, _], rfl, by decide, ?_⟩
  | refine ⟨[_, _, _], rfl, by decide, ?_⟩
  | refine ⟨[_], rfl, by decide, ?_⟩
  | refine ⟨[], rfl, by decide, ?_⟩)

local macro_rules | `(tactic| walk_at "k2") => `(tactic| first
  | with_reducible refine ex_b ?_
  | refine both_t rfl ?_
  | refine both_f rfl ?_
  | refine both_f2 rfl ?_
  | refine both_t2 rfl ?_
  | with_reducible refine cs_is_integer fun _ _ => ?_
  | with_reducible refine cs_is_whole fun _ _ => ?_
  | refine oa_len ?_
  | refine oa_lenL ?_
  | refine o2_ixT rfl ?_
  | refine o2_ixL rfl ?_
  | refine o2_in rfl rfl ?_
  | refine o2_eqI ?_
  | refine o2_neI ?_
  | refine o2_eqS (by decide +kernel) (by decide +kernel) ?_
  | refine o2_neS (by decide +kernel) (by decide +kernel) ?_
  | refine o2_eqD (Deed.shp _).ok rfl ?_
  | refine both_t (by decide +kernel) ?_
  | refine both_f (by decide +kernel) ?_
  | refine both_f2 (by decide +kernel) ?_
  | refine both_t2 (by decide +kernel) ?_
  | with_reducible refine w_slT ?_
  | with_reducible refine wg_name ?_
  | with_reducible refine wgs_cons ?_
  | with_reducible refine wgs_nil ?_
  | refine wg_tup rfl ?_
  | refine wgs_cons ?_
  | refine wgs_nil ?_
  | with_reducible refine w_slL ?_
  | with_reducible refine wo_no ?_
  | with_reducible refine wo_some ?_
  | with_reducible refine ⟨_, rfl, ?_⟩)
local macro_rules | `(tactic| walk_at "same") => `(tactic| ((repeat (first | exact Same.refl _ | assumption | refine Same.trans ?_ (by assumption)))))
def S_taken_by : Spc where
  ι := Deed × Int
  args i := [.d i.1.enc, .d (.int i.2)]
  pre i _ := i.1.ok
  mod _ := []
  post i x _ := x = .d (.int (takenBy i.1 i.2))
def S_is_round : Spc where
  ι := Wld × Int × Rd2
  args i := [.d i.1.enc, .d (.int i.2.1), .d i.2.2.enc]
  pre _ _ := True
  mod _ := []
  post i x _ := x = .d (.bool (isRound i.1 i.2.1 i.2.2))
def S_entry_at : Spc where
  ι := Mod × Int × Int
  args i := [.d i.1.enc, .d (.int i.2.1)]
  pre i _ := i.1.ok i.2.2
  mod _ := []
  post i x _ := x = .d (entryAt i.1 i.2.1).enc
theorem cs_taken {d : Deed} {e : Int} (h : d.ok) {H : Hp} {R : PX} (q : ∀ H2, Same H H2 → R (.d (.int (takenBy d e))) H2) : CallS S_taken_by [.d d.enc, .d (.int e)] H Eno R := CallS.pure (S := S_taken_by) (d, e) rfl (fun _ _ => h) rfl fun x H2 s po => by
  obtain rfl : x = .d (.int (takenBy d e)) := po
  exact q H2 s
section
variable {P : Program} {w : World} {K : PySem.W.Frag} {mg : Str → Option Value} {base : Heap} {f : Addr} {fd : FuncData} (G : GF mg)
include G
omit G in
theorem sc_need_rule : FnScope ["thing", "number", "mode"] ["thing"] (defScope (top 40)) := ⟨rfl, rfl, rfl, by decide +kernel, rfl, by decide +kernel, by decide +kernel⟩
theorem ok_need_rule (D_is_mode : DefOk P w K mg base 5 "is_mode" ["thing", "modes"] S_is_mode) (F : FnP K "need_rule" "need_rule" (top 40) [] f fd) : FnOk P w K mg base (L2.CX P w) 6 f fd ["thing"] (sp S_need_rule) := by
  have sc := sc_need_rule
  refine ok_pure F sc (fun _ => rfl) fun cdv A outer s H E hr => ⟨_, pss_cons (ps_if (PW.pt (pw_or (pt_not (pt_val (pe_callB call_isi rfl (G.gfree "isinstance" (by decide +kernel)) (by decide +kernel) (pa_cons (pe_var (i := 0) rfl (.inl rfl)) (pa_cons (pe_ty (T := "tuple") (G.gfree "tuple" (by decide +kernel)) (by decide +kernel) rfl) (pa_nil)))))) (pw_or1 (pt_not (pt_chain op_le op_le (pe_int) (pe_callB call_len_seq rfl (G.gfree "len" (by decide +kernel)) (by decide +kernel) (pa_cons (pe_var (i := 0) rfl (.inl rfl)) (pa_nil))) (pe_gi (G.gint ("MOST_MODES", 3) (by decide +kernel)) rfl)))))) (pss_one (ps_never)) (pss_nil)) (pss_cons (ps_for PassesOwn.never rfl (pi_enumT rfl (G.gfree "enumerate" (by decide +kernel)) (pa_cons (pe_var (i := 0) rfl (.inl rfl)) (pa_nil))) (pg_tup rfl (pgs_cons (pg_name (i := 1) sc.nd rfl (.inl rfl)) (pgs_cons (pg_name (i := 2) sc.nd rfl (.inl rfl)) (pgs_nil)))) (pss_one (ps_if (pt_not (pt_val (pe_D D_is_mode (hr.mono (by decide)) rfl pass_none (pa_cons (pe_var (i := 2) rfl (.inl rfl)) (pa_cons (pe_callB call_len_seq rfl (G.gfree "len" (by decide +kernel)) (by decide +kernel) (pa_cons (pe_var (i := 0) rfl (.inl rfl)) (pa_nil))) (pa_nil)))))) (pss_one (ps_never)) (pss_nil)))) (pss_one (ps_ret (pe_var (i := 0) rfl (.inl rfl))))), fun (i : Rul) hp => ?_⟩
  have hp : Rul.ok i := hp
  repeat walk_at "k2"
  refine both_t (decide_eq_true (by have := hp.pos; simp; omega)) ?_
  repeat walk_at "k2"
  refine both_f (congrArg Bool.not (decide_eq_true (by have := hp.few; simp; omega))) ?_
  repeat walk_at "k2"
  refine go_forE ?_
  repeat walk_at "k2"
  refine ⟨fun j ρ H2 => Same H H2 ∧ ∃ a b, ρ = [some (.d (encR i)), a, b], ⟨Same.refl _, _, _, rfl⟩, fun Γ' _ j d ρ2 H2 hd hJ => ?_, fun ρ2 H2 hJ => ?_⟩
  · obtain ⟨e2, a, b, rfl⟩ := hJ
    rw [List.getElem?_map] at hd
    obtain ⟨m, hm, rfl⟩ := Option.map_eq_some_iff.mp hd
    repeat walk_at "k2"
    refine CallS.pure (S := S_is_mode) (m, i.length) (by simp [S_is_mode]) (fun _ _ => hp.mod m (List.mem_of_getElem? hm)) rfl fun x H3 e3 po => ?_
    obtain rfl : x = .d (.bool true) := po
    repeat walk_at "k2"
    exact ⟨by walk_at "same", _, _, rfl⟩
  · obtain ⟨e2, a, b, rfl⟩ := hJ
    repeat walk_at "k2"
    exact rt_pure (by walk_at "same") fun _ => rfl
omit G in
theorem sc_taken_by : FnScope ["deed", "estimate", "part"] ["deed", "estimate"] (defScope (top 41)) := ⟨rfl, rfl, rfl, by decide +kernel, rfl, by decide +kernel, by decide +kernel⟩
theorem ok_taken_by  (F : FnP K "taken_by" "taken_by" (top 41) [] f fd) : FnOk P w K mg base (L2.CX P w) 1 f fd ["deed", "estimate"] (sp S_taken_by) := by
  have sc := sc_taken_by
  refine ok_pure F sc (fun _ => rfl) fun cdv A outer s H E hr => ⟨_, pss_cons (ps_if (pt_cmpR (op_eqD hr.units) (pe_ix ix_seq (pe_var (i := 0) rfl (.inl rfl)) (pe_int) (fun _ _ => rfl)) (pe_gs (G.gstr ("HOLD", "hold") (by decide +kernel)) rfl) (nomark _)) (pss_one (ps_ret (pe_int))) (pss_nil)) (pss_cons (ps_if (pt_cmpR (op_eqD hr.units) (pe_ix ix_seq (pe_var (i := 0) rfl (.inl rfl)) (pe_int) (fun _ _ => rfl)) (pe_gs (G.gstr ("SHIFT", "shift") (by decide +kernel)) rfl) (nomark _)) (pss_one (ps_ret (pe_ix ix_seq (pe_var (i := 0) rfl (.inl rfl)) (pe_int) (fun _ _ => rfl)))) (pss_nil)) (pss_cons (ps_if (pt_cmpR (op_eqD hr.units) (pe_ix ix_seq (pe_var (i := 0) rfl (.inl rfl)) (pe_int) (fun _ _ => rfl)) (pe_gs (G.gstr ("RUN", "run") (by decide +kernel)) rfl) (nomark _)) (pss_one (ps_ret (pe_callB (call_max2 rfl) rfl (G.gfree "max" (by decide +kernel)) (by decide +kernel) (pa_cons (pe_op op_sub (pe_int) (pe_ix ix_seq (pe_var (i := 0) rfl (.inl rfl)) (pe_int) (fun _ _ => rfl))) (pa_cons (pe_callB (call_min2 rfl) rfl (G.gfree "min" (by decide +kernel)) (by decide +kernel) (pa_cons (pe_ix ix_seq (pe_var (i := 0) rfl (.inl rfl)) (pe_int) (fun _ _ => rfl)) (pa_cons (pe_var (i := 1) rfl (.inl rfl)) (pa_nil)))) (pa_nil)))))) (pss_nil)) (pss_cons (ps_set (i := 2) sc.nd rfl (.inl rfl) (pe_op op_fdiv (pe_op op_mul (pe_ix ix_seq (pe_var (i := 0) rfl (.inl rfl)) (pe_int) (fun _ _ => rfl)) (pe_callB call_abs rfl (G.gfree "abs" (by decide +kernel)) (by decide +kernel) (pa_cons (pe_var (i := 1) rfl (.inl rfl)) (pa_nil)))) (pe_ix ix_seq (pe_var (i := 0) rfl (.inl rfl)) (pe_int) (fun _ _ => rfl)))) (pss_one (ps_ret (pe_ifExp (pt_cmpR op_ge (pe_var (i := 1) rfl (.inl rfl)) (pe_int) (nomark _)) (pe_var (i := 2) rfl (.inl rfl)) (pe_op op_sub (pe_int) (pe_var (i := 2) rfl (.inl rfl))))))))), fun (i : Deed × Int) hp => ?_⟩
  obtain ⟨d, e⟩ := i
  cases d with
  | hold =>
    repeat walk_at "k2"
    exact rt_pure (by walk_at "same") fun _ => rfl
  | shift n =>
    repeat walk_at "k2"
    exact rt_pure (by walk_at "same") fun _ => rfl
  | run n =>
    repeat walk_at "k2"
    exact rt_pure (by walk_at "same") fun _ => rfl
  | jump a b =>
    obtain ⟨h1, h2, h3, h4⟩ := (show 1 ≤ b ∧ b ≤ 60 ∧ 0 ≤ a ∧ a ≤ b from hp)
    repeat walk_at "k2"
    refine o2_iC (.inl ⟨by omega, by omega⟩) ?_
    repeat walk_at "k2"
    refine o2_iC ⟨by omega, by omega⟩ ?_
    repeat walk_at "k2"
    refine ⟨fun hb => ?_, fun hb => ?_⟩
    · repeat walk_at "k2"
      refine rt_pure (by walk_at "same") fun _ => ?_
      show _ = Dx.d (.int (takenBy (.jump a b) e))
      rw [takenBy, if_pos (of_decide_eq_true hb)]
    · repeat walk_at "k2"
      refine rt_pure (by walk_at "same") fun _ => ?_
      show _ = Dx.d (.int (takenBy (.jump a b) e))
      rw [takenBy, if_neg (of_decide_eq_false hb)]
omit G in
theorem sc_is_round : FnScope ["world", "missed", "thing"] ["world", "missed", "thing"] (defScope (top 42)) := ⟨rfl, rfl, rfl, by decide +kernel, rfl, by decide +kernel, by decide +kernel⟩
theorem ok_is_round (D_is_whole : DefOk P w K mg base 2 "is_whole" ["thing", "least", "most"] S_is_whole) (F : FnP K "is_round" "is_round" (top 42) [] f fd) : FnOk P w K mg base (L2.CX P w) 3 f fd ["world", "missed", "thing"] (sp S_is_round) := by
  have sc := sc_is_round
  refine ok_pure F sc (fun _ => rfl) fun cdv A outer s H E hr => ⟨_, pss_cons (ps_if (PW.pt (pw_or (pt_not (pt_val (pe_callB call_isi rfl (G.gfree "isinstance" (by decide +kernel)) (by decide +kernel) (pa_cons (pe_var (i := 2) rfl (.inl rfl)) (pa_cons (pe_ty (T := "tuple") (G.gfree "tuple" (by decide +kernel)) (by decide +kernel) rfl) (pa_nil)))))) (pw_or (pt_cmpR (op_neD hr.units) (pe_callB call_len_seq rfl (G.gfree "len" (by decide +kernel)) (by decide +kernel) (pa_cons (pe_var (i := 2) rfl (.inl rfl)) (pa_nil))) (pe_int) (nomark _)) (pw_or1 (pt_not (pt_val (pe_D D_is_whole (hr.mono (by decide)) rfl pass_none (pa_cons (pe_ix ix_seq (pe_var (i := 2) rfl (.inl rfl)) (pe_int) (fun _ _ => rfl)) (pa_cons (pe_ix ix_seq (pe_var (i := 0) rfl (.inl rfl)) (pe_int) (fun _ _ => rfl)) (pa_cons (pe_ix ix_seq (pe_var (i := 0) rfl (.inl rfl)) (pe_int) (fun _ _ => rfl)) (pa_nil))))))))))) (pss_one (ps_ret (pe_bl))) (pss_nil)) (pss_cons (ps_if (pt_cmpR op_isN (pe_ix ix_seq (pe_var (i := 2) rfl (.inl rfl)) (pe_int) (fun _ _ => rfl)) (pe_non) (nomark _)) (pss_one (ps_ret (pe_cmpR op_lt (pe_var (i := 1) rfl (.inl rfl)) (pe_ix ix_seq (pe_var (i := 0) rfl (.inl rfl)) (pe_int) (fun _ _ => rfl)) (nomark _)))) (pss_nil)) (pss_one (ps_ret (pe_D D_is_whole (hr.mono (by decide)) rfl pass_none (pa_cons (pe_ix ix_seq (pe_var (i := 2) rfl (.inl rfl)) (pe_int) (fun _ _ => rfl)) (pa_cons (pe_op op_sub (pe_int) (pe_ix ix_seq (pe_var (i := 0) rfl (.inl rfl)) (pe_int) (fun _ _ => rfl))) (pa_cons (pe_ix ix_seq (pe_var (i := 0) rfl (.inl rfl)) (pe_int) (fun _ _ => rfl)) (pa_nil)))))))), fun (i : Wld × Int × Rd2) hp => ?_⟩
  obtain ⟨w, ms, ⟨a, b⟩⟩ := i
  repeat walk_at "k2"
  refine ⟨fun hb => ?_, fun hb => ?_⟩
  · repeat walk_at "k2"
    refine rt_pure (by walk_at "same") fun _ => ?_
    show _ = Dx.d (.bool (isRound w ms (a, b)))
    have hb' : isWhole a w.lo w.hi = false := by simpa using hb
    simp [isRound, hb']
  · have hb' : isWhole a w.lo w.hi = true := by simpa using hb
    repeat walk_at "k2"
    refine ⟨fun hn => ?_, fun hn => ?_⟩
    · cases b <;> first | (cases hn; done) | skip
      repeat walk_at "k2"
      refine rt_pure (by walk_at "same") fun _ => ?_
      show _ = Dx.d (.bool (isRound w ms (a, .none)))
      simp [isRound, hb']
    · repeat walk_at "k2"
      refine rt_pure (by walk_at "same") fun _ => ?_
      show _ = Dx.d (.bool (isRound w ms (a, b)))
      cases b <;> first | (cases hn; done) | simp [isRound, hb']
omit G in
theorem sc_entry_at : FnScope ["mode", "estimate", "cut"] ["mode", "estimate"] (defScope (top 43)) := ⟨rfl, rfl, rfl, by decide +kernel, rfl, by decide +kernel, by decide +kernel⟩
theorem ok_entry_at  (F : FnP K "entry_at" "entry_at" (top 43) [] f fd) : FnOk P w K mg base (L2.CX P w) 1 f fd ["mode", "estimate"] (sp S_entry_at) := by
  have sc := sc_entry_at
  refine ok_pure F sc (fun _ => rfl) fun cdv A outer s H E hr => ⟨_, pss_one (ps_ret (pe_ix ix_seq (pe_ix ix_seq (pe_var (i := 0) rfl (.inl rfl)) (pe_int) (fun _ _ => rfl)) (pe_callB call_len_seq rfl (G.gfree "len" (by decide +kernel)) (by decide +kernel) (pa_cons (pe_lc (own := [("cut", 2)]) (g := gName 2) rfl sc.nd (pi_tup (pe_ix ix_seq (pe_var (i := 0) rfl (.inl rfl)) (pe_int) (fun _ _ => rfl))) (blkOk_by (own := [("cut", 2)]) (N := ["mode", "estimate", "cut"]) (sc := defScope (top 43)) (by decide +kernel)) (fun _ _ _ _ _ => pg_name (i := 2) sc.nd rfl (.inl rfl)) (fun _ _ _ _ _ => pts_one (pt_cmpR op_le (pe_var (i := 2) rfl (.inl rfl)) (pe_var (i := 1) rfl (.inr (.inl rfl))) (nomark _))) (fun _ _ _ _ _ => pe_var (i := 2) rfl (.inl rfl))) (pa_nil))) (fun _ _ => rfl))), fun (i : Mod × Int × Int) hp => ?_⟩
  obtain ⟨m, e, k⟩ := i
  have hp : m.ok k := hp
  repeat walk_at "k2"
  refine w_lcTf (p := fun d => decide (ofI d ≤ e)) ?_
  repeat walk_at "k2"
  refine ⟨by have := hp.few; simp; omega, fun d hd => ⟨?_, fun H2 e2 => tw1 ?_⟩, fun H2 e2 => ?_⟩
  · obtain ⟨c, hc, rfl⟩ := List.mem_map.mp hd
    rfl
  · obtain ⟨c, hc, rfl⟩ := List.mem_map.mp hd
    repeat walk_at "k2"
    refine ⟨rfl, by walk_at "same", ?_⟩
    repeat walk_at "k2"
    exact ⟨rfl, by walk_at "same"⟩
  have ef : (m.cuts.map PyData.int).filter (fun d => decide (ofI d ≤ e)) = (below m.cuts e).map PyData.int := by
    rw [List.filter_map]
    rfl
  rw [ef]
  repeat walk_at "k2"
  rw [List.length_map]
  refine o2_ixT (d := (entryAt m e).enc) (atI_nat ?_) ?_
  · rw [List.getElem?_map, (entryAt_mem hp e).2]
    rfl
  · exact rt_pure (by walk_at "same") fun _ => rfl
end
end K2

set_option Elab.async false
set_option linter.all false
set_option maxRecDepth 100000
set_option maxHeartbeats 4000000
namespace K2
open PySem L2 PySem.Spec PyProof.Rows StX RZ
local macro_rules | `(tactic| walk_at "k2") => `(tactic| first
  | with_reducible refine w_var rfl ?_
  | with_reducible refine w_int ?_
  | with_reducible refine w_bl ?_
  | with_reducible refine w_non ?_
  | with_reducible refine w_str ?_
  | with_reducible refine w_o ?_
  | with_reducible refine wa_cons ?_
  | with_reducible refine wa_nil ?_
  | with_reducible refine w_op ?_
  | with_reducible refine w_un ?_
  | with_reducible refine w_cb ?_
  | with_reducible refine w_call0 ?_
  | with_reducible refine w_chain ?_
  | with_reducible refine w_tup ?_
  | with_reducible refine w_lst ?_
  | with_reducible refine w_andV ?_
  | with_reducible refine w_orV ?_
  | with_reducible refine w_notV ?_
  | with_reducible refine w_if ?_
  | with_reducible refine wt_test ?_
  | with_reducible refine wt_B ?_
  | with_reducible refine wt_and ?_
  | with_reducible refine wt_or ?_
  | with_reducible refine wt_not ?_
  | with_reducible refine go_seq ?_
  | with_reducible refine go_ret ?_
  | with_reducible refine go_retN ?_
  | with_reducible refine go_set ?_
  | with_reducible refine go_par ?_
  | with_reducible refine go_par3 ?_
  | with_reducible refine go_asg ?_
  | with_reducible refine go_drop ?_
  | with_reducible refine go_next ?_
  | with_reducible refine go_if ?_
  | with_reducible refine o2_ii ?_
  | with_reducible refine o2_ib ?_
  | with_reducible refine o1_i ?_
  | with_reducible refine o2_isN ?_
  | with_reducible refine o2_notN ?_
  | with_reducible refine oa_isiI ?_
  | with_reducible refine oa_isiB ?_
  | with_reducible refine oa_isiT ?_
  | with_reducible refine oa_isiS ?_
  | with_reducible refine oa_abs ?_
  | with_reducible refine oa_max ?_
  | with_reducible refine oa_min ?_
  | with_reducible refine oa_len ?_
  | with_reducible refine oa_lenL ?_
  | with_reducible refine oa_intB ?_
  | refine ⟨[_, _], rfl, Nat.le_of_ble_eq_true rfl, ?_⟩
  | refine ⟨[_, _, _], rfl, Nat.le_of_ble_eq_true rfl, ?_⟩
  | refine ⟨[_], rfl, Nat.le_of_ble_eq_true rfl, ?_⟩
  | refine ⟨[], rfl, Nat.le_of_ble_eq_true rfl, ?_⟩)

local macro_rules | `(tactic| walk_at "k2") => `(tactic| first
  | with_reducible refine ex_b ?_
  | refine both_t rfl ?_
  | refine both_f rfl ?_
  | refine both_f2 rfl ?_
  | refine both_t2 rfl ?_
  | with_reducible refine cs_is_integer fun _ _ => ?_
  | with_reducible refine cs_is_whole fun _ _ => ?_
  | refine oa_len ?_
  | refine oa_lenL ?_
  | refine o2_ixT rfl ?_
  | refine o2_ixL rfl ?_
  | refine o2_in rfl rfl ?_
  | refine o2_eqI ?_
  | refine o2_neI ?_
  | refine o2_eqS (by decide +kernel) (by decide +kernel) ?_
  | refine o2_neS (by decide +kernel) (by decide +kernel) ?_
  | refine o2_eqD (Deed.shp _).ok rfl ?_
  | refine both_t (by decide +kernel) ?_
  | refine both_f (by decide +kernel) ?_
  | refine both_f2 (by decide +kernel) ?_
  | refine both_t2 (by decide +kernel) ?_
  | with_reducible refine w_slT ?_
  | with_reducible refine wg_name ?_
  | with_reducible refine wgs_cons ?_
  | with_reducible refine wgs_nil ?_
  | refine o2_ii ?_
  | refine o2_ib ?_
  | refine o2_isN ?_
  | refine o2_notN ?_
  | refine wg_tup rfl ?_
  | refine wgs_cons ?_
  | refine wgs_nil ?_
  | with_reducible refine w_slL ?_
  | with_reducible refine wo_no ?_
  | with_reducible refine wo_some ?_
  | with_reducible refine ⟨_, rfl, ?_⟩)
local macro_rules | `(tactic| walk_at "same") => `(tactic| ((repeat (first | exact Same.refl _ | assumption | refine Same.trans ?_ (by assumption)))))
def S_stepped : Spc where
  ι := Rul × Std × Int × Option Int
  args i := [.d (encR i.1), .d i.2.1.enc, .d (.int i.2.2.1), .d (encO i.2.2.2)]
  pre i _ := i.1.ok ∧ i.2.1.ok i.1
  mod _ := []
  post i x _ := x = .d (.tuple [.int (stepped i.1 i.2.1 i.2.2.1 i.2.2.2).1, .int (stepped i.1 i.2.1 i.2.2.1 i.2.2.2).2.2.1, (stepped i.1 i.2.1 i.2.2.1 i.2.2.2).2.2.2.enc])
theorem modeAt {r : Rul} {s : Std} (hs : s.ok r) : atI (r.map Mod.enc) s.m = some (modeOf r s.m).enc := by
  obtain ⟨_, h⟩ := modeOf_mem hs.1 hs.2
  have e : s.m = ((s.m.toNat : Nat) : Int) := by have := hs.1; omega
  rw [e]
  refine atI_nat ?_
  rw [List.getElem?_map, h]
  have e2 : (s.m.toNat : Int) = s.m := by have := hs.1; omega
  rw [e2]
  rfl
theorem cs_entry {m : Mod} {e k : Int} (h : m.ok k) {H : Hp} {R : PX} (q : ∀ H2, Same H H2 → R (.d (entryAt m e).enc) H2) : CallS S_entry_at [.d m.enc, .d (.int e)] H Eno R := CallS.pure (S := S_entry_at) (m, e, k) rfl (fun _ _ => h) rfl fun x H2 s po => by
  obtain rfl : x = .d (entryAt m e).enc := po
  exact q H2 s
section
variable {P : Program} {w : World} {K : PySem.W.Frag} {mg : Str → Option Value} {base : Heap} {f : Addr} {fd : FuncData} (G : GF mg)
include G
omit G in
theorem sc_stepped : FnScope ["rule", "stand", "drift", "error", "mode", "missed", "difference", "amid", "deed", "later", "gone"] ["rule", "stand", "drift", "error"] (defScope (top 44)) := ⟨rfl, rfl, rfl, by decide +kernel, rfl, by decide +kernel, by decide +kernel⟩
theorem ok_stepped (D_taken_by : DefOk P w K mg base 1 "taken_by" ["deed", "estimate"] S_taken_by) (D_entry_at : DefOk P w K mg base 1 "entry_at" ["mode", "estimate"] S_entry_at) (F : FnP K "stepped" "stepped" (top 44) [] f fd) : FnOk P w K mg base (L2.CX P w) 2 f fd ["rule", "stand", "drift", "error"] (sp S_stepped) := by
  have sc := sc_stepped
  refine ok_pure F sc (fun _ => rfl) fun cdv A outer s H E hr => ⟨_, pss_cons (ps_asg (pe_var (i := 1) rfl (.inl rfl)) (pg_tup rfl (pgs_cons (pg_name (i := 4) sc.nd rfl (.inl rfl)) (pgs_cons (pg_name (i := 5) sc.nd rfl (.inl rfl)) (pgs_cons (pg_name (i := 6) sc.nd rfl (.inl rfl)) (pgs_nil)))))) (pss_cons (ps_set (i := 7) sc.nd rfl (.inl rfl) (pe_op op_add (pe_var (i := 6) rfl (.inl rfl)) (pe_var (i := 2) rfl (.inl rfl)))) (pss_cons (ps_if (pt_cmpR op_isN (pe_var (i := 3) rfl (.inl rfl)) (pe_non) (nomark _)) (pss_cons (ps_asg (pe_ix ix_seq (pe_ix ix_seq (pe_var (i := 0) rfl (.inl rfl)) (pe_var (i := 4) rfl (.inl rfl)) (fun _ _ => rfl)) (pe_int) (fun _ _ => rfl)) (pg_tup rfl (pgs_cons (pg_name (i := 8) sc.nd rfl (.inl rfl)) (pgs_cons (pg_name (i := 9) sc.nd rfl (.inl rfl)) (pgs_nil))))) (pss_cons (ps_set (i := 10) sc.nd rfl (.inl rfl) (pe_D D_taken_by (hr.mono (by decide)) rfl pass_none (pa_cons (pe_var (i := 8) rfl (.inl rfl)) (pa_cons (pe_int) (pa_nil))))) (pss_one (ps_ret (pe_tup (pa_cons (pe_var (i := 7) rfl (.inl rfl)) (pa_cons (pe_var (i := 10) rfl (.inl rfl)) (pa_cons (pe_tup (pa_cons (pe_var (i := 9) rfl (.inl rfl)) (pa_cons (pe_op op_add (pe_var (i := 5) rfl (.inl rfl)) (pe_int)) (pa_cons (pe_op op_sub (pe_var (i := 7) rfl (.inl rfl)) (pe_var (i := 10) rfl (.inl rfl))) (pa_nil))))) (pa_nil))))))))) (pss_nil)) (pss_cons (ps_asg (pe_D D_entry_at (hr.mono (by decide)) rfl pass_none (pa_cons (pe_ix ix_seq (pe_var (i := 0) rfl (.inl rfl)) (pe_var (i := 4) rfl (.inl rfl)) (fun _ _ => rfl)) (pa_cons (pe_op op_add (pe_var (i := 7) rfl (.inl rfl)) (pe_var (i := 3) rfl (.inl rfl))) (pa_nil)))) (pg_tup rfl (pgs_cons (pg_name (i := 8) sc.nd rfl (.inl rfl)) (pgs_cons (pg_name (i := 9) sc.nd rfl (.inl rfl)) (pgs_nil))))) (pss_cons (ps_set (i := 10) sc.nd rfl (.inl rfl) (pe_D D_taken_by (hr.mono (by decide)) rfl pass_none (pa_cons (pe_var (i := 8) rfl (.inl rfl)) (pa_cons (pe_op op_add (pe_var (i := 7) rfl (.inl rfl)) (pe_var (i := 3) rfl (.inl rfl))) (pa_nil))))) (pss_one (ps_ret (pe_tup (pa_cons (pe_var (i := 7) rfl (.inl rfl)) (pa_cons (pe_var (i := 10) rfl (.inl rfl)) (pa_cons (pe_tup (pa_cons (pe_var (i := 9) rfl (.inl rfl)) (pa_cons (pe_int) (pa_cons (pe_op op_sub (pe_var (i := 7) rfl (.inl rfl)) (pe_var (i := 10) rfl (.inl rfl))) (pa_nil))))) (pa_nil))))))))))), fun (i : Rul × Std × Int × Option Int) hp => ?_⟩
  obtain ⟨r, s, dr, er⟩ := i
  obtain ⟨hr', hs'⟩ := (show Rul.ok r ∧ s.ok r from hp)
  have mo := hr'.mod _ (modeOf_mem hs'.1 hs'.2).1
  cases er with
  | none =>
    repeat walk_at "k2"
    refine o2_ixT (modeAt hs') ?_
    repeat walk_at "k2"
    refine cs_taken mo.mis.1 fun H2 e2 => ?_
    repeat walk_at "k2"
    exact rt_pure (by walk_at "same") fun _ => rfl
  | some e =>
    repeat walk_at "k2"
    refine o2_ixT (modeAt hs') ?_
    repeat walk_at "k2"
    refine cs_entry mo fun H2 e2 => ?_
    repeat walk_at "k2"
    refine cs_taken (mo.ent _ (entryAt_mem mo _).1).1 fun H3 e3 => ?_
    repeat walk_at "k2"
    exact rt_pure (by walk_at "same") fun _ => rfl
end
end K2

set_option Elab.async false
set_option linter.all false
set_option maxRecDepth 100000
set_option maxHeartbeats 4000000
namespace K2
open PySem L2 PySem.Spec PyProof.Rows StX RZ
local macro_rules | `(tactic| walk_at "k2") => `(tactic| first
  | with_reducible refine w_var rfl ?_
  | with_reducible refine w_int ?_
  | with_reducible refine w_bl ?_
  | with_reducible refine w_non ?_
  | with_reducible refine w_str ?_
  | with_reducible refine w_o ?_
  | with_reducible refine wa_cons ?_
  | with_reducible refine wa_nil ?_
  | with_reducible refine w_op ?_
  | with_reducible refine w_un ?_
  | with_reducible refine w_cb ?_
  | with_reducible refine w_call0 ?_
  | with_reducible refine w_chain ?_
  | with_reducible refine w_tup ?_
  | with_reducible refine w_lst ?_
  | with_reducible refine w_andV ?_
  | with_reducible refine w_orV ?_
  | with_reducible refine w_notV ?_
  | with_reducible refine w_if ?_
  | with_reducible refine wt_test ?_
  | with_reducible refine wt_B ?_
  | with_reducible refine wt_and ?_
  | with_reducible refine wt_or ?_
  | with_reducible refine wt_not ?_
  | with_reducible refine go_seq ?_
  | with_reducible refine go_ret ?_
  | with_reducible refine go_retN ?_
  | with_reducible refine go_set ?_
  | with_reducible refine go_par ?_
  | with_reducible refine go_par3 ?_
  | with_reducible refine go_asg ?_
  | with_reducible refine go_next ?_
  | with_reducible refine go_if ?_
  | with_reducible refine o2_ii ?_
  | with_reducible refine o2_ib ?_
  | with_reducible refine o1_i ?_
  | with_reducible refine o2_isN ?_
  | with_reducible refine o2_notN ?_
  | with_reducible refine oa_isiI ?_
  | with_reducible refine oa_isiB ?_
  | with_reducible refine oa_isiT ?_
  | with_reducible refine oa_isiS ?_
  | with_reducible refine oa_abs ?_
  | with_reducible refine oa_max ?_
  | with_reducible refine oa_min ?_
  | with_reducible refine oa_len ?_
  | with_reducible refine oa_lenL ?_
  | with_reducible refine oa_intB ?_
  | refine ⟨[_, _], rfl, Nat.le_of_ble_eq_true rfl, ?_⟩
  | refine ⟨[_, _, _], rfl, Nat.le_of_ble_eq_true rfl, ?_⟩
  | refine ⟨[_], rfl, Nat.le_of_ble_eq_true rfl, ?_⟩
  | refine ⟨[], rfl, Nat.le_of_ble_eq_true rfl, ?_⟩)

local macro_rules | `(tactic| walk_at "k2") => `(tactic| first
  | with_reducible refine ex_b ?_
  | refine both_t rfl ?_
  | refine both_f rfl ?_
  | refine both_f2 rfl ?_
  | refine both_t2 rfl ?_
  | with_reducible refine cs_is_integer fun _ _ => ?_
  | with_reducible refine cs_is_whole fun _ _ => ?_
  | refine oa_len ?_
  | refine oa_lenL ?_
  | refine o2_ixT rfl ?_
  | refine o2_ixL rfl ?_
  | refine o2_in rfl rfl ?_
  | refine o2_eqI ?_
  | refine o2_neI ?_
  | refine o2_eqS (by decide +kernel) (by decide +kernel) ?_
  | refine o2_neS (by decide +kernel) (by decide +kernel) ?_
  | refine o2_eqD (Deed.shp _).ok rfl ?_
  | refine both_t (by decide +kernel) ?_
  | refine both_f (by decide +kernel) ?_
  | refine both_f2 (by decide +kernel) ?_
  | refine both_t2 (by decide +kernel) ?_
  | with_reducible refine w_slT ?_
  | with_reducible refine wg_name ?_
  | with_reducible refine wgs_cons ?_
  | with_reducible refine wgs_nil ?_
  | refine o2_ii ?_
  | refine o2_ib ?_
  | refine o2_isN ?_
  | refine o2_notN ?_
  | refine wg_tup rfl ?_
  | refine wgs_cons ?_
  | refine wgs_nil ?_
  | with_reducible refine w_slL ?_
  | with_reducible refine wo_no ?_
  | with_reducible refine wo_some ?_
  | with_reducible refine ⟨_, rfl, ?_⟩)
local macro_rules | `(tactic| walk_at "same") => `(tactic| ((repeat (first | exact Same.refl _ | assumption | refine Same.trans ?_ (by assumption)))))
def encN : Option Nat → PyData
  | none => .none
  | some n => .int (n : Nat)
def encG (g : Option Nat × List Int × Std) : PyData := .tuple [encN g.1, .list (g.2.1.map .int), g.2.2.enc]
def S_gone_through : Spc where
  ι := Wld × Rul × Std × List Rd2
  args i := [.d i.1.enc, .d (encR i.2.1), .d i.2.2.1.enc, .d (encRs i.2.2.2)]
  pre i _ := i.2.1.ok ∧ i.2.2.1.ok i.2.1 ∧ i.2.2.2.length ≤ 1000 ∧ ∀ q ∈ i.2.2.2, noL q.1 = true ∧ noL q.2 = true
  mod _ := []
  post i x _ := x = .d (encG (gone i.1 i.2.1 i.2.2.1 [i.2.2.1.df] 0 i.2.2.2))
theorem gone_app {w : Wld} {r : Rul} {bs : List Rd2} : ∀ {as : List Rd2} {s s' : Std} {fd fd' : List Int} {n : Nat}, gone w r s fd n as = (none, fd', s') → gone w r s fd n (as ++ bs) = gone w r s' fd' (n + as.length) bs
  | [], s, s', fd, fd', n, h => by
    simp only [gone, Prod.mk.injEq] at h
    obtain ⟨_, rfl, rfl⟩ := h
    rfl
  | q :: as, s, s', fd, fd', n, h => by
    simp only [gone, List.cons_append] at h ⊢
    split at h
    · rename_i hq
      rw [if_pos hq, gone_app h]
      congr 1
      simp; omega
    · cases h
theorem noL_W (w : Wld) : noL w.enc = true := rfl
theorem noL_S (w : Std) : noL w.enc = true := rfl
theorem noL_D (d : Deed) : noL d.enc = true := by cases d <;> rfl
theorem noL_E (d : Ent) : noL d.enc = true := by simp [Ent.enc, noL, noLs, noL_D]
theorem noL_M (m : Mod) : noL m.enc = true := by
  have a : noLs (m.cuts.map PyData.int) = true := noLs_map (fun _ => rfl) _
  have b : noLs (m.ents.map Ent.enc) = true := noLs_map noL_E _
  simp [Mod.enc, noL, noLs, a, b, noL_E]
theorem noL_R (r : Rul) : noL (encR r) = true := noLs_map noL_M _
theorem noLs_all : ∀ {l : List PyData}, (∀ x ∈ l, noL x = true) → noLs l = true
  | [], _ => rfl
  | x :: l, h => by simp [noLs, h x List.mem_cons_self, noLs_all fun y hy => h y (List.mem_cons_of_mem _ hy)]
theorem noL_Rs {l : List Rd2} (h : ∀ q ∈ l, noL q.1 = true ∧ noL q.2 = true) : noL (encRs l) = true := noLs_all (all_map fun q hq => by simp [Rd2.enc, noL, noLs, h q hq])
theorem isRound_t {w : Wld} {ms : Int} {q : Rd2} (h : isRound w ms q = true) : ∃ i o, q = (.int i, encO o) ∧ ofI q.1 = i ∧ ofO q.2 = o := by
  obtain ⟨a, b⟩ := q
  simp only [isRound, Bool.and_eq_true] at h
  obtain ⟨h1, h2⟩ := h
  cases a with
  | int i =>
    cases b with
    | none => exact ⟨i, none, rfl, rfl, rfl⟩
    | int j => exact ⟨i, some j, rfl, rfl, rfl⟩
    | _ => simp [isWhole] at h2
  | _ => simp [isWhole] at h1
theorem cs_round {w : Wld} {ms : Int} {q : Rd2} {H : Hp} {R : PX} (k : ∀ H2, Same H H2 → R (.d (.bool (isRound w ms q))) H2) : CallS S_is_round [.d w.enc, .d (.int ms), .d q.enc] H Eno R := CallS.pure (S := S_is_round) (w, ms, q) rfl (fun _ _ => trivial) rfl fun x H2 s po => by
  obtain rfl : x = .d (.bool (isRound w ms q)) := po
  exact k H2 s
theorem cs_stepped {r : Rul} {s : Std} {i : Int} {o : Option Int} (hr : r.ok) (hs : s.ok r) {H : Hp} {R : PX} (k : ∀ H2, Same H H2 → R (.d (.tuple [.int (stepped r s i o).1, .int (stepped r s i o).2.2.1, (stepped r s i o).2.2.2.enc])) H2) : CallS S_stepped [.d (encR r), .d s.enc, .d (.int i), .d (encO o)] H Eno R := CallS.pure (S := S_stepped) (r, s, i, o) rfl (fun _ _ => ⟨hr, hs⟩) rfl fun x H2 e po => by
  obtain rfl := po
  exact k H2 e
section
variable {P : Program} {w : World} {K : PySem.W.Frag} {mg : Str → Option Value} {base : Heap} {f : Addr} {fd : FuncData} (G : GF mg)
include G
omit G in
theorem sc_gone_through : FnScope ["world", "rule", "begin", "rounds", "stand", "found", "number", "one", "amid", "gone"] ["world", "rule", "begin", "rounds"] (defScope (top 45)) := ⟨rfl, rfl, rfl, by decide +kernel, rfl, by decide +kernel, by decide +kernel⟩
theorem ok_gone_through (D_is_round : DefOk P w K mg base 3 "is_round" ["world", "missed", "thing"] S_is_round) (D_stepped : DefOk P w K mg base 2 "stepped" ["rule", "stand", "drift", "error"] S_stepped) (F : FnP K "gone_through" "gone_through" (top 45) [] f fd) : FnOk P w K mg base (L2.CX P w) 4 f fd ["world", "rule", "begin", "rounds"] (sp S_gone_through) := by
  have sc := sc_gone_through
  refine ok_pure F sc (fun _ => rfl) fun cdv A outer s H E hr => ⟨_, pss_cons (ps_par (i := 4) (j := 5) rfl sc.nd rfl rfl (by decide) rfl rfl (pa_cons (pe_var (i := 2) rfl (.inl rfl)) (pa_cons (pe_lst (pa_cons (pe_ix ix_seq (pe_var (i := 2) rfl (.inl rfl)) (pe_int) (fun _ _ => rfl)) (pa_nil))) (pa_nil))) (by rfl)) (pss_cons (ps_for PassesOwn.never rfl (pi_enumT rfl (G.gfree "enumerate" (by decide +kernel)) (pa_cons (pe_var (i := 3) rfl (.inl rfl)) (pa_nil))) (pg_tup rfl (pgs_cons (pg_name (i := 6) sc.nd rfl (.inl rfl)) (pgs_cons (pg_name (i := 7) sc.nd rfl (.inl rfl)) (pgs_nil)))) (pss_cons (ps_if (pt_not (pt_val (pe_D D_is_round (hr.mono (by decide)) rfl pass_none (pa_cons (pe_var (i := 0) rfl (.inl rfl)) (pa_cons (pe_ix ix_seq (pe_var (i := 4) rfl (.inl rfl)) (pe_int) (fun _ _ => rfl)) (pa_cons (pe_var (i := 7) rfl (.inl rfl)) (pa_nil))))))) (pss_one (ps_ret (pe_tup (pa_cons (pe_var (i := 6) rfl (.inl rfl)) (pa_cons (pe_var (i := 5) rfl (.inl rfl)) (pa_cons (pe_var (i := 4) rfl (.inl rfl)) (pa_nil))))))) (pss_nil)) (pss_cons (ps_asg (pe_D D_stepped (hr.mono (by decide)) rfl pass_none (pa_cons (pe_var (i := 1) rfl (.inl rfl)) (pa_cons (pe_var (i := 4) rfl (.inl rfl)) (pa_cons (pe_ix ix_seq (pe_var (i := 7) rfl (.inl rfl)) (pe_int) (fun _ _ => rfl)) (pa_cons (pe_ix ix_seq (pe_var (i := 7) rfl (.inl rfl)) (pe_int) (fun _ _ => rfl)) (pa_nil)))))) (pg_tup rfl (pgs_cons (pg_name (i := 8) sc.nd rfl (.inl rfl)) (pgs_cons (pg_name (i := 9) sc.nd rfl (.inl rfl)) (pgs_cons (pg_name (i := 4) sc.nd rfl (.inl rfl)) (pgs_nil)))))) (pss_one (ps_expr (pe_bm PySem.F.plainAttrs_list PySem.F.slot_list_extend PySem.F.type_list_extend mt_extend (pe_var (i := 5) rfl (.inl rfl)) (pa_cons (pe_lst (pa_cons (pe_var (i := 8) rfl (.inl rfl)) (pa_cons (pe_ix ix_seq (pe_var (i := 4) rfl (.inl rfl)) (pe_int) (fun _ _ => rfl)) (pa_nil)))) (pa_nil)))))))) (pss_one (ps_ret (pe_tup (pa_cons (pe_non) (pa_cons (pe_var (i := 5) rfl (.inl rfl)) (pa_cons (pe_var (i := 4) rfl (.inl rfl)) (pa_nil)))))))), fun (i : Wld × Rul × Std × List Rd2) hp => ?_⟩
  obtain ⟨wd, r, s, rs⟩ := i
  obtain ⟨hr', hs', hl, hn⟩ := (show Rul.ok r ∧ s.ok r ∧ rs.length ≤ 1000 ∧ ∀ q ∈ rs, noL q.1 = true ∧ noL q.2 = true from hp)
  have nL : noLs (rs.map Rd2.enc) = true := noL_Rs hn
  refine go_seq (go_par (wa_cons (w_var rfl (wa_cons (w_lstO ?_)))))
  repeat walk_at "k2"
  refine ⟨Nat.le_of_ble_eq_true rfl, fun l vs H2 e2 hl2 hd2 hn2 => wa_nil ⟨_, _, rfl, ?_⟩⟩
  have ev : vs = [V.int s.df] := by
    cases hd2 with
    | cons a b =>
      cases b
      cases a
      rfl
  subst ev
  refine go_seq (go_forE ?_)
  repeat walk_at "k2"
  refine ⟨fun j ρ H3 => Same H H3 ∧ ∃ fd st a b c d, gone wd r s [s.df] 0 (rs.take j) = (none, fd, st) ∧ st.ok r ∧ H3 l = some (.lst (fd.map .int)) ∧ fd.length ≤ 1 + 2 * j ∧ ρ = [some (.d wd.enc), some (.d (encR r)), some (.d s.enc), some (.d (encRs rs)), some (.d st.enc), some (.o (.ref l)), a, b, c, d],
    ⟨e2, [s.df], s, none, none, none, none, rfl, hs', hl2, by simp, rfl⟩, fun Γ' hΓ j d ρ2 H3 hd hJ => ?_, fun ρ2 H3 hJ => ?_⟩
  · obtain ⟨e3, fd, st, a, b, c, d', hg, hst, hl3, hlen, rfl⟩ := hJ
    rw [List.getElem?_map] at hd
    obtain ⟨q, hq, rfl⟩ := Option.map_eq_some_iff.mp hd
    have hjl : j < rs.length := (List.getElem?_eq_some_iff.mp hq).1
    have split : rs = rs.take j ++ q :: rs.drop (j + 1) := by
      rw [← (List.getElem?_eq_some_iff.mp hq).2, List.getElem_cons_drop, List.take_append_drop]
    have full : gone wd r s [s.df] 0 rs = gone wd r st fd (0 + (rs.take j).length) (q :: rs.drop (j + 1)) := by
      conv => lhs; rw [split]
      exact gone_app hg
    have tl : (rs.take j).length = j := by rw [List.length_take]; omega
    repeat walk_at "k2"
    refine cs_round fun H4 e4 => ?_
    repeat walk_at "k2"
    refine ⟨fun hb => ?_, fun hb => ?_⟩
    · have hb' : isRound wd st.ms q = false := by simpa using hb
      refine go_ret (w_tup (wa_cons (w_var rfl (wa_cons (w_varL rfl (e4 _ _ hl3) (DqAll.ofInts fd) ?_)))))
      repeat walk_at "k2"
      refine rt_pure (by walk_at "same") fun _ => ?_
      show _ = Dx.d (encG (gone wd r s [s.df] 0 rs))
      rw [full, gone, if_neg (by rw [hb']; simp), tl, Nat.zero_add]
      rfl
    · have hb' : isRound wd st.ms q = true := by simpa using hb
      obtain ⟨dr, o, rfl, h1, h2⟩ := isRound_t hb'
      repeat walk_at "k2"
      refine cs_stepped hr' hst fun H5 e5 => ?_
      repeat walk_at "k2"
      refine go_extend ?_
      repeat walk_at "k2"
      have hl5 := (e4.trans e5) _ _ hl3
      refine ⟨l, _, rfl, hl5, ?_⟩
      repeat walk_at "k2"
      refine ⟨[_, _], rfl, hl5, ?_, by rw [List.length_map]; simp; omega, ?_⟩
      · have hg' := hΓ nL rfl
        unfold noLr
        rw [hg']
        have q1 : noL (encRs rs) = true := nL
        simp [List.set, noLx, noL_W, noL_R, noL_S, q1, Rd2.enc, noL, noLs]
        cases o <;> rfl
      · have hs2 := (stepped_ok (dr := dr) (er := o) hr' hst).1
        refine ⟨fun b u hb => ?_, fd ++ [(stepped r st dr o).1, (stepped r st dr o).2.2.2.df], (stepped r st dr o).2.2.2, _, _, _, _, ?_, hs2, by rw [upd_same, List.map_append], by simp <;> omega, rfl⟩
        · rw [upd_ne (ne_of_none hb hn2)]
          exact (e3.trans (e4.trans e5)) b u hb
        · rw [take_more hq, gone_app hg, gone, if_pos hb', h1, h2]
          rfl
  · obtain ⟨e3, fd, st, a, b, c, d', hg, hst, hl3, hlen, rfl⟩ := hJ
    rw [List.length_map, List.take_length] at hg
    refine go_ret (w_tup (wa_cons (w_non (wa_cons (w_varL rfl hl3 (DqAll.ofInts fd) ?_)))))
    repeat walk_at "k2"
    refine rt_pure (by walk_at "same") fun _ => ?_
    show _ = Dx.d (encG (gone wd r s [s.df] 0 rs))
    rw [hg]
    rfl
end
end K2

set_option Elab.async false
set_option linter.all false
set_option maxRecDepth 100000
set_option maxHeartbeats 4000000
namespace K2
open PySem L2 PySem.Spec PyProof.Rows StX RZ
local macro_rules | `(tactic| walk_at "k2") => `(tactic| first
  | with_reducible refine w_var rfl ?_
  | with_reducible refine w_int ?_
  | with_reducible refine w_bl ?_
  | with_reducible refine w_non ?_
  | with_reducible refine w_str ?_
  | with_reducible refine w_o ?_
  | with_reducible refine wa_cons ?_
  | with_reducible refine wa_nil ?_
  | with_reducible refine w_op ?_
  | with_reducible refine w_un ?_
  | with_reducible refine w_cb ?_
  | with_reducible refine w_call0 ?_
  | with_reducible refine w_chain ?_
  | with_reducible refine w_tup ?_
  | with_reducible refine w_lst ?_
  | with_reducible refine w_andV ?_
  | with_reducible refine w_orV ?_
  | with_reducible refine w_notV ?_
  | with_reducible refine w_if ?_
  | with_reducible refine wt_test ?_
  | with_reducible refine wt_B ?_
  | with_reducible refine wt_and ?_
  | with_reducible refine wt_or ?_
  | with_reducible refine wt_not ?_
  | with_reducible refine go_seq ?_
  | with_reducible refine go_ret ?_
  | with_reducible refine go_retN ?_
  | with_reducible refine go_set ?_
  | with_reducible refine go_par ?_
  | with_reducible refine go_par3 ?_
  | with_reducible refine go_asg ?_
  | with_reducible refine go_next ?_
  | with_reducible refine go_if ?_
  | with_reducible refine o2_ii ?_
  | with_reducible refine o2_ib ?_
  | with_reducible refine o1_i ?_
  | with_reducible refine o2_isN ?_
  | with_reducible refine o2_notN ?_
  | with_reducible refine oa_isiI ?_
  | with_reducible refine oa_isiB ?_
  | with_reducible refine oa_isiT ?_
  | with_reducible refine oa_isiS ?_
  | with_reducible refine oa_abs ?_
  | with_reducible refine oa_max ?_
  | with_reducible refine oa_min ?_
  | with_reducible refine oa_len ?_
  | with_reducible refine oa_lenL ?_
  | with_reducible refine oa_intB ?_
  | refine ⟨[_, _], rfl, Nat.le_of_ble_eq_true rfl, ?_⟩
  | refine ⟨[_, _, _], rfl, Nat.le_of_ble_eq_true rfl, ?_⟩
  | refine ⟨[_, _, _, _], rfl, Nat.le_of_ble_eq_true rfl, ?_⟩
  | refine ⟨[_], rfl, Nat.le_of_ble_eq_true rfl, ?_⟩
  | refine ⟨[], rfl, Nat.le_of_ble_eq_true rfl, ?_⟩)

local macro_rules | `(tactic| walk_at "k2") => `(tactic| first
  | with_reducible refine ex_b ?_
  | refine both_t rfl ?_
  | refine both_f rfl ?_
  | refine both_f2 rfl ?_
  | refine both_t2 rfl ?_
  | with_reducible refine cs_is_integer fun _ _ => ?_
  | with_reducible refine cs_is_whole fun _ _ => ?_
  | refine oa_len ?_
  | refine oa_lenL ?_
  | refine o2_ixT rfl ?_
  | refine o2_ixL rfl ?_
  | refine o2_in rfl rfl ?_
  | refine o2_eqI ?_
  | refine o2_neI ?_
  | refine o2_eqS (by decide +kernel) (by decide +kernel) ?_
  | refine o2_neS (by decide +kernel) (by decide +kernel) ?_
  | refine o2_eqD (Deed.shp _).ok rfl ?_
  | refine both_t (by decide +kernel) ?_
  | refine both_f (by decide +kernel) ?_
  | refine both_f2 (by decide +kernel) ?_
  | refine both_t2 (by decide +kernel) ?_
  | with_reducible refine w_slT ?_
  | with_reducible refine wg_name ?_
  | with_reducible refine wgs_cons ?_
  | with_reducible refine wgs_nil ?_
  | refine o2_ii ?_
  | refine o2_ib ?_
  | refine o2_isN ?_
  | refine o2_notN ?_
  | refine wg_tup rfl ?_
  | refine wgs_cons ?_
  | refine wgs_nil ?_
  | with_reducible refine w_slL ?_
  | with_reducible refine wo_no ?_
  | with_reducible refine wo_some ?_
  | with_reducible refine ⟨_, rfl, ?_⟩
  | with_reducible refine ⟨_, _, rfl, ?_⟩
  | with_reducible refine ⟨_, _, _, rfl, ?_⟩)
local macro_rules | `(tactic| walk_at "same") => `(tactic| ((repeat (first | exact Same.refl _ | assumption | refine Same.trans ?_ (by assumption)))))
def S__law_taken : Spc where
  ι := Deed × Int
  args i := [.d i.1.enc, .d (.int i.2)]
  pre i _ := i.1.ok
  mod _ := []
  post i x _ := x = .d (.int (takenBy i.1 i.2))
def S__law_entry : Spc where
  ι := Mod × Int × Int
  args i := [.d i.1.enc, .d (.int i.2.1)]
  pre i _ := i.1.ok i.2.2
  mod _ := []
  post i x _ := x = .d (entryAt i.1 i.2.1).enc
def S__law_done : Spc where
  ι := Rul × Std × Int × Option Int
  args i := [.d (encR i.1), .d i.2.1.enc, .d (.tuple [.int i.2.2.1, encO i.2.2.2])]
  pre i _ := i.1.ok ∧ i.2.1.ok i.1
  mod _ := []
  post i x _ := x = .d (.tuple [.int (stepped i.1 i.2.1 i.2.2.1 i.2.2.2).1, (stepped i.1 i.2.1 i.2.2.1 i.2.2.2).2.1.enc, .int (stepped i.1 i.2.1 i.2.2.1 i.2.2.2).2.2.1, (stepped i.1 i.2.1 i.2.2.1 i.2.2.2).2.2.2.enc])
theorem lcs_taken {d : Deed} {e : Int} (h : d.ok) {H : Hp} {R : PX} (q : ∀ H2, Same H H2 → R (.d (.int (takenBy d e))) H2) : CallS S__law_taken [.d d.enc, .d (.int e)] H Eno R := CallS.pure (S := S__law_taken) (d, e) rfl (fun _ _ => h) rfl fun x H2 s po => by
  obtain rfl : x = .d (.int (takenBy d e)) := po
  exact q H2 s
theorem lcs_entry {m : Mod} {e k : Int} (h : m.ok k) {H : Hp} {R : PX} (q : ∀ H2, Same H H2 → R (.d (entryAt m e).enc) H2) : CallS S__law_entry [.d m.enc, .d (.int e)] H Eno R := CallS.pure (S := S__law_entry) (m, e, k) rfl (fun _ _ => h) rfl fun x H2 s po => by
  obtain rfl : x = .d (entryAt m e).enc := po
  exact q H2 s
theorem lcs_done {r : Rul} {s : Std} {i : Int} {o : Option Int} (hr : r.ok) (hs : s.ok r) {H : Hp} {R : PX} (k : ∀ H2, Same H H2 → R (.d (.tuple [.int (stepped r s i o).1, (stepped r s i o).2.1.enc, .int (stepped r s i o).2.2.1, (stepped r s i o).2.2.2.enc])) H2) : CallS S__law_done [.d (encR r), .d s.enc, .d (.tuple [.int i, encO o])] H Eno R := CallS.pure (S := S__law_done) (r, s, i, o) rfl (fun _ _ => ⟨hr, hs⟩) rfl fun x H2 e po => by
  obtain rfl := po
  exact k H2 e
theorem sum_below (e : Int) : ∀ l : List Int, (l.map fun c => if decide (c ≤ e) = true then (1 : Int) else 0).sum = ((below l e).length : Nat)
  | [] => rfl
  | c :: l => by
    have ih := sum_below e l
    rw [List.map_cons, List.sum_cons, ih]
    unfold below
    by_cases h : c ≤ e
    · rw [List.filter_cons_of_pos (by simpa using h), if_pos (by simpa using h)]
      simp
      omega
    · rw [List.filter_cons_of_neg (by simpa using h), if_neg (by simpa using h)]
      simp
section
variable {P : Program} {w : World} {K : PySem.W.Frag} {mg : Str → Option Value} {base : Heap} {f : Addr} {fd : FuncData} (G : GF mg)
include G
omit G in
theorem sc__law_taken : FnScope ["_law_deed_here", "_law_estimate", "_law_part"] ["_law_deed_here", "_law_estimate"] (defScope (top 58)) := ⟨rfl, rfl, rfl, by decide +kernel, rfl, by decide +kernel, by decide +kernel⟩
theorem ok__law_taken  (F : FnP K "_law_taken" "_law_taken" (top 58) [] f fd) : FnOk P w K mg base (L2.CX P w) 1 f fd ["_law_deed_here", "_law_estimate"] (sp S__law_taken) := by
  have sc := sc__law_taken
  refine ok_pure F sc (fun _ => rfl) fun cdv A outer s H E hr => ⟨_, pss_cons (ps_if (pt_cmpR (op_eqD hr.units) (pe_ix ix_seq (pe_var (i := 0) rfl (.inl rfl)) (pe_int) (fun _ _ => rfl)) (pe_str) (nomark _)) (pss_one (ps_ret (pe_int))) (pss_nil)) (pss_cons (ps_if (pt_cmpR (op_eqD hr.units) (pe_ix ix_seq (pe_var (i := 0) rfl (.inl rfl)) (pe_int) (fun _ _ => rfl)) (pe_str) (nomark _)) (pss_one (ps_ret (pe_ix ix_seq (pe_var (i := 0) rfl (.inl rfl)) (pe_int) (fun _ _ => rfl)))) (pss_nil)) (pss_cons (ps_if (pt_cmpR (op_eqD hr.units) (pe_ix ix_seq (pe_var (i := 0) rfl (.inl rfl)) (pe_int) (fun _ _ => rfl)) (pe_str) (nomark _)) (pss_one (ps_ret (pe_callB (call_max2 rfl) rfl (G.gfree "max" (by decide +kernel)) (by decide +kernel) (pa_cons (pe_op op_sub (pe_int) (pe_ix ix_seq (pe_var (i := 0) rfl (.inl rfl)) (pe_int) (fun _ _ => rfl))) (pa_cons (pe_callB (call_min2 rfl) rfl (G.gfree "min" (by decide +kernel)) (by decide +kernel) (pa_cons (pe_ix ix_seq (pe_var (i := 0) rfl (.inl rfl)) (pe_int) (fun _ _ => rfl)) (pa_cons (pe_var (i := 1) rfl (.inl rfl)) (pa_nil)))) (pa_nil)))))) (pss_nil)) (pss_cons (ps_set (i := 2) sc.nd rfl (.inl rfl) (pe_op op_fdiv (pe_op op_mul (pe_ix ix_seq (pe_var (i := 0) rfl (.inl rfl)) (pe_int) (fun _ _ => rfl)) (pe_callB call_abs rfl (G.gfree "abs" (by decide +kernel)) (by decide +kernel) (pa_cons (pe_var (i := 1) rfl (.inl rfl)) (pa_nil)))) (pe_ix ix_seq (pe_var (i := 0) rfl (.inl rfl)) (pe_int) (fun _ _ => rfl)))) (pss_one (ps_ret (pe_ifExp (pt_cmpR op_gt (pe_var (i := 1) rfl (.inl rfl)) (pe_int) (nomark _)) (pe_var (i := 2) rfl (.inl rfl)) (pe_op op_sub (pe_int) (pe_var (i := 2) rfl (.inl rfl))))))))), fun (i : Deed × Int) hp => ?_⟩
  obtain ⟨d, e⟩ := i
  cases d with
  | hold =>
    repeat walk_at "k2"
    exact rt_pure (by walk_at "same") fun _ => rfl
  | shift n =>
    repeat walk_at "k2"
    exact rt_pure (by walk_at "same") fun _ => rfl
  | run n =>
    repeat walk_at "k2"
    exact rt_pure (by walk_at "same") fun _ => rfl
  | jump a b =>
    obtain ⟨h1, h2, h3, h4⟩ := (show 1 ≤ b ∧ b ≤ 60 ∧ 0 ≤ a ∧ a ≤ b from hp)
    repeat walk_at "k2"
    refine o2_iC (.inl ⟨by omega, by omega⟩) ?_
    repeat walk_at "k2"
    refine o2_iC ⟨by omega, by omega⟩ ?_
    repeat walk_at "k2"
    refine ⟨fun hb => ?_, fun hb => ?_⟩
    · have hb' : 0 < e := of_decide_eq_true hb
      repeat walk_at "k2"
      refine rt_pure (by walk_at "same") fun _ => ?_
      show _ = Dx.d (.int (takenBy (.jump a b) e))
      rw [takenBy, if_pos (show 0 ≤ e by omega)]
    · have hb' : ¬ 0 < e := of_decide_eq_false hb
      repeat walk_at "k2"
      refine rt_pure (by walk_at "same") fun _ => ?_
      show Dx.d (.int (0 - a * (if e < 0 then -e else e) / b)) = Dx.d (.int (takenBy (.jump a b) e))
      rw [takenBy]
      by_cases h0 : 0 ≤ e
      · have e0 : e = 0 := by omega
        subst e0
        simp
      · rw [if_neg h0]
omit G in
theorem sc__law_entry : FnScope ["_law_mode_here", "_law_estimate", "_law_cut"] ["_law_mode_here", "_law_estimate"] (defScope (top 59)) := ⟨rfl, rfl, rfl, by decide +kernel, rfl, by decide +kernel, by decide +kernel⟩
theorem ok__law_entry  (F : FnP K "_law_entry" "_law_entry" (top 59) [] f fd) : FnOk P w K mg base (L2.CX P w) 1 f fd ["_law_mode_here", "_law_estimate"] (sp S__law_entry) := by
  have sc := sc__law_entry
  refine ok_pure F sc (fun _ => rfl) fun cdv A outer s H E hr => ⟨_, pss_one (ps_ret (pe_ix ix_seq (pe_ix ix_seq (pe_var (i := 0) rfl (.inl rfl)) (pe_int) (fun _ _ => rfl)) (pe_callB (cr_sum rfl) rfl (G.gfree "sum" (by decide +kernel)) (by decide +kernel) (pa_cons (pe_lc (own := [("_law_cut", 2)]) (g := gName 2) (tt := tYes) rfl sc.nd (pi_tup (pe_ix ix_seq (pe_var (i := 0) rfl (.inl rfl)) (pe_int) (fun _ _ => rfl))) (blkOk_by (own := [("_law_cut", 2)]) (N := ["_law_mode_here", "_law_estimate", "_law_cut"]) (sc := defScope (top 59)) (by decide +kernel)) (fun _ _ _ _ _ => pg_name (i := 2) sc.nd rfl (.inl rfl)) (fun _ _ _ _ _ => pts_nil) (fun _ _ _ _ _ => pe_callTy call_int1 rfl (G.gfree "int" (by decide +kernel)) (by decide +kernel) (pa_cons (pe_cmpR op_le (pe_var (i := 2) rfl (.inl rfl)) (pe_var (i := 1) rfl (.inr (.inl rfl))) (nomark _)) (pa_nil)))) (pa_nil))) (fun _ _ => rfl))), fun (i : Mod × Int × Int) hp => ?_⟩
  obtain ⟨m, e, k⟩ := i
  have hp : m.ok k := hp
  repeat walk_at "k2"
  refine w_lcTm (f := fun d => .int (if decide (ofI d ≤ e) = true then 1 else 0)) ?_
  repeat walk_at "k2"
  refine ⟨by have := hp.few; simp; omega, fun d hd => ⟨rfl, fun H2 e2 => tw1 ?_⟩, fun H2 e2 => ?_⟩
  · obtain ⟨c, hc, rfl⟩ := List.mem_map.mp hd
    repeat walk_at "k2"
    exact ⟨rfl, by walk_at "same"⟩
  have ef : (m.cuts.map PyData.int).map (fun d => PyData.int (if decide (ofI d ≤ e) = true then 1 else 0)) = (m.cuts.map fun c => if decide (c ≤ e) = true then (1 : Int) else 0).map PyData.int := by
    rw [List.map_map, List.map_map]
    rfl
  rw [ef]
  repeat walk_at "k2"
  refine oa_sum ?_
  rw [sum_below]
  refine o2_ixT (d := (entryAt m e).enc) (atI_nat ?_) ?_
  · rw [List.getElem?_map, (entryAt_mem hp e).2]
    rfl
  · exact rt_pure (by walk_at "same") fun _ => rfl
omit G in
theorem sc__law_done : FnScope ["_law_manner", "_law_stand", "_law_one", "_law_mode_here", "_law_amid", "_law_gone", "_law_deed_here", "_law_later"] ["_law_manner", "_law_stand", "_law_one"] (defScope (top 60)) := ⟨rfl, rfl, rfl, by decide +kernel, rfl, by decide +kernel, by decide +kernel⟩
theorem ok__law_done (D__law_taken : DefOk P w K mg base 1 "_law_taken" ["_law_deed_here", "_law_estimate"] S__law_taken) (D__law_entry : DefOk P w K mg base 1 "_law_entry" ["_law_mode_here", "_law_estimate"] S__law_entry) (F : FnP K "_law_done" "_law_done" (top 60) [] f fd) : FnOk P w K mg base (L2.CX P w) 2 f fd ["_law_manner", "_law_stand", "_law_one"] (sp S__law_done) := by
  have sc := sc__law_done
  refine ok_pure F sc (fun _ => rfl) fun cdv A outer s H E hr => ⟨_, pss_cons (ps_par (i := 3) (j := 4) rfl sc.nd rfl rfl (by decide) rfl rfl (pa_cons (pe_ix ix_seq (pe_var (i := 0) rfl (.inl rfl)) (pe_ix ix_seq (pe_var (i := 1) rfl (.inl rfl)) (pe_int) (fun _ _ => rfl)) (fun _ _ => rfl)) (pa_cons (pe_op op_add (pe_ix ix_seq (pe_var (i := 1) rfl (.inl rfl)) (pe_int) (fun _ _ => rfl)) (pe_ix ix_seq (pe_var (i := 2) rfl (.inl rfl)) (pe_int) (fun _ _ => rfl))) (pa_nil))) (by rfl)) (pss_cons (ps_if (pt_cmpR op_isN (pe_ix ix_seq (pe_var (i := 2) rfl (.inl rfl)) (pe_int) (fun _ _ => rfl)) (pe_non) (nomark _)) (pss_cons (ps_set (i := 5) sc.nd rfl (.inl rfl) (pe_D D__law_taken (hr.mono (by decide)) rfl pass_none (pa_cons (pe_ix ix_seq (pe_ix ix_seq (pe_var (i := 3) rfl (.inl rfl)) (pe_int) (fun _ _ => rfl)) (pe_int) (fun _ _ => rfl)) (pa_cons (pe_int) (pa_nil))))) (pss_one (ps_ret (pe_tup (pa_cons (pe_var (i := 4) rfl (.inl rfl)) (pa_cons (pe_ix ix_seq (pe_ix ix_seq (pe_var (i := 3) rfl (.inl rfl)) (pe_int) (fun _ _ => rfl)) (pe_int) (fun _ _ => rfl)) (pa_cons (pe_var (i := 5) rfl (.inl rfl)) (pa_cons (pe_tup (pa_cons (pe_ix ix_seq (pe_ix ix_seq (pe_var (i := 3) rfl (.inl rfl)) (pe_int) (fun _ _ => rfl)) (pe_int) (fun _ _ => rfl)) (pa_cons (pe_op op_add (pe_ix ix_seq (pe_var (i := 1) rfl (.inl rfl)) (pe_int) (fun _ _ => rfl)) (pe_int)) (pa_cons (pe_op op_sub (pe_var (i := 4) rfl (.inl rfl)) (pe_var (i := 5) rfl (.inl rfl))) (pa_nil))))) (pa_nil))))))))) (pss_nil)) (pss_cons (ps_asg (pe_D D__law_entry (hr.mono (by decide)) rfl pass_none (pa_cons (pe_var (i := 3) rfl (.inl rfl)) (pa_cons (pe_op op_add (pe_var (i := 4) rfl (.inl rfl)) (pe_ix ix_seq (pe_var (i := 2) rfl (.inl rfl)) (pe_int) (fun _ _ => rfl))) (pa_nil)))) (pg_tup rfl (pgs_cons (pg_name (i := 6) sc.nd rfl (.inl rfl)) (pgs_cons (pg_name (i := 7) sc.nd rfl (.inl rfl)) (pgs_nil))))) (pss_cons (ps_set (i := 5) sc.nd rfl (.inl rfl) (pe_D D__law_taken (hr.mono (by decide)) rfl pass_none (pa_cons (pe_var (i := 6) rfl (.inl rfl)) (pa_cons (pe_op op_add (pe_var (i := 4) rfl (.inl rfl)) (pe_ix ix_seq (pe_var (i := 2) rfl (.inl rfl)) (pe_int) (fun _ _ => rfl))) (pa_nil))))) (pss_one (ps_ret (pe_tup (pa_cons (pe_var (i := 4) rfl (.inl rfl)) (pa_cons (pe_var (i := 6) rfl (.inl rfl)) (pa_cons (pe_var (i := 5) rfl (.inl rfl)) (pa_cons (pe_tup (pa_cons (pe_var (i := 7) rfl (.inl rfl)) (pa_cons (pe_int) (pa_cons (pe_op op_sub (pe_var (i := 4) rfl (.inl rfl)) (pe_var (i := 5) rfl (.inl rfl))) (pa_nil))))) (pa_nil))))))))))), fun (i : Rul × Std × Int × Option Int) hp => ?_⟩
  obtain ⟨r, s, dr, er⟩ := i
  obtain ⟨hr', hs'⟩ := (show Rul.ok r ∧ s.ok r from hp)
  have mo := hr'.mod _ (modeOf_mem hs'.1 hs'.2).1
  cases er with
  | none =>
    repeat walk_at "k2"
    refine o2_ixT (modeAt hs') ?_
    repeat walk_at "k2"
    refine lcs_taken mo.mis.1 fun H2 e2 => ?_
    repeat walk_at "k2"
    exact rt_pure (by walk_at "same") fun _ => rfl
  | some e =>
    repeat walk_at "k2"
    refine o2_ixT (modeAt hs') ?_
    repeat walk_at "k2"
    refine lcs_entry mo fun H2 e2 => ?_
    repeat walk_at "k2"
    refine lcs_taken (mo.ent _ (entryAt_mem mo _).1).1 fun H3 e3 => ?_
    repeat walk_at "k2"
    exact rt_pure (by walk_at "same") fun _ => rfl
end
end K2

set_option Elab.async false
set_option linter.all false
set_option maxRecDepth 100000
set_option pp.deepTerms false
set_option pp.deepTerms.threshold 10
set_option maxHeartbeats 4000000
namespace K2
open PySem L2 PySem.Spec PyProof.Rows StX RZ
local macro_rules | `(tactic| walk_at "k2") => `(tactic| first
  | with_reducible refine w_var rfl ?_
  | with_reducible refine w_int ?_
  | with_reducible refine w_bl ?_
  | with_reducible refine w_non ?_
  | with_reducible refine w_str ?_
  | with_reducible refine w_o ?_
  | with_reducible refine wa_cons ?_
  | with_reducible refine wa_nil ?_
  | with_reducible refine w_op ?_
  | with_reducible refine w_un ?_
  | with_reducible refine w_cb ?_
  | with_reducible refine w_call0 ?_
  | with_reducible refine w_chain ?_
  | with_reducible refine w_tup ?_
  | with_reducible refine w_lst ?_
  | with_reducible refine w_andV ?_
  | with_reducible refine w_orV ?_
  | with_reducible refine w_notV ?_
  | with_reducible refine w_if ?_
  | with_reducible refine wt_test ?_
  | with_reducible refine wt_B ?_
  | with_reducible refine wt_and ?_
  | with_reducible refine wt_or ?_
  | with_reducible refine wt_not ?_
  | with_reducible refine go_seq ?_
  | with_reducible refine go_ret ?_
  | with_reducible refine go_retN ?_
  | with_reducible refine go_set ?_
  | with_reducible refine go_par ?_
  | with_reducible refine go_par3 ?_
  | with_reducible refine go_asg ?_
  | with_reducible refine go_next ?_
  | with_reducible refine go_if ?_
  | with_reducible refine o2_ii ?_
  | with_reducible refine o2_ib ?_
  | with_reducible refine o1_i ?_
  | with_reducible refine o2_isN ?_
  | with_reducible refine o2_notN ?_
  | with_reducible refine oa_isiI ?_
  | with_reducible refine oa_isiB ?_
  | with_reducible refine oa_isiT ?_
  | with_reducible refine oa_isiS ?_
  | with_reducible refine oa_abs ?_
  | with_reducible refine oa_max ?_
  | with_reducible refine oa_min ?_
  | with_reducible refine oa_len ?_
  | with_reducible refine oa_lenL ?_
  | with_reducible refine oa_intB ?_
  | refine ⟨[_, _], rfl, Nat.le_of_ble_eq_true rfl, ?_⟩
  | refine ⟨[_, _, _], rfl, Nat.le_of_ble_eq_true rfl, ?_⟩
  | refine ⟨[_, _, _, _], rfl, Nat.le_of_ble_eq_true rfl, ?_⟩
  | refine ⟨[_], rfl, Nat.le_of_ble_eq_true rfl, ?_⟩
  | refine ⟨[], rfl, Nat.le_of_ble_eq_true rfl, ?_⟩)

local macro_rules | `(tactic| walk_at "k2") => `(tactic| first
  | with_reducible refine ex_b ?_
  | refine both_t rfl ?_
  | refine both_f rfl ?_
  | refine both_f2 rfl ?_
  | refine both_t2 rfl ?_
  | with_reducible refine cs_is_integer fun _ _ => ?_
  | with_reducible refine cs_is_whole fun _ _ => ?_
  | refine oa_len ?_
  | refine oa_lenL ?_
  | refine o2_ixT rfl ?_
  | refine o2_ixL rfl ?_
  | refine o2_in rfl rfl ?_
  | refine o2_eqI ?_
  | refine o2_neI ?_
  | refine o2_eqS (by decide +kernel) (by decide +kernel) ?_
  | refine o2_neS (by decide +kernel) (by decide +kernel) ?_
  | refine o2_eqD (Deed.shp _).ok rfl ?_
  | refine both_t (by decide +kernel) ?_
  | refine both_f (by decide +kernel) ?_
  | refine both_f2 (by decide +kernel) ?_
  | refine both_t2 (by decide +kernel) ?_
  | with_reducible refine w_slT ?_
  | with_reducible refine wg_name ?_
  | with_reducible refine wgs_cons ?_
  | with_reducible refine wgs_nil ?_
  | refine o2_ii ?_
  | refine o2_ib ?_
  | refine o2_isN ?_
  | refine o2_notN ?_
  | refine wg_tup rfl ?_
  | refine wgs_cons ?_
  | refine wgs_nil ?_
  | with_reducible refine w_slL ?_
  | with_reducible refine wo_no ?_
  | with_reducible refine wo_some ?_
  | with_reducible refine ⟨_, _, rfl, rfl, ?_⟩
  | with_reducible refine ⟨_, rfl, ?_⟩
  | with_reducible refine ⟨_, _, rfl, ?_⟩
  | with_reducible refine ⟨_, _, _, rfl, ?_⟩)
local macro_rules | `(tactic| walk_at "same") => `(tactic| ((repeat (first | exact Same.refl _ | assumption | refine Same.trans ?_ (by assumption)))))

local macro_rules | `(tactic| walk_at "k3") => `(tactic| first
  | walk_at "k2"
  | refine both_t (by first | (simp; done) | (simp; omega)) ?_
  | refine both_f (by first | (simp; done) | (simp; omega)) ?_
  | refine both_f2 (by first | (simp; done) | (simp; omega)) ?_
  | refine both_t2 (by first | (simp; done) | (simp; omega)) ?_
  | refine go_next ?_
  | refine go_drop ?_)
def intsUp (a b : Int) : List Int := (List.range (b - a).toNat).map fun i => a + (i : Nat)
section
variable {Γ : List Gh} {ρ : Rho} {H : Hp} {R : PX} {te tl ta tb : TE} {tt : TT} {K : PySem.W.Frag} {g : TG} {vs : List Nat}
theorem dq_rgV (H : Hp) (a b : Int) : DqAll H (rgV a b) ((intsUp a b).map .int) := by
  have e : rgV a b = (intsUp a b).map V.int := by
    unfold rgV intsUp
    rw [List.map_map]
    rfl
  rw [e]
  exact DqAll.ofInts _
theorem w_listRg2 (h : W Γ ta ρ H fun x H1 => W Γ tb ρ H1 fun y H2 => ∃ i j, x = .d (.int i) ∧ y = .d (.int j) ∧ RgOk i j ∧ R (.d (.list ((intsUp i j).map .int))) H2) : W Γ (tLstRg (tRg2 ta tb)) ρ H R := fun σ H' e s Q q =>
  h σ H' e s _ fun x v H1 H1' k e1 f1 d1 => k σ H1' e1 (s.ft f1) _ fun y u H2 H2' k2 e2 f2 d2 => by
    obtain ⟨i, j, rfl, rfl, ok, k2⟩ := k2
    cases d1
    cases d2
    refine ⟨i, j, rfl, rfl, ok, fun p hp => ?_⟩
    have sm : Same H2' (upd H2' p (.lst (rgV i j))) := Same.new hp
    exact q _ _ H2 _ k2 (e2.trans sm) ((f1.trans f2).trans sm.ftq) (.lst upd_same (dq_rgV _ i j))
/-- [f(x) for x in l] -/
theorem w_lcLm (f : PyData → PyData) (h : W Γ tl ρ H fun x H1 => ∃ ds, x = .d (.list ds) ∧ ds.length ≤ 50000 ∧ (∀ d ∈ ds, noL (f d) = true ∧ ∀ H2, Same H1 H2 → TW Γ g vs (.d d) ρ H2 fun ρ3 H3 => W Γ te ρ3 H3 fun y H5 => y = .d (f d) ∧ Same H1 H5) ∧
    ∀ H2, Same H1 H2 → R (.d (.list (ds.map f))) H2) : W Γ (tLc (iList K tl) g tYes te vs) ρ H R := by
  refine w_lcL (h.imp fun x H1 k => ?_)
  obtain ⟨ds, rfl, hl, hs, hd⟩ := k
  refine ⟨ds, rfl, hl, fun i acc H2 => Same H1 H2 ∧ acc = (ds.take i).map f, ⟨Same.refl _, by simp⟩, fun i acc H2 D o n j => ⟨Same.offnew j.1 n, j.2⟩, fun i d acc H2 hi hla j => ?_, fun acc H2 hla j => ?_⟩
  · obtain ⟨hn, ht⟩ := hs d (List.mem_of_getElem? hi)
    intro v σ H' e s dd Q q
    refine ht H2 j.1 v σ H' e s dd Q fun ρ1 H3 σ1 H'' k => q ρ1 H3 σ1 H'' (wt_yes ⟨fun _ => k.imp fun y H5 z => ⟨f d, z.1, hn, z.2, ?_⟩, fun z => by cases z⟩)
    rw [take_more hi, List.map_append, ← j.2]
    rfl
  · have e : acc = ds.map f := by rw [j.2, List.take_length]
    rw [e]
    exact hd H2 j.1
end
/-- a round that can be done -/
abbrev Rnd := Int × Option Int
def Rnd.rd (q : Rnd) : Rd2 := (.int q.1, encO q.2)
def rde (q : Rnd) : PyData := .tuple [.int q.1, encO q.2]
def errsOf (w : Wld) (ms : Int) : List (Option Int) := (if ms < w.ls then [none] else []) ++ (intsUp (0 - w.e0) (w.e1 + 1)).map some
def roundsUp (w : Wld) (ms : Int) : Nat → List Rnd
  | 0 => []
  | n + 1 => roundsUp w ms n ++ (errsOf w ms).map fun o => (w.lo + (n : Nat), o)
def roundsOf (w : Wld) (ms : Int) : List Rnd := roundsUp w ms (w.hi + 1 - w.lo).toNat
theorem mem_intsUp {a b i : Int} : i ∈ intsUp a b ↔ a ≤ i ∧ i < b := by
  unfold intsUp
  simp only [List.mem_map, List.mem_range]
  constructor
  · rintro ⟨j, h1, rfl⟩
    omega
  · rintro ⟨h1, h2⟩
    exact ⟨(i - a).toNat, by omega, by omega⟩
theorem errs_len (w : Wld) (ms : Int) (h : w.ok) : (errsOf w ms).length ≤ 122 := by
  unfold errsOf intsUp
  have := h.a2
  have := h.b2
  have := h.a1
  have := h.b1
  split <;> simp <;> omega
theorem roundsUp_len (w : Wld) (ms : Int) (h : w.ok) : ∀ n, (roundsUp w ms n).length ≤ 122 * n
  | 0 => by simp [roundsUp]
  | n + 1 => by
    have := roundsUp_len w ms h n
    have := errs_len w ms h
    simp [roundsUp]
    omega
theorem roundsOf_len (w : Wld) (ms : Int) (h : w.ok) : (roundsOf w ms).length ≤ 20000 := by
  have := roundsUp_len w ms h (w.hi + 1 - w.lo).toNat
  have := h.l1
  have := h.l3
  unfold roundsOf
  omega
theorem errs_mem {w : Wld} {ms : Int} {o : Option Int} (h : o ∈ errsOf w ms) : (o = none ∧ ms < w.ls) ∨ ∃ e, o = some e ∧ 0 - w.e0 ≤ e ∧ e ≤ w.e1 := by
  unfold errsOf at h
  rcases List.mem_append.mp h with h | h
  · split at h
    · simp at h
      exact .inl ⟨h, by assumption⟩
    · simp at h
  · obtain ⟨e, he, rfl⟩ := List.mem_map.mp h
    have := mem_intsUp.mp he
    exact .inr ⟨e, rfl, by omega, by omega⟩
theorem isRound_rd {w : Wld} {ms : Int} {q : Rnd} (h1 : w.lo ≤ q.1) (h2 : q.1 ≤ w.hi) (h : (q.2 = none ∧ ms < w.ls) ∨ ∃ e, q.2 = some e ∧ 0 - w.e0 ≤ e ∧ e ≤ w.e1) : isRound w ms q.rd = true := by
  obtain ⟨d, o⟩ := q
  rcases h with ⟨rfl, h⟩ | ⟨e, rfl, h3, h4⟩
  · simp [isRound, Rnd.rd, encO, isWhole, h1, h2, h]
  · simp [isRound, Rnd.rd, encO, isWhole, h1, h2]
    omega
theorem roundsUp_mem {w : Wld} {ms : Int} {q : Rnd} : ∀ {n : Nat}, q ∈ roundsUp w ms n → w.lo ≤ q.1 ∧ q.1 < w.lo + n ∧ q.2 ∈ errsOf w ms
  | 0, h => by simp [roundsUp] at h
  | n + 1, h => by
    rcases List.mem_append.mp h with h | h
    · have := roundsUp_mem h
      exact ⟨this.1, by omega, this.2.2⟩
    · obtain ⟨o, ho, rfl⟩ := List.mem_map.mp h
      exact ⟨by show w.lo ≤ w.lo + (n : Nat); omega, by show w.lo + (n : Nat) < _; omega, ho⟩
theorem roundsOf_mem {w : Wld} {ms : Int} {q : Rnd} (h : q ∈ roundsOf w ms) : isRound w ms q.rd = true := by
  have := roundsUp_mem h
  exact isRound_rd this.1 (by omega) (errs_mem this.2.2)
theorem roundsOf_pos {w : Wld} {ms : Int} (h : w.ok) : 0 < (roundsOf w ms).length := by
  have e : (w.hi + 1 - w.lo).toNat = ((w.hi - w.lo).toNat) + 1 := by have := h.l2; omega
  unfold roundsOf
  rw [e]
  have := h.a1
  have := h.b1
  have : 0 < (errsOf w ms).length := by
    unfold errsOf intsUp
    simp
    omega
  simp [roundsUp]
  omega
theorem rd_enc (q : Rnd) : q.rd.enc = rde q := rfl
theorem noL_rde (q : Rnd) : noL (rde q) = true := by
  obtain ⟨i, o⟩ := q
  cases o <;> rfl
theorem rd_of (q : Rnd) : ofI q.rd.1 = q.1 ∧ ofO q.rd.2 = q.2 := by
  obtain ⟨i, o⟩ := q
  cases o <;> exact ⟨rfl, rfl⟩
def S__law_rounds : Spc where
  ι := Wld × Int
  args i := [.d i.1.enc, .d (.int i.2)]
  pre i _ := i.1.ok
  mod _ := []
  post i x _ := x = .d (.list ((roundsOf i.1 i.2).map rde))
def S__law_walked : Spc where
  ι := Wld × Rul × Int × List Rnd
  args i := [.d i.1.enc, .d (encR i.2.1), .d (.tuple [.int i.2.2.1, .tuple (i.2.2.2.map rde)])]
  pre i _ := i.1.ok ∧ i.2.1.ok ∧ i.2.2.2.length ≤ 1000 ∧ (gone i.1 i.2.1 ⟨0, 0, i.2.2.1⟩ [i.2.2.1] 0 (i.2.2.2.map Rnd.rd)).1 = none ∧ i.2.2.2.length ≤ 1000
  mod _ := []
  post i x _ := x = .d (.tuple [.list ((gone i.1 i.2.1 ⟨0, 0, i.2.2.1⟩ [i.2.2.1] 0 (i.2.2.2.map Rnd.rd)).2.1.map .int), (gone i.1 i.2.1 ⟨0, 0, i.2.2.1⟩ [i.2.2.1] 0 (i.2.2.2.map Rnd.rd)).2.2.enc])
section
variable {P : Program} {w : World} {K : PySem.W.Frag} {mg : Str → Option Value} {base : Heap} {f : Addr} {fd : FuncData} (G : GF mg)
include G
omit G in
theorem sc__law_rounds : FnScope ["_law_world_here", "_law_missed", "_law_errors", "_law_found", "_law_gone_on", "_law_fault_so"] ["_law_world_here", "_law_missed"] (defScope (top 61)) := ⟨rfl, rfl, rfl, by decide +kernel, rfl, by decide +kernel, by decide +kernel⟩
theorem ok__law_rounds  (F : FnP K "_law_rounds" "_law_rounds" (top 61) [] f fd) : FnOk P w K mg base (L2.CX P w) 1 f fd ["_law_world_here", "_law_missed"] (sp S__law_rounds) := by
  have sc := sc__law_rounds
  refine ok_pure F sc (fun _ => rfl) fun cdv A outer s H E hr => ⟨_, pss_cons (ps_set (i := 2) sc.nd rfl (.inl rfl) (pe_listRg rfl rfl (G.gfree "list" (by decide +kernel)) (prg_2 rfl (G.gfree "range" (by decide +kernel)) (pe_op op_sub (pe_int) (pe_ix ix_seq (pe_var (i := 0) rfl (.inl rfl)) (pe_int) (fun _ _ => rfl))) (pe_op op_add (pe_ix ix_seq (pe_var (i := 0) rfl (.inl rfl)) (pe_int) (fun _ _ => rfl)) (pe_int))))) (pss_cons (ps_if (pt_cmpR op_lt (pe_var (i := 1) rfl (.inl rfl)) (pe_ix ix_seq (pe_var (i := 0) rfl (.inl rfl)) (pe_int) (fun _ _ => rfl)) (nomark _)) (pss_one (ps_set (i := 2) sc.nd rfl (.inl rfl) (pe_op op_cat (pe_lst (pa_cons (pe_non) (pa_nil))) (pe_var (i := 2) rfl (.inl rfl))))) (pss_nil)) (pss_cons (ps_set (i := 3) sc.nd rfl (.inl rfl) (pe_lst (pa_nil))) (pss_cons (ps_for PassesOwn.never rfl (pi_range2 rfl (G.gfree "range" (by decide +kernel)) (pa_cons (pe_ix ix_seq (pe_var (i := 0) rfl (.inl rfl)) (pe_int) (fun _ _ => rfl)) (pa_cons (pe_op op_add (pe_ix ix_seq (pe_var (i := 0) rfl (.inl rfl)) (pe_int) (fun _ _ => rfl)) (pe_int)) (pa_nil)))) (pg_name (i := 4) sc.nd rfl (.inr rfl)) (pss_one (ps_set (i := 3) sc.nd rfl (.inl rfl) (pe_op op_cat (pe_var (i := 3) rfl (.inl rfl)) (pe_lc (own := [("_law_fault_so", 5)]) (g := gName 5) (tt := tYes) rfl sc.nd (pi_list (pe_var (i := 2) rfl (.inl rfl))) (blkOk_by (own := [("_law_fault_so", 5)]) (N := ["_law_world_here", "_law_missed", "_law_errors", "_law_found", "_law_gone_on", "_law_fault_so"]) (sc := defScope (top 61)) (by decide +kernel)) (fun _ _ _ _ _ => pg_name (i := 5) sc.nd rfl (.inl rfl)) (fun _ _ _ _ _ => pts_nil) (fun _ _ _ _ _ => pe_tup (pa_cons (pe_var (i := 4) rfl (.inr (.inl rfl))) (pa_cons (pe_var (i := 5) rfl (.inl rfl)) (pa_nil))))))))) (pss_one (ps_ret (pe_var (i := 3) rfl (.inl rfl))))))), fun (i : Wld × Int) hp => ?_⟩
  obtain ⟨wd, ms⟩ := i
  have hp : wd.ok := hp
  have b1 := hp.a1
  have b2 := hp.a2
  have b3 := hp.b1
  have b4 := hp.b2
  have b5 := hp.l1
  have b6 := hp.l2
  have b7 := hp.l3
  refine go_seq (go_set (w_listRg2 ?_))
  repeat walk_at "k2"
  refine ⟨(show RgOk (0 - wd.e0) (wd.e1 + 1) from ⟨by omega, by omega, by omega, by omega, by omega⟩), ?_⟩
  have el := errs_len wd ms hp
  repeat walk_at "k2"
  by_cases hb : ms < wd.ls
  · refine both_t (decide_eq_true hb) ?_
    have ee : PyData.none :: (intsUp (0 - wd.e0) (wd.e1 + 1)).map PyData.int = (errsOf wd ms).map encO := by
      unfold errsOf
      rw [if_pos hb, List.map_append, List.map_map]
      rfl
    repeat walk_at "k2"
    refine o2_catL (by have := congrArg List.length ee; simp at this ⊢; omega) ?_
    dsimp only
    rw [show [PyData.none] ++ (intsUp (0 - wd.e0) (wd.e1 + 1)).map PyData.int = _ from ee]
    repeat walk_at "k2"
    refine go_seq (go_forR2 ?_)
    repeat walk_at "k2"
    refine ⟨(show -(2 ^ 62) ≤ wd.lo ∧ wd.lo < 2 ^ 62 ∧ -(2 ^ 62) ≤ wd.hi + 1 ∧ wd.hi + 1 < 2 ^ 62 from ⟨by omega, by omega, by omega, by omega⟩), fun j ρ H3 => Same H H3 ∧ ∃ a b, ρ = [some (.d wd.enc), some (.d (.int ms)), some (.d (.list ((errsOf wd ms).map encO))), some (.d (.list ((roundsUp wd ms j).map rde))), a, b],
      ⟨by walk_at "same", none, none, rfl⟩, fun j ρ2 H3 hj hJ => ?_, fun ρ2 H3 hJ => ?_⟩
    · obtain ⟨e3, a, b, rfl⟩ := hJ
      have hj' : j < (wd.hi + 1 - wd.lo).toNat := hj
      repeat walk_at "k2"
      refine w_lcLm (f := fun d => .tuple [.int (wd.lo + (j : Nat)), d]) ?_
      repeat walk_at "k2"
      refine ⟨by simp; omega, fun d hd => ⟨?_, fun H2 e2 => tw1 ?_⟩, fun H2 e2 => ?_⟩
      · obtain ⟨o, ho, rfl⟩ := List.mem_map.mp hd
        cases o <;> rfl
      · repeat walk_at "k2"
        exact ⟨rfl, by walk_at "same"⟩
      · have rl := roundsUp_len wd ms hp j
        refine o2_catL (by simp; omega) ?_
        have er : (roundsUp wd ms j).map rde ++ ((errsOf wd ms).map encO).map (fun d => PyData.tuple [.int (wd.lo + (j : Nat)), d]) = (roundsUp wd ms (j + 1)).map rde := by
          rw [roundsUp, List.map_append, List.map_map, List.map_map]
          rfl
        rw [er]
        exact ⟨by walk_at "same", _, _, rfl⟩
    · obtain ⟨e3, a, b, rfl⟩ := hJ
      refine go_next (go_ret (w_var rfl ?_))
      refine rt_pure (by walk_at "same") fun _ => ?_
      exact rfl
  · refine both_f (decide_eq_false hb) ?_
    have ee : (intsUp (0 - wd.e0) (wd.e1 + 1)).map PyData.int = (errsOf wd ms).map encO := by
      unfold errsOf
      rw [if_neg hb, List.map_append, List.map_map]
      rfl
    rw [ee]
    repeat walk_at "k2"
    refine go_seq (go_forR2 ?_)
    repeat walk_at "k2"
    refine ⟨(show -(2 ^ 62) ≤ wd.lo ∧ wd.lo < 2 ^ 62 ∧ -(2 ^ 62) ≤ wd.hi + 1 ∧ wd.hi + 1 < 2 ^ 62 from ⟨by omega, by omega, by omega, by omega⟩), fun j ρ H3 => Same H H3 ∧ ∃ a b, ρ = [some (.d wd.enc), some (.d (.int ms)), some (.d (.list ((errsOf wd ms).map encO))), some (.d (.list ((roundsUp wd ms j).map rde))), a, b],
      ⟨by walk_at "same", none, none, rfl⟩, fun j ρ2 H3 hj hJ => ?_, fun ρ2 H3 hJ => ?_⟩
    · obtain ⟨e3, a, b, rfl⟩ := hJ
      have hj' : j < (wd.hi + 1 - wd.lo).toNat := hj
      repeat walk_at "k2"
      refine w_lcLm (f := fun d => .tuple [.int (wd.lo + (j : Nat)), d]) ?_
      repeat walk_at "k2"
      refine ⟨by simp; omega, fun d hd => ⟨?_, fun H2 e2 => tw1 ?_⟩, fun H2 e2 => ?_⟩
      · obtain ⟨o, ho, rfl⟩ := List.mem_map.mp hd
        cases o <;> rfl
      · repeat walk_at "k2"
        exact ⟨rfl, by walk_at "same"⟩
      · have rl := roundsUp_len wd ms hp j
        refine o2_catL (by simp; omega) ?_
        have er : (roundsUp wd ms j).map rde ++ ((errsOf wd ms).map encO).map (fun d => PyData.tuple [.int (wd.lo + (j : Nat)), d]) = (roundsUp wd ms (j + 1)).map rde := by
          rw [roundsUp, List.map_append, List.map_map, List.map_map]
          rfl
        rw [er]
        exact ⟨by walk_at "same", _, _, rfl⟩
    · obtain ⟨e3, a, b, rfl⟩ := hJ
      refine go_next (go_ret (w_var rfl ?_))
      refine rt_pure (by walk_at "same") fun _ => ?_
      exact rfl
omit G in
theorem sc__law_walked : FnScope ["_law_world_here", "_law_manner", "_law_run", "_law_stand", "_law_found", "_law_one", "_law_amid", "_law_deed_here", "_law_gone"] ["_law_world_here", "_law_manner", "_law_run"] (defScope (top 62)) := ⟨rfl, rfl, rfl, by decide +kernel, rfl, by decide +kernel, by decide +kernel⟩
theorem ok__law_walked (D__law_done : DefOk P w K mg base 2 "_law_done" ["_law_manner", "_law_stand", "_law_one"] S__law_done) (F : FnP K "_law_walked" "_law_walked" (top 62) [] f fd) : FnOk P w K mg base (L2.CX P w) 3 f fd ["_law_world_here", "_law_manner", "_law_run"] (sp S__law_walked) := by
  have sc := sc__law_walked
  refine ok_pure F sc (fun _ => rfl) fun cdv A outer s H E hr => ⟨_, pss_cons (ps_par (i := 3) (j := 4) rfl sc.nd rfl rfl (by decide) rfl rfl (pa_cons (pe_tup (pa_cons (pe_int) (pa_cons (pe_int) (pa_cons (pe_ix ix_seq (pe_var (i := 2) rfl (.inl rfl)) (pe_int) (fun _ _ => rfl)) (pa_nil))))) (pa_cons (pe_lst (pa_cons (pe_ix ix_seq (pe_var (i := 2) rfl (.inl rfl)) (pe_int) (fun _ _ => rfl)) (pa_nil))) (pa_nil))) (by rfl)) (pss_cons (ps_for PassesOwn.never rfl (pi_tup (pe_ix ix_seq (pe_var (i := 2) rfl (.inl rfl)) (pe_int) (fun _ _ => rfl))) (pg_name (i := 5) sc.nd rfl (.inl rfl)) (pss_cons (ps_if (PW.pt (pw_or (pt_not (pt_chain op_le op_le (pe_ix ix_seq (pe_var (i := 0) rfl (.inl rfl)) (pe_int) (fun _ _ => rfl)) (pe_ix ix_seq (pe_var (i := 5) rfl (.inl rfl)) (pe_int) (fun _ _ => rfl)) (pe_ix ix_seq (pe_var (i := 0) rfl (.inl rfl)) (pe_int) (fun _ _ => rfl)))) (pw_or1 (PW.pt (pw_and (pt_cmpR op_isN (pe_ix ix_seq (pe_var (i := 5) rfl (.inl rfl)) (pe_int) (fun _ _ => rfl)) (pe_non) (nomark _)) (pw_and1 (pt_cmpR (op_eqD hr.units) (pe_ix ix_seq (pe_var (i := 3) rfl (.inl rfl)) (pe_int) (fun _ _ => rfl)) (pe_ix ix_seq (pe_var (i := 0) rfl (.inl rfl)) (pe_int) (fun _ _ => rfl)) (nomark _)))))))) (pss_one (ps_ret (pe_non))) (pss_nil)) (pss_cons (ps_if (PW.pt (pw_and (pt_cmpR op_notN (pe_ix ix_seq (pe_var (i := 5) rfl (.inl rfl)) (pe_int) (fun _ _ => rfl)) (pe_non) (nomark _)) (pw_and1 (pt_not (pt_chain op_le op_le (pe_op op_sub (pe_int) (pe_ix ix_seq (pe_var (i := 0) rfl (.inl rfl)) (pe_int) (fun _ _ => rfl))) (pe_ix ix_seq (pe_var (i := 5) rfl (.inl rfl)) (pe_int) (fun _ _ => rfl)) (pe_ix ix_seq (pe_var (i := 0) rfl (.inl rfl)) (pe_int) (fun _ _ => rfl))))))) (pss_one (ps_ret (pe_non))) (pss_nil)) (pss_cons (ps_asg (pe_D D__law_done (hr.mono (by decide)) rfl pass_none (pa_cons (pe_var (i := 1) rfl (.inl rfl)) (pa_cons (pe_var (i := 3) rfl (.inl rfl)) (pa_cons (pe_var (i := 5) rfl (.inl rfl)) (pa_nil))))) (pg_tup rfl (pgs_cons (pg_name (i := 6) sc.nd rfl (.inl rfl)) (pgs_cons (pg_name (i := 7) sc.nd rfl (.inl rfl)) (pgs_cons (pg_name (i := 8) sc.nd rfl (.inl rfl)) (pgs_cons (pg_name (i := 3) sc.nd rfl (.inl rfl)) (pgs_nil))))))) (pss_one (ps_set (i := 4) sc.nd rfl (.inl rfl) (pe_op op_cat (pe_var (i := 4) rfl (.inl rfl)) (pe_lst (pa_cons (pe_var (i := 6) rfl (.inl rfl)) (pa_cons (pe_ix ix_seq (pe_var (i := 3) rfl (.inl rfl)) (pe_int) (fun _ _ => rfl)) (pa_nil))))))))))) (pss_one (ps_ret (pe_tup (pa_cons (pe_var (i := 4) rfl (.inl rfl)) (pa_cons (pe_var (i := 3) rfl (.inl rfl)) (pa_nil))))))), fun (i : Wld × Rul × Int × List Rnd) hp => ?_⟩
  obtain ⟨wd, r, b, rs⟩ := i
  obtain ⟨hw, hr', hl, hg0, _⟩ := (show wd.ok ∧ r.ok ∧ rs.length ≤ 1000 ∧ (gone wd r ⟨0, 0, b⟩ [b] 0 (rs.map Rnd.rd)).1 = none ∧ rs.length ≤ 1000 from hp)
  have hp := hr'.pos
  refine go_seq (go_par ?_)
  repeat walk_at "k3"
  refine go_seq (go_forT ?_)
  repeat walk_at "k3"
  refine ⟨fun j ρ H3 => Same H H3 ∧ ∃ fd st a1 a2 a3 a4, gone wd r ⟨0, 0, b⟩ [b] 0 ((rs.map Rnd.rd).take j) = (none, fd, st) ∧ st.ok r ∧ fd.length ≤ 1 + 2 * j ∧ ρ = [some (.d wd.enc), some (.d (encR r)), some (.d (.tuple [.int b, .tuple (rs.map rde)])), some (.d st.enc), some (.d (.list (fd.map .int))), a1, a2, a3, a4],
    ⟨by walk_at "same", [b], ⟨0, 0, b⟩, none, none, none, none, rfl, ⟨Int.le_refl 0, by show (0 : Int) < _; omega⟩, by simp, rfl⟩, fun Γ' hΓ j d ρ2 H3 hd hJ => ?_, fun ρ2 H3 hJ => ?_⟩
  · obtain ⟨e3, fd, st, a1, a2, a3, a4, hg, hst, hlen, rfl⟩ := hJ
    rw [List.getElem?_map] at hd
    obtain ⟨q, hq, rfl⟩ := Option.map_eq_some_iff.mp hd
    have hjl : j < rs.length := (List.getElem?_eq_some_iff.mp hq).1
    have hq' : (rs.map Rnd.rd)[j]? = some q.rd := by rw [List.getElem?_map, hq]; rfl
    have split : rs.map Rnd.rd = (rs.map Rnd.rd).take j ++ q.rd :: (rs.map Rnd.rd).drop (j + 1) := by
      rw [← (List.getElem?_eq_some_iff.mp hq').2, List.getElem_cons_drop, List.take_append_drop]
    have full := hg0
    rw [split, gone_app hg, gone] at full
    have hb' : isRound wd st.ms q.rd = true := by
      by_cases h : isRound wd st.ms q.rd = true
      · exact h
      · rw [if_neg h] at full
        cases full
    have hs2 := (stepped_ok (dr := q.1) (er := q.2) hr' hst).1
    have more : gone wd r ⟨0, 0, b⟩ [b] 0 ((rs.map Rnd.rd).take (j + 1)) = (none, fd ++ [(stepped r st q.1 q.2).1, (stepped r st q.1 q.2).2.2.2.df], (stepped r st q.1 q.2).2.2.2) := by
      rw [take_more hq', gone_app hg, gone, if_pos hb', (rd_of q).1, (rd_of q).2]
      rfl
    obtain ⟨i, o⟩ := q
    have fin : ∀ H4, Same H3 H4 → Same H H4 ∧ ∃ fd' st' a1 a2 a3 a4, gone wd r ⟨0, 0, b⟩ [b] 0 ((rs.map Rnd.rd).take (j + 1)) = (none, fd', st') ∧ st'.ok r ∧ fd'.length ≤ 1 + 2 * (j + 1) ∧ [some (Dx.d wd.enc), some (.d (encR r)), some (.d (.tuple [.int b, .tuple (rs.map rde)])), some (.d (stepped r st i o).2.2.2.enc), some (.d (.list (fd.map .int ++ [.int (stepped r st i o).1, .int (stepped r st i o).2.2.2.df]))), some (.d (rde (i, o))), some (.d (.int (stepped r st i o).1)), some (.d (stepped r st i o).2.1.enc), some (.d (.int (stepped r st i o).2.2.1))] = [some (.d wd.enc), some (.d (encR r)), some (.d (.tuple [.int b, .tuple (rs.map rde)])), some (.d st'.enc), some (.d (.list (fd'.map .int))), a1, a2, a3, a4] := fun H4 e4 => by
      have er : fd.map PyData.int ++ [.int (stepped r st i o).1, .int (stepped r st i o).2.2.2.df] = (fd ++ [(stepped r st i o).1, (stepped r st i o).2.2.2.df]).map PyData.int := by rw [List.map_append]; rfl
      rw [er]
      exact ⟨e3.trans e4, _, _, _, _, _, _, more, hs2, by simp <;> omega, rfl⟩
    have rr : isWhole (.int i) wd.lo wd.hi = true := by
      simp only [isRound, Rnd.rd, Bool.and_eq_true] at hb'
      exact hb'.1
    have r1 : wd.lo ≤ i ∧ i ≤ wd.hi := by simpa [isWhole] using rr
    obtain ⟨r1, r2⟩ := r1
    cases o with
    | none =>
      have r3 : st.ms < wd.ls := by
        simp only [isRound, Rnd.rd, Bool.and_eq_true, encO] at hb'
        exact of_decide_eq_true hb'.2
      repeat walk_at "k3"
      refine lcs_done hr' hst fun H5 e5 => ?_
      repeat walk_at "k3"
      refine o2_catL (by simp <;> omega) ?_
      exact fin _ (by walk_at "same")
    | some e =>
      have r3 : 0 - wd.e0 ≤ e ∧ e ≤ wd.e1 := by
        simp only [isRound, Rnd.rd, Bool.and_eq_true, encO] at hb'
        simpa [isWhole] using hb'.2
      obtain ⟨r3, r4⟩ := r3
      repeat walk_at "k3"
      refine lcs_done hr' hst fun H5 e5 => ?_
      repeat walk_at "k3"
      refine o2_catL (by simp <;> omega) ?_
      exact fin _ (by walk_at "same")
  · obtain ⟨e3, fd, st, a1, a2, a3, a4, hg, hst, hlen, rfl⟩ := hJ
    rw [List.length_map, ← List.length_map (f := Rnd.rd), List.take_length] at hg
    repeat walk_at "k3"
    refine rt_pure (by walk_at "same") fun _ => ?_
    show _ = Dx.d (.tuple [.list ((gone wd r ⟨0, 0, b⟩ [b] 0 (rs.map Rnd.rd)).2.1.map .int), (gone wd r ⟨0, 0, b⟩ [b] 0 (rs.map Rnd.rd)).2.2.enc])
    rw [hg]
end
end K2

set_option Elab.async false
set_option linter.all false
set_option maxRecDepth 100000
set_option pp.deepTerms false
set_option pp.deepTerms.threshold 10
set_option maxHeartbeats 4000000
namespace K2
open PySem L2 PySem.Spec PyProof.Rows StX RZ
local macro_rules | `(tactic| walk_at "k2") => `(tactic| first
  | with_reducible refine w_var rfl ?_
  | with_reducible refine w_int ?_
  | with_reducible refine w_bl ?_
  | with_reducible refine w_non ?_
  | with_reducible refine w_str ?_
  | with_reducible refine w_o ?_
  | with_reducible refine wa_cons ?_
  | with_reducible refine wa_nil ?_
  | with_reducible refine w_op ?_
  | with_reducible refine w_un ?_
  | with_reducible refine w_cb ?_
  | with_reducible refine w_call0 ?_
  | with_reducible refine w_chain ?_
  | with_reducible refine w_tup ?_
  | with_reducible refine w_lst ?_
  | with_reducible refine w_andV ?_
  | with_reducible refine w_orV ?_
  | with_reducible refine w_notV ?_
  | with_reducible refine w_if ?_
  | with_reducible refine wt_test ?_
  | with_reducible refine wt_B ?_
  | with_reducible refine wt_and ?_
  | with_reducible refine wt_or ?_
  | with_reducible refine wt_not ?_
  | with_reducible refine go_seq ?_
  | with_reducible refine go_ret ?_
  | with_reducible refine go_retN ?_
  | with_reducible refine go_set ?_
  | with_reducible refine go_par ?_
  | with_reducible refine go_par3 ?_
  | with_reducible refine go_asg ?_
  | with_reducible refine go_next ?_
  | with_reducible refine go_if ?_
  | with_reducible refine o2_ii ?_
  | with_reducible refine o2_ib ?_
  | with_reducible refine o1_i ?_
  | with_reducible refine o2_isN ?_
  | with_reducible refine o2_notN ?_
  | with_reducible refine oa_isiI ?_
  | with_reducible refine oa_isiB ?_
  | with_reducible refine oa_isiT ?_
  | with_reducible refine oa_isiS ?_
  | with_reducible refine oa_abs ?_
  | with_reducible refine oa_max ?_
  | with_reducible refine oa_min ?_
  | with_reducible refine oa_len ?_
  | with_reducible refine oa_lenL ?_
  | with_reducible refine oa_intB ?_
  | refine ⟨[_, _], rfl, Nat.le_of_ble_eq_true rfl, ?_⟩
  | refine ⟨[_, _, _], rfl, Nat.le_of_ble_eq_true rfl, ?_⟩
  | refine ⟨[_, _, _, _], rfl, Nat.le_of_ble_eq_true rfl, ?_⟩
  | refine ⟨[_], rfl, Nat.le_of_ble_eq_true rfl, ?_⟩
  | refine ⟨[], rfl, Nat.le_of_ble_eq_true rfl, ?_⟩)

local macro_rules | `(tactic| walk_at "k2") => `(tactic| first
  | with_reducible refine ex_b ?_
  | refine both_t rfl ?_
  | refine both_f rfl ?_
  | refine both_f2 rfl ?_
  | refine both_t2 rfl ?_
  | with_reducible refine cs_is_integer fun _ _ => ?_
  | with_reducible refine cs_is_whole fun _ _ => ?_
  | refine oa_len ?_
  | refine oa_lenL ?_
  | refine o2_ixT rfl ?_
  | refine o2_ixL rfl ?_
  | refine o2_in rfl rfl ?_
  | refine o2_eqI ?_
  | refine o2_neI ?_
  | refine o2_eqS (by decide +kernel) (by decide +kernel) ?_
  | refine o2_neS (by decide +kernel) (by decide +kernel) ?_
  | refine o2_eqD (Deed.shp _).ok rfl ?_
  | refine both_t (by decide +kernel) ?_
  | refine both_f (by decide +kernel) ?_
  | refine both_f2 (by decide +kernel) ?_
  | refine both_t2 (by decide +kernel) ?_
  | with_reducible refine w_slT ?_
  | with_reducible refine wg_name ?_
  | with_reducible refine wgs_cons ?_
  | with_reducible refine wgs_nil ?_
  | refine o2_ii ?_
  | refine o2_ib ?_
  | refine o2_isN ?_
  | refine o2_notN ?_
  | refine wg_tup rfl ?_
  | refine wgs_cons ?_
  | refine wgs_nil ?_
  | with_reducible refine w_slL ?_
  | with_reducible refine wo_no ?_
  | with_reducible refine wo_some ?_
  | with_reducible refine ⟨_, _, rfl, rfl, ?_⟩
  | with_reducible refine ⟨_, rfl, ?_⟩
  | with_reducible refine ⟨_, _, rfl, ?_⟩
  | with_reducible refine ⟨_, _, _, rfl, ?_⟩)
local macro_rules | `(tactic| walk_at "same") => `(tactic| ((repeat (first | exact Same.refl _ | assumption | refine Same.trans ?_ (by assumption)))))

local macro_rules | `(tactic| walk_at "k3") => `(tactic| first
  | walk_at "k2"
  | refine both_t (by first | (simp; done) | (simp; omega)) ?_
  | refine both_f (by first | (simp; done) | (simp; omega)) ?_
  | refine both_f2 (by first | (simp; done) | (simp; omega)) ?_
  | refine both_t2 (by first | (simp; done) | (simp; omega)) ?_
  | refine go_next ?_
  | refine go_drop ?_)
/-! ## the draws -/
theorem _root_.L2.Room.un1 {k : Nat} {A : Around} (r : Room k A) : A.units + 1 < cLine := by have := r.units; omega
structure DrS (H : Hp) (a l : Addr) (ns : List Int) (at_ lf us : Int) : Prop where
  d : H a = some (.dK [(.inr "cells", .ref l), (.inr "at", .int at_), (.inr "left", .int lf), (.inr "used", .int us)])
  l : H l = some (.lst (ns.map V.int))
def DrawAt (H : Hp) (p : Addr × Addr) (b : Nat) : Prop := ∃ ns at_ lf us, DrS H p.1 p.2 ns at_ lf us ∧ 0 < ns.length ∧ 0 ≤ us ∧ us ≤ b
theorem DrS.same {H H' : Hp} {a l : Addr} {ns : List Int} {at_ lf us : Int} (h : DrS H a l ns at_ lf us) (e : Same H H') : DrS H' a l ns at_ lf us := ⟨e _ _ h.d, e _ _ h.l⟩
theorem DrawAt.same {H H' : Hp} {p : Addr × Addr} {b : Nat} (h : DrawAt H p b) (e : Same H H') : DrawAt H' p b := by
  obtain ⟨ns, at_, lf, us, h, r⟩ := h
  exact ⟨ns, at_, lf, us, h.same e, r⟩
theorem DrawAt.mono {H : Hp} {p : Addr × Addr} {b c : Nat} (h : DrawAt H p b) (e : b ≤ c) : DrawAt H p c := by
  obtain ⟨ns, at_, lf, us, h, r1, r2, r3⟩ := h
  exact ⟨ns, at_, lf, us, h, r1, r2, by omega⟩
/-- nothing but one other object changed -/
theorem DrawAt.fr {H H' : Hp} {p : Addr × Addr} {q : Addr} {b : Nat} (h : DrawAt H p b) (hp : q ≠ p.1) (e : Fr [q] H H') : DrawAt H' p b := by
  obtain ⟨ns, at_, lf, us, h, r⟩ := h
  exact ⟨ns, at_, lf, us, ⟨e.kp _ _ h.d (.inl (by simpa using fun z => hp z.symm)), e.kp _ _ h.l (.inr rfl)⟩, r⟩
/-- .. a new object -/
theorem DrawAt.upd {H H' : Hp} {p : Addr × Addr} {q : Addr} {o : HO} {b c : Nat} (h0 : DrawAt H p c) (h : DrawAt H' p b) (hq : H q = none) : DrawAt (upd H' q o) p b := by
  obtain ⟨ns, at_, lf, us, h, r⟩ := h
  obtain ⟨ns0, at0, lf0, us0, h0, _⟩ := h0
  refine ⟨ns, at_, lf, us, ⟨?_, ?_⟩, r⟩
  · rw [upd_ne (ne_of_none h0.d hq)]
    exact h.d
  · rw [upd_ne (ne_of_none h0.l hq)]
    exact h.l
theorem Fr.updN {M : List Addr} {H H' : Hp} {q : Addr} {o : HO} (e : Fr M H H') (hq : H q = none) : Fr M H (upd H' q o) := ⟨fun c u h s => by
  rw [upd_ne (ne_of_none h hq)]
  exact e.kp c u h s, fun c h => e.fr c (upd_fr h)⟩
section
variable {H H3 : Hp} {a l : Addr} {ns : List Int} {at_ lf us z : Int}
theorem DrS.ne (h : DrS H a l ns at_ lf us) : l ≠ a := fun e => by
  have q := h.l
  rw [e, h.d] at q
  cases q
theorem DrS.off (h : DrS H a l ns at_ lf us) (e : Same (fun b => if b = a then none else H b) H3) : H3 l = some (.lst (ns.map V.int)) := e _ _ (by show (if l = a then none else H l) = _; rw [if_neg h.ne]; exact h.l)
theorem DrS.pAt {R : Hp → Prop} (h : DrS H a l ns at_ lf us) (k : ∀ H3, Fr [a] H H3 → DrS H3 a l ns z lf us → R H3) : PutOk H a [(.inr "cells", .ref l), (.inr "at", .int at_), (.inr "left", .int lf), (.inr "used", .int us)] "at" (.d (.int z)) R :=
  ⟨h.d, Nat.le_of_ble_eq_true rfl, fun w H3 e f hd dw => k H3 f ⟨by cases dw; exact hd, h.off e⟩⟩
theorem DrS.pLeft {R : Hp → Prop} (h : DrS H a l ns at_ lf us) (k : ∀ H3, Fr [a] H H3 → DrS H3 a l ns at_ z us → R H3) : PutOk H a [(.inr "cells", .ref l), (.inr "at", .int at_), (.inr "left", .int lf), (.inr "used", .int us)] "left" (.d (.int z)) R :=
  ⟨h.d, Nat.le_of_ble_eq_true rfl, fun w H3 e f hd dw => k H3 f ⟨by cases dw; exact hd, h.off e⟩⟩
theorem DrS.pUsed {R : Hp → Prop} (h : DrS H a l ns at_ lf us) (k : ∀ H3, Fr [a] H H3 → DrS H3 a l ns at_ lf z → R H3) : PutOk H a [(.inr "cells", .ref l), (.inr "at", .int at_), (.inr "left", .int lf), (.inr "used", .int us)] "used" (.d (.int z)) R :=
  ⟨h.d, Nat.le_of_ble_eq_true rfl, fun w H3 e f hd dw => k H3 f ⟨by cases dw; exact hd, h.off e⟩⟩
variable {Γ : List Gh} {ρ : Rho} {R : PX} {td ty : TE}
theorem w_dCells {i : Nat} (hv : ρ[i]? = some (some (.o (.ref a)))) (h : DrS H a l ns at_ lf us) (k : R (.d (.list (ns.map .int))) H) : W Γ (tDGet (tVar i) (tC (.str "cells"))) ρ H R :=
  w_dget (w_var hv ⟨a, _, rfl, h.d, w_str ⟨_, .ref l, .d (.list (ns.map .int)), rfl, h.d, rfl, Dq.lst h.l (DqAll.ofInts ns), k⟩⟩)
theorem w_dAt {i : Nat} (hv : ρ[i]? = some (some (.o (.ref a)))) (h : DrS H a l ns at_ lf us) (k : R (.d (.int at_)) H) : W Γ (tDGet (tVar i) (tC (.str "at"))) ρ H R :=
  w_dget (w_var hv ⟨a, _, rfl, h.d, w_str ⟨_, .int at_, .d (.int at_), rfl, h.d, rfl, Dq.int _, k⟩⟩)
theorem w_dLeft {i : Nat} (hv : ρ[i]? = some (some (.o (.ref a)))) (h : DrS H a l ns at_ lf us) (k : R (.d (.int lf)) H) : W Γ (tDGet (tVar i) (tC (.str "left"))) ρ H R :=
  w_dget (w_var hv ⟨a, _, rfl, h.d, w_str ⟨_, .int lf, .d (.int lf), rfl, h.d, rfl, Dq.int _, k⟩⟩)
theorem w_dUsed {i : Nat} (hv : ρ[i]? = some (some (.o (.ref a)))) (h : DrS H a l ns at_ lf us) (k : R (.d (.int us)) H) : W Γ (tDGet (tVar i) (tC (.str "used"))) ρ H R :=
  w_dget (w_var hv ⟨a, _, rfl, h.d, w_str ⟨_, .int us, .d (.int us), rfl, h.d, rfl, Dq.int _, k⟩⟩)
theorem wg_dLeft {i : Nat} {R : Rho → Hp → Prop} {y : Dx} (hy : y = .d (.int z)) (hv : ρ[i]? = some (some (.o (.ref a)))) (h : DrS H a l ns at_ lf us) (k : ∀ H3, Fr [a] H H3 → DrS H3 a l ns at_ z us → R ρ H3) : WG Γ (gSub (tVar i) (tC (.str "left")) rSetD) y ρ H R := by
  subst hy
  exact wg_dict (w_var hv (w_str ⟨a, _, _, rfl, rfl, h.pLeft k⟩))
variable {EE : EX} {tv : TE}
theorem go_pAt {i : Nat} (h : W Γ tv ρ H fun y H1 => ρ[i]? = some (some (.o (.ref a))) ∧ ∃ z l ns at_ lf us, y = .d (.int z) ∧ DrS H1 a l ns at_ lf us ∧ ∀ H3, Fr [a] H1 H3 → DrS H3 a l ns z lf us → EE.nx ρ H3) : Go Γ (sDPut (tVar i) (tC (.str "at")) tv) EE ρ H :=
  go_dput (h.imp fun y H1 k => by
    obtain ⟨hv, z, l, ns, at_, lf, us, rfl, h, k⟩ := k
    exact w_var hv (w_str ⟨a, _, _, rfl, rfl, h.pAt k⟩))
theorem go_pLeft {i : Nat} (h : W Γ tv ρ H fun y H1 => ρ[i]? = some (some (.o (.ref a))) ∧ ∃ z l ns at_ lf us, y = .d (.int z) ∧ DrS H1 a l ns at_ lf us ∧ ∀ H3, Fr [a] H1 H3 → DrS H3 a l ns at_ z us → EE.nx ρ H3) : Go Γ (sDPut (tVar i) (tC (.str "left")) tv) EE ρ H :=
  go_dput (h.imp fun y H1 k => by
    obtain ⟨hv, z, l, ns, at_, lf, us, rfl, h, k⟩ := k
    exact w_var hv (w_str ⟨a, _, _, rfl, rfl, h.pLeft k⟩))
theorem go_pUsed {i : Nat} (h : W Γ tv ρ H fun y H1 => ρ[i]? = some (some (.o (.ref a))) ∧ ∃ z l ns at_ lf us, y = .d (.int z) ∧ DrS H1 a l ns at_ lf us ∧ ∀ H3, Fr [a] H1 H3 → DrS H3 a l ns at_ lf z → EE.nx ρ H3) : Go Γ (sDPut (tVar i) (tC (.str "used")) tv) EE ρ H :=
  go_dput (h.imp fun y H1 k => by
    obtain ⟨hv, z, l, ns, at_, lf, us, rfl, h, k⟩ := k
    exact w_var hv (w_str ⟨a, _, _, rfl, rfl, h.pUsed k⟩))
end
/-- a def's end that changed the draws -/
theorem rt_fr {M : List Addr} {H H1 : Hp} {po : Dx → Hp → Prop} {x : Dx} (e : Fr M H H1) (h : ∀ H2, Same H1 H2 → po x H2) : (EB M H po).rt x H1 := ⟨e, h⟩
def S__law_next : Spc where
  ι := (Addr × Addr) × Nat × Int
  args i := [.o (.ref i.1.1), .d (.int i.2.2)]
  pre i H := DrawAt H i.1 i.2.1 ∧ i.2.1 ≤ 1000000000 ∧ 0 < i.2.2 ∧ i.2.2 < 1073741824
  mod i := [i.1.1]
  post i x H := DrawAt H i.1 (i.2.1 + 1) ∧ ∃ n, x = .d (.int n) ∧ 0 ≤ n ∧ n < i.2.2
section
variable {P : Program} {w : World} {K : PySem.W.Frag} {mg : Str → Option Value} {base : Heap} {f : Addr} {fd : FuncData} (G : GF mg)
include G
omit G in
theorem sc__law_next : FnScope ["_law_draw", "_law_total", "_law_cell", "_law_cells", "_law_number", "_law_k"] ["_law_draw", "_law_total"] (defScope (top 52)) := ⟨rfl, rfl, rfl, by decide +kernel, rfl, by decide +kernel, by decide +kernel⟩
theorem ok__law_next  (F : FnP K "_law_next" "_law_next" (top 52) [] f fd) : FnOk P w K mg base (L2.CX P w) 1 f fd ["_law_draw", "_law_total"] (sp S__law_next) := by
  have sc := sc__law_next
  refine ok_pure F sc (fun _ => rfl) fun cdv A outer s H E hr => ⟨_, pss_cons (ps_if (pt_cmpR op_gt (pe_dget hr.un1 (pe_var (i := 0) rfl (.inl rfl)) (pe_str) (fun _ _ => rfl)) (pe_int) (nomark _)) (pss_cons (ps_asg (pe_tup (pa_cons (pe_dget hr.un1 (pe_var (i := 0) rfl (.inl rfl)) (pe_str) (fun _ _ => rfl)) (pa_cons (pe_op op_fdiv (pe_dget hr.un1 (pe_var (i := 0) rfl (.inl rfl)) (pe_str) (fun _ _ => rfl)) (pe_var (i := 1) rfl (.inl rfl))) (pa_nil)))) (pg_tup rfl (pgs_cons (pg_name (i := 2) sc.nd rfl (.inl rfl)) (pgs_cons (pg_sub (pe_var (i := 0) rfl (.inl rfl)) (pe_str) (set_dict hr.un1)) (pgs_nil))))) (pss_one (ps_ret (pe_op op_mod (pe_var (i := 2) rfl (.inl rfl)) (pe_var (i := 1) rfl (.inl rfl)))))) (pss_nil)) (pss_cons (ps_set (i := 3) sc.nd rfl (.inl rfl) (pe_dget hr.un1 (pe_var (i := 0) rfl (.inl rfl)) (pe_str) (fun _ _ => rfl))) (pss_cons (ps_set (i := 2) sc.nd rfl (.inl rfl) (pe_ix ix_seq (pe_var (i := 3) rfl (.inl rfl)) (pe_op op_mod (pe_dget hr.un1 (pe_var (i := 0) rfl (.inl rfl)) (pe_str) (fun _ _ => rfl)) (pe_callB call_len_seq rfl (G.gfree "len" (by decide +kernel)) (by decide +kernel) (pa_cons (pe_var (i := 3) rfl (.inl rfl)) (pa_nil)))) (fun _ _ => rfl))) (pss_cons (ps_dput hr.un1 (pe_var (i := 0) rfl (.inl rfl)) (pe_str) (pe_op op_add (pe_dget hr.un1 (pe_var (i := 0) rfl (.inl rfl)) (pe_str) (fun _ _ => rfl)) (pe_int)) rfl) (pss_cons (ps_if (PW.pt (pw_and (pt_cmpR op_ge (pe_var (i := 2) rfl (.inl rfl)) (pe_op op_pow (pe_int) (pe_int)) (nomark _)) (pw_and1 (pt_cmpR op_le (pe_dget hr.un1 (pe_var (i := 0) rfl (.inl rfl)) (pe_str) (fun _ _ => rfl)) (pe_callB call_len_seq rfl (G.gfree "len" (by decide +kernel)) (by decide +kernel) (pa_cons (pe_var (i := 3) rfl (.inl rfl)) (pa_nil))) (nomark _))))) (pss_cons (ps_dput hr.un1 (pe_var (i := 0) rfl (.inl rfl)) (pe_str) (pe_op op_fdiv (pe_var (i := 2) rfl (.inl rfl)) (pe_var (i := 1) rfl (.inl rfl))) rfl) (pss_one (ps_ret (pe_op op_mod (pe_var (i := 2) rfl (.inl rfl)) (pe_var (i := 1) rfl (.inl rfl)))))) (pss_nil)) (pss_cons (ps_dput hr.un1 (pe_var (i := 0) rfl (.inl rfl)) (pe_str) (pe_op op_add (pe_dget hr.un1 (pe_var (i := 0) rfl (.inl rfl)) (pe_str) (fun _ _ => rfl)) (pe_int)) rfl) (pss_cons (ps_set (i := 4) sc.nd rfl (.inl rfl) (pe_op op_add (pe_op op_mod (pe_var (i := 2) rfl (.inl rfl)) (pe_int)) (pe_op op_mul (pe_op op_mul (pe_int) (pe_dget hr.un1 (pe_var (i := 0) rfl (.inl rfl)) (pe_str) (fun _ _ => rfl))) (pe_dget hr.un1 (pe_var (i := 0) rfl (.inl rfl)) (pe_str) (fun _ _ => rfl))))) (pss_cons (ps_for PassesOwn.never rfl (pi_tup (pe_tup (pa_cons (pe_dget hr.un1 (pe_var (i := 0) rfl (.inl rfl)) (pe_str) (fun _ _ => rfl)) (pa_cons (pe_dget hr.un1 (pe_var (i := 0) rfl (.inl rfl)) (pe_str) (fun _ _ => rfl)) (pa_nil))))) (pg_name (i := 5) sc.nd rfl (.inl rfl)) (pss_cons (ps_set (i := 4) sc.nd rfl (.inl rfl) (pe_op op_mod (pe_op op_mul (pe_op op_add (pe_op op_add (pe_var (i := 4) rfl (.inl rfl)) (pe_op op_mul (pe_int) (pe_var (i := 5) rfl (.inl rfl)))) (pe_int)) (pe_int)) (pe_int))) (pss_one (ps_set (i := 4) sc.nd rfl (.inl rfl) (pe_op op_mod (pe_op op_mul (pe_var (i := 4) rfl (.inl rfl)) (pe_op op_add (pe_int) (pe_op op_mul (pe_int) (pe_op op_mod (pe_var (i := 5) rfl (.inl rfl)) (pe_int))))) (pe_int)))))) (pss_one (ps_ret (pe_op op_mod (pe_op op_fdiv (pe_var (i := 4) rfl (.inl rfl)) (pe_int)) (pe_var (i := 1) rfl (.inl rfl)))))))))))), fun (i : (Addr × Addr) × Nat × Int) hp => ?_⟩
  obtain ⟨⟨a, l⟩, b, tot⟩ := i
  obtain ⟨⟨ns, at_, lf, us, hd, hn, hu0, hu1⟩, hb, ht0, ht1⟩ := (show DrawAt H (a, l) b ∧ b ≤ 1000000000 ∧ 0 < tot ∧ tot < 1073741824 from hp)
  have q0 : ∀ n : Int, 0 ≤ n % tot ∧ n % tot < tot := fun n => ⟨Int.emod_nonneg _ (by omega), Int.emod_lt_of_pos _ ht0⟩
  refine go_seq (go_if (wt_test (w_op (w_dLeft rfl hd ?_))))
  repeat walk_at "k2"
  refine ⟨fun hb => ?_, fun hb => ?_⟩
  · refine go_seq (go_asg (w_tup (wa_cons (w_dLeft rfl hd (wa_cons (w_op (w_dLeft rfl hd ?_)))))))
    repeat walk_at "k2"
    refine o2_iC (show CDiv _ _ from ⟨ht0, ht1⟩) ?_
    repeat walk_at "k2"
    refine wg_dLeft rfl rfl hd fun H3 f3 hd3 => ?_
    repeat walk_at "k2"
    refine o2_iC (show 0 < tot from ht0) ?_
    exact rt_fr f3 fun H2 e2 => ⟨⟨ns, _, _, _, hd3.same e2, hn, hu0, (show us ≤ ((b + 1 : Nat) : Int) by omega)⟩, _, rfl, q0 _⟩
  · refine go_next (go_seq (go_set (w_dCells rfl hd ?_)))
    refine go_seq (go_set ?_)
    repeat walk_at "k2"
    refine w_dAt rfl hd ?_
    repeat walk_at "k2"
    have hn0 : (0 : Int) < ((ns.map PyData.int).length : Nat) := by rw [List.length_map]; omega
    refine o2_iC hn0 ?_
    obtain ⟨cell, hcell⟩ : ∃ c, atI (ns.map PyData.int) (at_ % ((ns.map PyData.int).length : Nat)) = some (.int c) := by
      have h1 := Int.emod_nonneg at_ (Int.ne_of_gt hn0)
      have h2 := Int.emod_lt_of_pos at_ hn0
      obtain ⟨k, hk⟩ := Int.eq_ofNat_of_zero_le h1
      rw [hk] at h2 ⊢
      rw [List.length_map] at h2
      have hk' : k < ns.length := by omega
      refine ⟨ns[k], atI_nat ?_⟩
      rw [List.getElem?_map, List.getElem?_eq_getElem hk']
      rfl
    refine o2_ixL hcell ?_
    refine go_seq (go_pAt (a := a) ?_)
    refine w_op (w_dAt rfl hd ?_)
    repeat walk_at "k2"
    refine ⟨rfl, _, l, ns, _, _, _, rfl, hd, fun H3 f3 hd3 => ?_⟩
    refine go_seq (go_if (WT.imp (R := fun _ H1 => H1 = H3) ?_ fun bb H1 e1 => ?_))
    · repeat walk_at "k2"
      refine o2_iC (show CPow _ _ from ⟨by decide, by decide, by decide⟩) ?_
      repeat walk_at "k2"
      refine ⟨fun hb => ?_, fun hb => rfl⟩
      refine wt_B (w_op (w_dAt rfl hd3 ?_))
      repeat walk_at "k2"
      rfl
    subst e1
    refine ⟨fun hb => ?_, fun hb => ?_⟩
    · refine go_seq (go_pLeft (a := a) ?_)
      repeat walk_at "k2"
      refine o2_iC (show CDiv _ _ from ⟨ht0, ht1⟩) ?_
      refine ⟨rfl, _, l, ns, _, _, _, rfl, hd3, fun H4 f4 hd4 => ?_⟩
      repeat walk_at "k2"
      refine o2_iC (show 0 < tot from ht0) ?_
      exact rt_fr (f3.trans f4) fun H2 e2 => ⟨⟨ns, _, _, _, hd4.same e2, hn, hu0, (show us ≤ ((b + 1 : Nat) : Int) by omega)⟩, _, rfl, q0 _⟩
    · refine go_next (go_seq (go_pUsed (a := a) (w_op (w_dUsed rfl hd3 ?_))))
      repeat walk_at "k2"
      refine ⟨rfl, _, l, ns, _, _, _, rfl, hd3, fun H4 f4 hd4 => ?_⟩
      refine go_seq (go_set (w_op (w_op ?_)))
      repeat walk_at "k2"
      refine o2_iC (show (0 : Int) < 1000000007 by decide) ?_
      repeat walk_at "k2"
      refine w_dUsed rfl hd4 ?_
      refine o2_iC (.inl ⟨by decide, by decide⟩) ?_
      refine w_dUsed rfl hd4 ?_
      refine o2_iC (.inr ⟨by omega, by omega⟩) ?_
      repeat walk_at "k2"
      refine go_seq (go_forT (w_tup (wa_cons (w_dAt rfl hd4 (wa_cons (w_dUsed rfl hd4 (wa_nil ⟨[_, _], rfl, Nat.le_of_ble_eq_true rfl, ?_⟩)))))))
      refine ⟨_, rfl, fun j ρ H5 => Same H4 H5 ∧ ∃ n kk, ρ = [some (.o (.ref a)), some (.d (.int tot)), some (.d (.int cell)), some (.d (.list (ns.map .int))), some (.d (.int n)), kk], ⟨Same.refl _, _, none, rfl⟩, fun Γ' hΓ j d ρ2 H5 hdd hJ => ?_, fun ρ2 H5 hJ => ?_⟩
      · obtain ⟨e5, n, kk, rfl⟩ := hJ
        obtain ⟨kz, rfl⟩ : ∃ z, d = .int z := by
          match j, hdd with
          | 0, h => exact ⟨_, (Option.some.inj h).symm⟩
          | 1, h => exact ⟨_, (Option.some.inj h).symm⟩
        repeat walk_at "k2"
        refine o2_iC (.inl ⟨by decide, by decide⟩) ?_
        repeat walk_at "k2"
        refine o2_iC (.inr ⟨by decide, by decide⟩) ?_
        repeat walk_at "k2"
        refine o2_iC (show (0 : Int) < 2147483647 by decide) ?_
        repeat walk_at "k2"
        refine o2_iC (show (0 : Int) < 1000 by decide) ?_
        refine o2_iC (.inl ⟨by decide, by decide⟩) ?_
        repeat walk_at "k2"
        refine o2_iC (.inr ⟨by omega, by omega⟩) ?_
        repeat walk_at "k2"
        refine o2_iC (show (0 : Int) < 2147483629 by decide) ?_
        exact ⟨e5, _, _, rfl⟩
      · obtain ⟨e5, n, kk, rfl⟩ := hJ
        refine go_next (go_ret ?_)
        repeat walk_at "k2"
        refine o2_iC (show CDiv _ _ from ⟨by decide, by decide⟩) ?_
        repeat walk_at "k2"
        refine o2_iC (show 0 < tot from ht0) ?_
        exact rt_fr ((f3.trans f4).trans e5.frq) fun H2 e2 => ⟨⟨ns, _, _, _, (hd4.same e5).same e2, hn, (show (0 : Int) ≤ us + 1 by omega), (show us + 1 ≤ ((b + 1 : Nat) : Int) by omega)⟩, _, rfl, q0 _⟩
end
end K2

set_option Elab.async false
set_option linter.all false
set_option maxRecDepth 100000
set_option pp.deepTerms false
set_option pp.deepTerms.threshold 10
set_option maxHeartbeats 4000000
namespace K2
open PySem L2 PySem.Spec PyProof.Rows StX RZ
local macro_rules | `(tactic| walk_at "k2") => `(tactic| first
  | with_reducible refine w_var rfl ?_
  | with_reducible refine w_int ?_
  | with_reducible refine w_bl ?_
  | with_reducible refine w_non ?_
  | with_reducible refine w_str ?_
  | with_reducible refine w_o ?_
  | with_reducible refine wa_cons ?_
  | with_reducible refine wa_nil ?_
  | with_reducible refine w_op ?_
  | with_reducible refine w_un ?_
  | with_reducible refine w_cb ?_
  | with_reducible refine w_call0 ?_
  | with_reducible refine w_chain ?_
  | with_reducible refine w_tup ?_
  | with_reducible refine w_lst ?_
  | with_reducible refine w_andV ?_
  | with_reducible refine w_orV ?_
  | with_reducible refine w_notV ?_
  | with_reducible refine w_if ?_
  | with_reducible refine wt_test ?_
  | with_reducible refine wt_B ?_
  | with_reducible refine wt_and ?_
  | with_reducible refine wt_or ?_
  | with_reducible refine wt_not ?_
  | with_reducible refine go_seq ?_
  | with_reducible refine go_ret ?_
  | with_reducible refine go_retN ?_
  | with_reducible refine go_set ?_
  | with_reducible refine go_par ?_
  | with_reducible refine go_par3 ?_
  | with_reducible refine go_asg ?_
  | with_reducible refine go_next ?_
  | with_reducible refine go_if ?_
  | with_reducible refine o2_ii ?_
  | with_reducible refine o2_ib ?_
  | with_reducible refine o1_i ?_
  | with_reducible refine o2_isN ?_
  | with_reducible refine o2_notN ?_
  | with_reducible refine oa_isiI ?_
  | with_reducible refine oa_isiB ?_
  | with_reducible refine oa_isiT ?_
  | with_reducible refine oa_isiS ?_
  | with_reducible refine oa_abs ?_
  | with_reducible refine oa_max ?_
  | with_reducible refine oa_min ?_
  | with_reducible refine oa_len ?_
  | with_reducible refine oa_lenL ?_
  | with_reducible refine oa_intB ?_
  | refine ⟨[_, _], rfl, Nat.le_of_ble_eq_true rfl, ?_⟩
  | refine ⟨[_, _, _], rfl, Nat.le_of_ble_eq_true rfl, ?_⟩
  | refine ⟨[_, _, _, _], rfl, Nat.le_of_ble_eq_true rfl, ?_⟩
  | refine ⟨[_], rfl, Nat.le_of_ble_eq_true rfl, ?_⟩
  | refine ⟨[], rfl, Nat.le_of_ble_eq_true rfl, ?_⟩)

local macro_rules | `(tactic| walk_at "k2") => `(tactic| first
  | with_reducible refine ex_b ?_
  | refine both_t rfl ?_
  | refine both_f rfl ?_
  | refine both_f2 rfl ?_
  | refine both_t2 rfl ?_
  | with_reducible refine cs_is_integer fun _ _ => ?_
  | with_reducible refine cs_is_whole fun _ _ => ?_
  | refine oa_len ?_
  | refine oa_lenL ?_
  | refine o2_ixT rfl ?_
  | refine o2_ixL rfl ?_
  | refine o2_in rfl rfl ?_
  | refine o2_eqI ?_
  | refine o2_neI ?_
  | refine o2_eqS (by decide +kernel) (by decide +kernel) ?_
  | refine o2_neS (by decide +kernel) (by decide +kernel) ?_
  | refine o2_eqD (Deed.shp _).ok rfl ?_
  | refine both_t (by decide +kernel) ?_
  | refine both_f (by decide +kernel) ?_
  | refine both_f2 (by decide +kernel) ?_
  | refine both_t2 (by decide +kernel) ?_
  | with_reducible refine w_slT ?_
  | with_reducible refine wg_name ?_
  | with_reducible refine wgs_cons ?_
  | with_reducible refine wgs_nil ?_
  | refine o2_ii ?_
  | refine o2_ib ?_
  | refine o2_isN ?_
  | refine o2_notN ?_
  | refine wg_tup rfl ?_
  | refine wgs_cons ?_
  | refine wgs_nil ?_
  | with_reducible refine w_slL ?_
  | with_reducible refine wo_no ?_
  | with_reducible refine wo_some ?_
  | with_reducible refine ⟨_, _, rfl, rfl, ?_⟩
  | with_reducible refine ⟨_, rfl, ?_⟩
  | with_reducible refine ⟨_, _, rfl, ?_⟩
  | with_reducible refine ⟨_, _, _, rfl, ?_⟩)
local macro_rules | `(tactic| walk_at "same") => `(tactic| ((repeat (first | exact Same.refl _ | assumption | refine Same.trans ?_ (by assumption)))))

local macro_rules | `(tactic| walk_at "k3") => `(tactic| first
  | walk_at "k2"
  | refine both_t (by first | (simp; done) | (simp; omega)) ?_
  | refine both_f (by first | (simp; done) | (simp; omega)) ?_
  | refine both_f2 (by first | (simp; done) | (simp; omega)) ?_
  | refine both_t2 (by first | (simp; done) | (simp; omega)) ?_
  | refine go_next ?_
  | refine go_drop ?_)
theorem cs_next {p : Addr × Addr} {b : Nat} {tot : Int} {H : Hp} {R : PX} (hd : DrawAt H p b) (hb : b ≤ 1000000000) (h0 : 0 < tot) (h1 : tot < 1073741824) (k : ∀ n H2, Fr [p.1] H H2 → DrawAt H2 p (b + 1) → 0 ≤ n → n < tot → R (.d (.int n)) H2) : CallS S__law_next [.o (.ref p.1), .d (.int tot)] H Eno R :=
  CallS.mk (S := S__law_next) (p, b, tot) rfl (fun _ e => ⟨hd.same e, hb, h0, h1⟩) (fun x H2 f po => by
    obtain ⟨d, n, rfl, a1, a2⟩ := po
    exact k n H2 f d a1 a2) fun _ _ _ h => h
def S__law_pick : Spc where
  ι := (Addr × Addr) × Nat × List PyData
  args i := [.o (.ref i.1.1), .d (.list i.2.2)]
  pre i H := DrawAt H i.1 i.2.1 ∧ i.2.1 ≤ 900000000 ∧ 0 < i.2.2.length ∧ i.2.2.length ≤ 100000
  mod i := [i.1.1]
  post i x H := DrawAt H i.1 (i.2.1 + 1) ∧ ∃ d, x = .d d ∧ d ∈ i.2.2
theorem cs_pick {p : Addr × Addr} {b : Nat} {ds : List PyData} {H : Hp} {R : PX} (hd : DrawAt H p b) (hb : b ≤ 900000000) (h0 : 0 < ds.length) (h1 : ds.length ≤ 100000) (k : ∀ d H2, Fr [p.1] H H2 → DrawAt H2 p (b + 1) → d ∈ ds → R (.d d) H2) : CallS S__law_pick [.o (.ref p.1), .d (.list ds)] H Eno R :=
  CallS.mk (S := S__law_pick) (p, b, ds) rfl (fun _ e => ⟨hd.same e, hb, h0, h1⟩) (fun x H2 f po => by
    obtain ⟨d, n, rfl, a1⟩ := po
    exact k n H2 f d a1) fun _ _ _ h => h
def S__law_deed : Spc where
  ι := (Addr × Addr) × Nat × Unit
  args i := [.o (.ref i.1.1), .d (.int 3)]
  pre i H := DrawAt H i.1 i.2.1 ∧ i.2.1 ≤ 800000000
  mod i := [i.1.1]
  post i x H := DrawAt H i.1 (i.2.1 + 4) ∧ ∃ d : Deed, x = .d d.enc ∧ d.ok
theorem cs_deed {p : Addr × Addr} {b : Nat} {H : Hp} {R : PX} (hd : DrawAt H p b) (hb : b ≤ 800000000) (k : ∀ (d : Deed) H2, Fr [p.1] H H2 → DrawAt H2 p (b + 4) → d.ok → R (.d d.enc) H2) : CallS S__law_deed [.o (.ref p.1), .d (.int 3)] H Eno R :=
  CallS.mk (S := S__law_deed) (p, b, ()) rfl (fun _ e => ⟨hd.same e, hb⟩) (fun x H2 f po => by
    obtain ⟨d, n, rfl, a1⟩ := po
    exact k n H2 f d a1) fun _ _ _ h => h
structure Wld.small (w : Wld) : Prop where
  ok : w.ok
  l1 : -2 ≤ w.lo
  l2 : w.hi ≤ 5
  a : w.e0 ≤ 2
  b : w.e1 ≤ 2
  c : w.ls ≤ 2
def S__law_world : Spc where
  ι := (Addr × Addr) × Nat × Unit
  args i := [.o (.ref i.1.1), .d (.int 3)]
  pre i H := DrawAt H i.1 i.2.1 ∧ i.2.1 ≤ 600000000
  mod i := [i.1.1]
  post i x H := DrawAt H i.1 (i.2.1 + 6) ∧ ∃ w : Wld, x = .d w.enc ∧ w.small
theorem cs_lworld {p : Addr × Addr} {b : Nat} {H : Hp} {R : PX} (hd : DrawAt H p b) (hb : b ≤ 600000000) (k : ∀ (d : Wld) H2, Fr [p.1] H H2 → DrawAt H2 p (b + 6) → d.small → R (.d d.enc) H2) : CallS S__law_world [.o (.ref p.1), .d (.int 3)] H Eno R :=
  CallS.mk (S := S__law_world) (p, b, ()) rfl (fun _ e => ⟨hd.same e, hb⟩) (fun x H2 f po => by
    obtain ⟨d, n, rfl, a1⟩ := po
    exact k n H2 f d a1) fun _ _ _ h => h
/-- rounds that can be done one behind another, and where they end -/
def Good (w : Wld) (r : Rul) (s : Std) (rs : List Rnd) (s' : Std) : Prop := ∀ fd n, ∃ fd', gone w r s fd n (rs.map Rnd.rd) = (none, fd', s') ∧ fd'.length = fd.length + 2 * rs.length
theorem Good.nil (w : Wld) (r : Rul) (s : Std) : Good w r s [] s := fun fd n => ⟨fd, rfl, rfl⟩
theorem Good.app {w : Wld} {r : Rul} {s s1 s2 : Std} {as bs : List Rnd} (h : Good w r s as s1) (k : Good w r s1 bs s2) : Good w r s (as ++ bs) s2 := fun fd n => by
  obtain ⟨fd1, e1, l1⟩ := h fd n
  obtain ⟨fd2, e2, l2⟩ := k fd1 (n + (as.map Rnd.rd).length)
  refine ⟨fd2, by rw [List.map_append, gone_app e1, e2], ?_⟩
  rw [l2, l1, List.length_append]
  omega
theorem Good.one {w : Wld} {r : Rul} {s : Std} {q : Rnd} (h : isRound w s.ms q.rd = true) : Good w r s [q] (stepped r s q.1 q.2).2.2.2 := fun fd n => by
  refine ⟨_, by rw [List.map_cons, gone, if_pos h, (rd_of q).1, (rd_of q).2]; rfl, ?_⟩
  simp
def S__law_row : Spc where
  ι := (Addr × Addr) × Nat × (Wld × Std × Rul × Nat)
  args i := [.o (.ref i.1.1), .d i.2.2.1.enc, .d i.2.2.2.1.enc, .d (encR i.2.2.2.2.1), .d (.int (i.2.2.2.2.2 : Nat))]
  pre i H := DrawAt H i.1 i.2.1 ∧ i.2.1 ≤ 600000000 ∧ i.2.2.1.ok ∧ i.2.2.2.2.1.ok ∧ i.2.2.2.1.ok i.2.2.2.2.1 ∧ i.2.2.2.2.2 ≤ 3
  mod i := [i.1.1]
  post i x H := DrawAt H i.1 (i.2.1 + 3) ∧ ∃ rs s, x = .d (.tuple (rs.map rde)) ∧ rs.length = i.2.2.2.2.2 ∧ Good i.2.2.1 i.2.2.2.2.1 i.2.2.2.1 rs s ∧ s.ok i.2.2.2.2.1
theorem lcs_rounds {w : Wld} {ms : Int} (h : w.ok) {H : Hp} {R : PX} (k : ∀ H2, Same H H2 → R (.d (.list ((roundsOf w ms).map rde))) H2) : CallS S__law_rounds [.d w.enc, .d (.int ms)] H Eno R := CallS.pure (S := S__law_rounds) (w, ms) rfl (fun _ _ => h) rfl fun x H2 e po => by
  obtain rfl := po
  exact k H2 e
theorem Same.fr1 {H H' : Hp} {a : Addr} (e : Same H H') : Fr [a] H H' := e.frq
section
variable {P : Program} {w : World} {K : PySem.W.Frag} {mg : Str → Option Value} {base : Heap} {f : Addr} {fd : FuncData} (G : GF mg)
include G
omit G in
theorem sc__law_pick : FnScope ["_law_draw", "_law_some"] ["_law_draw", "_law_some"] (defScope (top 53)) := ⟨rfl, rfl, rfl, by decide +kernel, rfl, by decide +kernel, by decide +kernel⟩
theorem ok__law_pick (D__law_next : DefOk P w K mg base 1 "_law_next" ["_law_draw", "_law_total"] S__law_next) (F : FnP K "_law_pick" "_law_pick" (top 53) [] f fd) : FnOk P w K mg base (L2.CX P w) 2 f fd ["_law_draw", "_law_some"] (sp S__law_pick) := by
  have sc := sc__law_pick
  refine ok_pure F sc (fun _ => rfl) fun cdv A outer s H E hr => ⟨_, pss_one (ps_ret (pe_ix ix_seq (pe_var (i := 1) rfl (.inl rfl)) (pe_D D__law_next (hr.mono (by decide)) rfl pass_none (pa_cons (pe_var (i := 0) rfl (.inl rfl)) (pa_cons (pe_callB call_len_seq rfl (G.gfree "len" (by decide +kernel)) (by decide +kernel) (pa_cons (pe_var (i := 1) rfl (.inl rfl)) (pa_nil))) (pa_nil)))) (fun _ _ => rfl))), fun (i : (Addr × Addr) × Nat × List PyData) hp => ?_⟩
  obtain ⟨p, b, ds⟩ := i
  obtain ⟨hd, hb, h0, h1⟩ := (show DrawAt H p b ∧ b ≤ 900000000 ∧ 0 < ds.length ∧ ds.length ≤ 100000 from hp)
  repeat walk_at "k2"
  refine cs_next hd (by omega) (show (0 : Int) < (ds.length : Nat) by omega) (show (ds.length : Nat) < (1073741824 : Int) by omega) fun n H2 f2 d2 n0 n1 => ?_
  obtain ⟨k, rfl⟩ := Int.eq_ofNat_of_zero_le n0
  have hk : k < ds.length := by have q : (k : Int) < (ds.length : Nat) := n1; omega
  refine o2_ixL (d := ds[k]) (atI_nat (List.getElem?_eq_getElem hk)) ?_
  exact rt_fr f2 fun H3 e3 => ⟨d2.same e3, _, rfl, List.getElem_mem hk⟩
omit G in
theorem sc__law_deed : FnScope ["_law_draw", "_law_wide", "_law_way", "_law_whole"] ["_law_draw", "_law_wide"] (defScope (top 54)) := ⟨rfl, rfl, rfl, by decide +kernel, rfl, by decide +kernel, by decide +kernel⟩
theorem ok__law_deed (D__law_next : DefOk P w K mg base 1 "_law_next" ["_law_draw", "_law_total"] S__law_next) (D__law_pick : DefOk P w K mg base 2 "_law_pick" ["_law_draw", "_law_some"] S__law_pick) (F : FnP K "_law_deed" "_law_deed" (top 54) [] f fd) : FnOk P w K mg base (L2.CX P w) 3 f fd ["_law_draw", "_law_wide"] (sp S__law_deed) := by
  have sc := sc__law_deed
  refine ok_pure F sc (fun _ => rfl) fun cdv A outer s H E hr => ⟨_, pss_cons (ps_set (i := 2) sc.nd rfl (.inl rfl) (pe_D D__law_next (hr.mono (by decide)) rfl pass_none (pa_cons (pe_var (i := 0) rfl (.inl rfl)) (pa_cons (pe_int) (pa_nil))))) (pss_cons (ps_if (pt_cmpR (op_eqD hr.units) (pe_var (i := 2) rfl (.inl rfl)) (pe_int) (nomark _)) (pss_one (ps_ret (pe_tup (pa_cons (pe_str) (pa_nil))))) (pss_nil)) (pss_cons (ps_if (pt_cmpR (op_eqD hr.units) (pe_var (i := 2) rfl (.inl rfl)) (pe_int) (nomark _)) (pss_one (ps_ret (pe_tup (pa_cons (pe_str) (pa_cons (pe_op op_sub (pe_D D__law_next (hr.mono (by decide)) rfl pass_none (pa_cons (pe_var (i := 0) rfl (.inl rfl)) (pa_cons (pe_op op_add (pe_op op_mul (pe_int) (pe_var (i := 1) rfl (.inl rfl))) (pe_int)) (pa_nil)))) (pe_var (i := 1) rfl (.inl rfl))) (pa_nil)))))) (pss_nil)) (pss_cons (ps_if (pt_cmpR op_lt (pe_var (i := 2) rfl (.inl rfl)) (pe_int) (nomark _)) (pss_one (ps_ret (pe_tup (pa_cons (pe_str) (pa_cons (pe_D D__law_next (hr.mono (by decide)) rfl pass_none (pa_cons (pe_var (i := 0) rfl (.inl rfl)) (pa_cons (pe_op op_add (pe_var (i := 1) rfl (.inl rfl)) (pe_int)) (pa_nil)))) (pa_nil)))))) (pss_nil)) (pss_cons (ps_set (i := 3) sc.nd rfl (.inl rfl) (pe_op op_add (pe_int) (pe_D D__law_next (hr.mono (by decide)) rfl pass_none (pa_cons (pe_var (i := 0) rfl (.inl rfl)) (pa_cons (pe_int) (pa_nil)))))) (pss_one (ps_ret (pe_tup (pa_cons (pe_str) (pa_cons (pe_D D__law_pick (hr.mono (by decide)) rfl pass_none (pa_cons (pe_var (i := 0) rfl (.inl rfl)) (pa_cons (pe_lst (pa_cons (pe_var (i := 3) rfl (.inl rfl)) (pa_cons (pe_D D__law_next (hr.mono (by decide)) rfl pass_none (pa_cons (pe_var (i := 0) rfl (.inl rfl)) (pa_cons (pe_op op_add (pe_var (i := 3) rfl (.inl rfl)) (pe_int)) (pa_nil)))) (pa_nil)))) (pa_nil)))) (pa_cons (pe_var (i := 3) rfl (.inl rfl)) (pa_nil))))))))))), fun (i : (Addr × Addr) × Nat × Unit) hp => ?_⟩
  obtain ⟨p, b, ⟨⟩⟩ := i
  obtain ⟨hd, hb⟩ := (show DrawAt H p b ∧ b ≤ 800000000 from hp)
  refine go_seq (go_set ?_)
  repeat walk_at "k2"
  refine cs_next hd (by omega) (by decide) (by decide) fun n H2 f2 d2 n0 n1 => ?_
  repeat walk_at "k2"
  refine ⟨fun h => ?_, fun h => ?_⟩
  · repeat walk_at "k2"
    exact rt_fr f2 fun H3 e3 => ⟨(d2.same e3).mono (by show b + 1 ≤ b + 4; omega), .hold, rfl, trivial⟩
  repeat walk_at "k3"
  refine ⟨fun h => ?_, fun h => ?_⟩
  · repeat walk_at "k2"
    refine o2_iC (.inl ⟨by decide, by decide⟩) ?_
    repeat walk_at "k2"
    refine cs_next d2 (by omega) (by decide) (by decide) fun n H3 f3 d3 n0 n1 => ?_
    repeat walk_at "k2"
    exact rt_fr (f2.trans f3) fun H4 e4 => ⟨(d3.same e4).mono (by show b + 1 + 1 ≤ b + 4; omega), .shift (n - 3), rfl, by omega, by omega⟩
  repeat walk_at "k3"
  refine ⟨fun h => ?_, fun h => ?_⟩
  · repeat walk_at "k2"
    refine cs_next d2 (by omega) (by decide) (by decide) fun n H3 f3 d3 n0 n1 => ?_
    repeat walk_at "k2"
    exact rt_fr (f2.trans f3) fun H4 e4 => ⟨(d3.same e4).mono (by show b + 1 + 1 ≤ b + 4; omega), .run n, rfl, by omega, by omega⟩
  repeat walk_at "k3"
  refine cs_next d2 (by omega) (by decide) (by decide) fun n H3 f3 d3 n0 n1 => ?_
  repeat walk_at "k3"
  refine cs_next d3 (by omega) (by omega) (by omega) fun m H4 f4 d4 m0 m1 => ?_
  repeat walk_at "k3"
  refine cs_pick d4 (by omega) (Nat.le_of_ble_eq_true rfl) (Nat.le_of_ble_eq_true rfl) fun z H5 f5 d5 hz => ?_
  obtain ⟨z, rfl, z0, z1⟩ : ∃ q : Int, z = .int q ∧ 0 ≤ q ∧ q ≤ 1 + n := by
    rcases List.mem_cons.mp hz with rfl | hz
    · exact ⟨_, rfl, by omega, by omega⟩
    rcases List.mem_cons.mp hz with rfl | hz
    · exact ⟨_, rfl, by omega, by omega⟩
    · cases hz
  repeat walk_at "k3"
  exact rt_fr (((f2.trans f3).trans f4).trans f5) fun H6 e6 => ⟨d5.same e6, .jump z (1 + n), rfl, by omega, by omega, by omega, by omega⟩
omit G in
theorem sc__law_world : FnScope ["_law_draw", "_law_wide", "_law_low", "_law_errors"] ["_law_draw", "_law_wide"] (defScope (top 57)) := ⟨rfl, rfl, rfl, by decide +kernel, rfl, by decide +kernel, by decide +kernel⟩
theorem ok__law_world (D__law_next : DefOk P w K mg base 1 "_law_next" ["_law_draw", "_law_total"] S__law_next) (F : FnP K "_law_world" "_law_world" (top 57) [] f fd) : FnOk P w K mg base (L2.CX P w) 2 f fd ["_law_draw", "_law_wide"] (sp S__law_world) := by
  have sc := sc__law_world
  refine ok_pure F sc (fun _ => rfl) fun cdv A outer s H E hr => ⟨_, pss_cons (ps_set (i := 2) sc.nd rfl (.inl rfl) (pe_op op_sub (pe_op op_sub (pe_D D__law_next (hr.mono (by decide)) rfl pass_none (pa_cons (pe_var (i := 0) rfl (.inl rfl)) (pa_cons (pe_op op_add (pe_var (i := 1) rfl (.inl rfl)) (pe_int)) (pa_nil)))) (pe_int)) (pe_D D__law_next (hr.mono (by decide)) rfl pass_none (pa_cons (pe_var (i := 0) rfl (.inl rfl)) (pa_cons (pe_int) (pa_nil)))))) (pss_cons (ps_set (i := 3) sc.nd rfl (.inl rfl) (pe_tup (pa_cons (pe_D D__law_next (hr.mono (by decide)) rfl pass_none (pa_cons (pe_var (i := 0) rfl (.inl rfl)) (pa_cons (pe_var (i := 1) rfl (.inl rfl)) (pa_nil)))) (pa_cons (pe_D D__law_next (hr.mono (by decide)) rfl pass_none (pa_cons (pe_var (i := 0) rfl (.inl rfl)) (pa_cons (pe_var (i := 1) rfl (.inl rfl)) (pa_nil)))) (pa_nil))))) (pss_one (ps_ret (pe_op op_catA (pe_op op_catA (pe_tup (pa_cons (pe_var (i := 2) rfl (.inl rfl)) (pa_cons (pe_op op_add (pe_var (i := 2) rfl (.inl rfl)) (pe_D D__law_next (hr.mono (by decide)) rfl pass_none (pa_cons (pe_var (i := 0) rfl (.inl rfl)) (pa_cons (pe_op op_add (pe_var (i := 1) rfl (.inl rfl)) (pe_int)) (pa_nil))))) (pa_nil)))) (pe_var (i := 3) rfl (.inl rfl))) (pe_tup (pa_cons (pe_D D__law_next (hr.mono (by decide)) rfl pass_none (pa_cons (pe_var (i := 0) rfl (.inl rfl)) (pa_cons (pe_int) (pa_nil)))) (pa_nil))))))), fun (i : (Addr × Addr) × Nat × Unit) hp => ?_⟩
  obtain ⟨p, b, ⟨⟩⟩ := i
  obtain ⟨hd, hb⟩ := (show DrawAt H p b ∧ b ≤ 600000000 from hp)
  refine go_seq (go_set ?_)
  repeat walk_at "k2"
  refine cs_next hd (by omega) (by decide) (by decide) fun n1 H1 f1 d1 n10 n11 => ?_
  repeat walk_at "k2"
  refine cs_next d1 (by omega) (by decide) (by decide) fun n2 H2 f2 d2 n20 n21 => ?_
  repeat walk_at "k2"
  refine cs_next d2 (by omega) (by decide) (by decide) fun n3 H3 f3 d3 n30 n31 => ?_
  repeat walk_at "k2"
  refine cs_next d3 (by omega) (by decide) (by decide) fun n4 H4 f4 d4 n40 n41 => ?_
  repeat walk_at "k2"
  refine cs_next d4 (by omega) (by decide) (by decide) fun n5 H5 f5 d5 n50 n51 => ?_
  repeat walk_at "k2"
  refine o2_catT (Nat.le_of_ble_eq_true rfl) ?_
  repeat walk_at "k2"
  refine cs_next d5 (by omega) (by decide) (by decide) fun n6 H6 f6 d6 n60 n61 => ?_
  repeat walk_at "k2"
  refine o2_catT (Nat.le_of_ble_eq_true rfl) ?_
  exact rt_fr (((((f1.trans f2).trans f3).trans f4).trans f5).trans f6) fun H7 e7 => ⟨d6.same e7, ⟨n1 - 1 - n2, n1 - 1 - n2 + n5, n3, n4, n6⟩, rfl, ⟨by show -60 ≤ n1 - 1 - n2; omega, by show n1 - 1 - n2 ≤ n1 - 1 - n2 + n5; omega, by show n1 - 1 - n2 + n5 ≤ 60; omega, n30, by show n3 ≤ 60; omega, n40, by show n4 ≤ 60; omega, n60, by show n6 ≤ 3; omega⟩, by show -2 ≤ n1 - 1 - n2; omega, by show n1 - 1 - n2 + n5 ≤ 5; omega, by show n3 ≤ 2; omega, by show n4 ≤ 2; omega, by show n6 ≤ 2; omega⟩
end
end K2

set_option Elab.async false
set_option linter.all false
set_option maxRecDepth 100000
set_option pp.deepTerms false
set_option pp.deepTerms.threshold 10
set_option maxHeartbeats 4000000
namespace K2
open PySem L2 PySem.Spec PyProof.Rows StX RZ
local macro_rules | `(tactic| walk_at "k2") => `(tactic| first
  | with_reducible refine w_var rfl ?_
  | with_reducible refine w_int ?_
  | with_reducible refine w_bl ?_
  | with_reducible refine w_non ?_
  | with_reducible refine w_str ?_
  | with_reducible refine w_o ?_
  | with_reducible refine wa_cons ?_
  | with_reducible refine wa_nil ?_
  | with_reducible refine w_op ?_
  | with_reducible refine w_un ?_
  | with_reducible refine w_cb ?_
  | with_reducible refine w_call0 ?_
  | with_reducible refine w_chain ?_
  | with_reducible refine w_tup ?_
  | with_reducible refine w_lst ?_
  | with_reducible refine w_andV ?_
  | with_reducible refine w_orV ?_
  | with_reducible refine w_notV ?_
  | with_reducible refine w_if ?_
  | with_reducible refine wt_test ?_
  | with_reducible refine wt_B ?_
  | with_reducible refine wt_and ?_
  | with_reducible refine wt_or ?_
  | with_reducible refine wt_not ?_
  | with_reducible refine go_seq ?_
  | with_reducible refine go_ret ?_
  | with_reducible refine go_retN ?_
  | with_reducible refine go_set ?_
  | with_reducible refine go_par ?_
  | with_reducible refine go_par3 ?_
  | with_reducible refine go_asg ?_
  | with_reducible refine go_next ?_
  | with_reducible refine go_if ?_
  | with_reducible refine o2_ii ?_
  | with_reducible refine o2_ib ?_
  | with_reducible refine o1_i ?_
  | with_reducible refine o2_isN ?_
  | with_reducible refine o2_notN ?_
  | with_reducible refine oa_isiI ?_
  | with_reducible refine oa_isiB ?_
  | with_reducible refine oa_isiT ?_
  | with_reducible refine oa_isiS ?_
  | with_reducible refine oa_abs ?_
  | with_reducible refine oa_max ?_
  | with_reducible refine oa_min ?_
  | with_reducible refine oa_len ?_
  | with_reducible refine oa_lenL ?_
  | with_reducible refine oa_intB ?_
  | refine ⟨[_, _], rfl, Nat.le_of_ble_eq_true rfl, ?_⟩
  | refine ⟨[_, _, _], rfl, Nat.le_of_ble_eq_true rfl, ?_⟩
  | refine ⟨[_, _, _, _], rfl, Nat.le_of_ble_eq_true rfl, ?_⟩
  | refine ⟨[_], rfl, Nat.le_of_ble_eq_true rfl, ?_⟩
  | refine ⟨[], rfl, Nat.le_of_ble_eq_true rfl, ?_⟩)

local macro_rules | `(tactic| walk_at "k2") => `(tactic| first
  | with_reducible refine ex_b ?_
  | refine both_t rfl ?_
  | refine both_f rfl ?_
  | refine both_f2 rfl ?_
  | refine both_t2 rfl ?_
  | with_reducible refine cs_is_integer fun _ _ => ?_
  | with_reducible refine cs_is_whole fun _ _ => ?_
  | refine oa_len ?_
  | refine oa_lenL ?_
  | refine o2_ixT rfl ?_
  | refine o2_ixL rfl ?_
  | refine o2_in rfl rfl ?_
  | refine o2_eqI ?_
  | refine o2_neI ?_
  | refine o2_eqS (by decide +kernel) (by decide +kernel) ?_
  | refine o2_neS (by decide +kernel) (by decide +kernel) ?_
  | refine o2_eqD (Deed.shp _).ok rfl ?_
  | refine both_t (by decide +kernel) ?_
  | refine both_f (by decide +kernel) ?_
  | refine both_f2 (by decide +kernel) ?_
  | refine both_t2 (by decide +kernel) ?_
  | with_reducible refine w_slT ?_
  | with_reducible refine wg_name ?_
  | with_reducible refine wgs_cons ?_
  | with_reducible refine wgs_nil ?_
  | refine o2_ii ?_
  | refine o2_ib ?_
  | refine o2_isN ?_
  | refine o2_notN ?_
  | refine wg_tup rfl ?_
  | refine wgs_cons ?_
  | refine wgs_nil ?_
  | with_reducible refine w_slL ?_
  | with_reducible refine wo_no ?_
  | with_reducible refine wo_some ?_
  | with_reducible refine ⟨_, _, rfl, rfl, ?_⟩
  | with_reducible refine ⟨_, rfl, ?_⟩
  | with_reducible refine ⟨_, _, rfl, ?_⟩
  | with_reducible refine ⟨_, _, _, rfl, ?_⟩)
local macro_rules | `(tactic| walk_at "same") => `(tactic| ((repeat (first | exact Same.refl _ | assumption | refine Same.trans ?_ (by assumption)))))

local macro_rules | `(tactic| walk_at "k3") => `(tactic| first
  | walk_at "k2"
  | refine both_t (by first | (simp; done) | (simp; omega)) ?_
  | refine both_f (by first | (simp; done) | (simp; omega)) ?_
  | refine both_f2 (by first | (simp; done) | (simp; omega)) ?_
  | refine both_t2 (by first | (simp; done) | (simp; omega)) ?_
  | refine go_next ?_
  | refine go_drop ?_)
def S__law_mode : Spc where
  ι := (Addr × Addr) × Nat × Int
  args i := [.o (.ref i.1.1), .d (.int i.2.2), .d (.int 3)]
  pre i H := DrawAt H i.1 i.2.1 ∧ i.2.1 ≤ 700000000 ∧ 1 ≤ i.2.2 ∧ i.2.2 ≤ 3
  mod i := [i.1.1]
  post i x H := DrawAt H i.1 (i.2.1 + 28) ∧ ∃ m : Mod, x = .d m.enc ∧ m.ok i.2.2
theorem cs_lmode {p : Addr × Addr} {b : Nat} {tot : Int} {H : Hp} {R : PX} (hd : DrawAt H p b) (hb : b ≤ 700000000) (h0 : 1 ≤ tot) (h1 : tot ≤ 3) (k : ∀ (d : Mod) H2, Fr [p.1] H H2 → DrawAt H2 p (b + 28) → d.ok tot → R (.d d.enc) H2) : CallS S__law_mode [.o (.ref p.1), .d (.int tot), .d (.int 3)] H Eno R :=
  CallS.mk (S := S__law_mode) (p, b, tot) rfl (fun _ e => ⟨hd.same e, hb, h0, h1⟩) (fun x H2 f po => by
    obtain ⟨d, n, rfl, a1⟩ := po
    exact k n H2 f d a1) fun _ _ _ h => h
def S__law_rule : Spc where
  ι := (Addr × Addr) × Nat × Unit
  args i := [.o (.ref i.1.1), .d (.int 2), .d (.int 3)]
  pre i H := DrawAt H i.1 i.2.1 ∧ i.2.1 ≤ 600000000
  mod i := [i.1.1]
  post i x H := DrawAt H i.1 (i.2.1 + 57) ∧ ∃ r : Rul, x = .d (encR r) ∧ r.ok
theorem cs_lrule {p : Addr × Addr} {b : Nat} {H : Hp} {R : PX} (hd : DrawAt H p b) (hb : b ≤ 600000000) (k : ∀ (d : Rul) H2, Fr [p.1] H H2 → DrawAt H2 p (b + 57) → d.ok → R (.d (encR d)) H2) : CallS S__law_rule [.o (.ref p.1), .d (.int 2), .d (.int 3)] H Eno R :=
  CallS.mk (S := S__law_rule) (p, b, ()) rfl (fun _ e => ⟨hd.same e, hb⟩) (fun x H2 f po => by
    obtain ⟨d, n, rfl, a1⟩ := po
    exact k n H2 f d a1) fun _ _ _ h => h
theorem cs_row {p : Addr × Addr} {b : Nat} {w : Wld} {s : Std} {r : Rul} {n : Nat} {H : Hp} {R : PX} (hd : DrawAt H p b) (hb : b ≤ 600000000) (hw : w.ok) (hr : r.ok) (hs : s.ok r) (hn : n ≤ 3) (k : ∀ rs s' H2, Fr [p.1] H H2 → DrawAt H2 p (b + 3) → rs.length = n → Good w r s rs s' → s'.ok r → R (.d (.tuple (rs.map rde))) H2) : CallS S__law_row [.o (.ref p.1), .d w.enc, .d s.enc, .d (encR r), .d (.int (n : Nat))] H Eno R :=
  CallS.mk (S := S__law_row) (p, b, w, s, r, n) rfl (fun _ e => ⟨hd.same e, hb, hw, hr, hs, hn⟩) (fun x H2 f po => by
    obtain ⟨d, rs, s', rfl, a1, a2, a3⟩ := po
    exact k rs s' H2 f d a1 a2 a3) fun _ _ _ h => h
section
variable {P : Program} {w : World} {K : PySem.W.Frag} {mg : Str → Option Value} {base : Heap} {f : Addr} {fd : FuncData} (G : GF mg)
include G
omit G in
theorem sc__law_row : FnScope ["_law_draw", "_law_world_here", "_law_stand", "_law_manner", "_law_total", "_law_found", "_law_k", "_law_one"] ["_law_draw", "_law_world_here", "_law_stand", "_law_manner", "_law_total"] (defScope (top 66)) := ⟨rfl, rfl, rfl, by decide +kernel, rfl, by decide +kernel, by decide +kernel⟩
theorem ok__law_row (D__law_pick : DefOk P w K mg base 2 "_law_pick" ["_law_draw", "_law_some"] S__law_pick) (D__law_rounds : DefOk P w K mg base 1 "_law_rounds" ["_law_world_here", "_law_missed"] S__law_rounds) (D__law_done : DefOk P w K mg base 2 "_law_done" ["_law_manner", "_law_stand", "_law_one"] S__law_done) (F : FnP K "_law_row" "_law_row" (top 66) [] f fd) : FnOk P w K mg base (L2.CX P w) 3 f fd ["_law_draw", "_law_world_here", "_law_stand", "_law_manner", "_law_total"] (sp S__law_row) := by
  have sc := sc__law_row
  refine ok_pure F sc (fun _ => rfl) fun cdv A outer s H E hr => ⟨_, pss_cons (ps_set (i := 5) sc.nd rfl (.inl rfl) (pe_tup (pa_nil))) (pss_cons (ps_for PassesOwn.never rfl (pi_range1 rfl (G.gfree "range" (by decide +kernel)) (pa_cons (pe_var (i := 4) rfl (.inl rfl)) (pa_nil))) (pg_name (i := 6) sc.nd rfl (.inl rfl)) (pss_cons (ps_set (i := 7) sc.nd rfl (.inl rfl) (pe_D D__law_pick (hr.mono (by decide)) rfl pass_none (pa_cons (pe_var (i := 0) rfl (.inl rfl)) (pa_cons (pe_D D__law_rounds (hr.mono (by decide)) rfl pass_none (pa_cons (pe_var (i := 1) rfl (.inl rfl)) (pa_cons (pe_ix ix_seq (pe_var (i := 2) rfl (.inl rfl)) (pe_int) (fun _ _ => rfl)) (pa_nil)))) (pa_nil))))) (pss_one (ps_par (i := 5) (j := 2) rfl sc.nd rfl rfl (by decide) rfl rfl (pa_cons (pe_op op_catA (pe_var (i := 5) rfl (.inl rfl)) (pe_tup (pa_cons (pe_var (i := 7) rfl (.inl rfl)) (pa_nil)))) (pa_cons (pe_ix ix_seq (pe_D D__law_done (hr.mono (by decide)) rfl pass_none (pa_cons (pe_var (i := 3) rfl (.inl rfl)) (pa_cons (pe_var (i := 2) rfl (.inl rfl)) (pa_cons (pe_var (i := 7) rfl (.inl rfl)) (pa_nil))))) (pe_int) (fun _ _ => rfl)) (pa_nil))) (by rfl))))) (pss_one (ps_ret (pe_var (i := 5) rfl (.inl rfl))))), fun (i : (Addr × Addr) × Nat × (Wld × Std × Rul × Nat)) hp => ?_⟩
  obtain ⟨p, b, w, s0, r, tot⟩ := i
  obtain ⟨hd, hb, hw, hrl, hs0, ht⟩ := (show DrawAt H p b ∧ b ≤ 600000000 ∧ w.ok ∧ r.ok ∧ s0.ok r ∧ tot ≤ 3 from hp)
  refine go_seq (go_set ?_)
  repeat walk_at "k2"
  refine go_seq (go_forR1 ?_)
  repeat walk_at "k2"
  refine ⟨(show -(2 ^ 62) ≤ ((tot : Nat) : Int) ∧ ((tot : Nat) : Int) < 2 ^ 62 from ⟨by omega, by omega⟩), fun j ρ H3 => Fr [p.1] H H3 ∧ DrawAt H3 p (b + j) ∧ ∃ rs s k one, Good w r s0 rs s ∧ rs.length = j ∧ s.ok r ∧ ρ = [some (.o (.ref p.1)), some (.d w.enc), some (.d s.enc), some (.d (encR r)), some (.d (.int (tot : Nat))), some (.d (.tuple (rs.map rde))), k, one],
    ⟨Fr.refl _, hd, [], s0, none, none, Good.nil _ _ _, rfl, hs0, rfl⟩, fun j ρ2 H3 hj hJ => ?_, fun ρ2 H3 hJ => ?_⟩
  · obtain ⟨f3, d3, rs, s, k, one, g, hl, hs, rfl⟩ := hJ
    have hj' : j < tot := by have q : j < ((tot : Nat) : Int).toNat := hj; omega
    refine wg_name (go_seq (go_set ?_))
    repeat walk_at "k2"
    refine lcs_rounds hw fun H4 e4 => ?_
    repeat walk_at "k2"
    refine cs_pick (d3.same e4) (by omega) (by rw [List.length_map]; exact roundsOf_pos hw) (by rw [List.length_map]; exact Nat.le_trans (roundsOf_len _ _ hw) (by decide)) fun z H5 f5 d5 hz => ?_
    obtain ⟨q, hq, rfl⟩ := List.mem_map.mp hz
    have hq := roundsOf_mem hq
    have hs2 := (stepped_ok (dr := q.1) (er := q.2) hrl hs).1
    refine go_par ?_
    repeat walk_at "k2"
    refine o2_catT (by simp; omega) ?_
    repeat walk_at "k2"
    refine lcs_done hrl hs fun H6 e6 => ?_
    repeat walk_at "k2"
    have er : rs.map rde ++ [rde q] = (rs ++ [q]).map rde := by rw [List.map_append]; rfl
    rw [er]
    exact ⟨((f3.trans e4.frq).trans f5).trans e6.frq, d5.same e6, rs ++ [q], (stepped r s q.1 q.2).2.2.2, _, _, g.app (Good.one hq), by rw [List.length_append, hl]; rfl, hs2, rfl⟩
  · obtain ⟨f3, d3, rs, s, k, one, g, hl, hs, rfl⟩ := hJ
    have hl : rs.length = tot := by have q : rs.length = ((tot : Nat) : Int).toNat := hl; omega
    refine go_next (go_ret (w_var rfl ?_))
    exact rt_fr f3 fun H4 e4 => ⟨(d3.same e4).mono (by show b + ((tot : Nat) : Int).toNat ≤ b + 3; omega), rs, s, rfl, hl, g, hs⟩
omit G in
theorem sc__law_mode : FnScope ["_law_draw", "_law_modes", "_law_wide", "_law_cuts", "_law_here", "_law_k", "_law_entries", "_law_miss"] ["_law_draw", "_law_modes", "_law_wide"] (defScope (top 55)) := ⟨rfl, rfl, rfl, by decide +kernel, rfl, by decide +kernel, by decide +kernel⟩
theorem ok__law_mode (D__law_next : DefOk P w K mg base 1 "_law_next" ["_law_draw", "_law_total"] S__law_next) (D__law_pick : DefOk P w K mg base 2 "_law_pick" ["_law_draw", "_law_some"] S__law_pick) (D__law_deed : DefOk P w K mg base 3 "_law_deed" ["_law_draw", "_law_wide"] S__law_deed) (F : FnP K "_law_mode" "_law_mode" (top 55) [] f fd) : FnOk P w K mg base (L2.CX P w) 4 f fd ["_law_draw", "_law_modes", "_law_wide"] (sp S__law_mode) := by
  have sc := sc__law_mode
  refine ok_pure F sc (fun _ => rfl) fun cdv A outer s H E hr => ⟨_, pss_cons (ps_par (i := 3) (j := 4) rfl sc.nd rfl rfl (by decide) rfl rfl (pa_cons (pe_lst (pa_nil)) (pa_cons (pe_op op_sub (pe_int) (pe_D D__law_next (hr.mono (by decide)) rfl pass_none (pa_cons (pe_var (i := 0) rfl (.inr (.inl rfl))) (pa_cons (pe_op op_mul (pe_int) (pe_var (i := 2) rfl (.inr (.inl rfl)))) (pa_nil))))) (pa_nil))) (by rfl)) (pss_cons (ps_for PassesOwn.never rfl (pi_range1 rfl (G.gfree "range" (by decide +kernel)) (pa_cons (pe_D D__law_next (hr.mono (by decide)) rfl pass_none (pa_cons (pe_var (i := 0) rfl (.inr (.inl rfl))) (pa_cons (pe_int) (pa_nil)))) (pa_nil))) (pg_name (i := 5) sc.nd rfl (.inl rfl)) (pss_cons (ps_expr (pe_bm PySem.F.plainAttrs_list PySem.F.slot_list_append PySem.F.type_list_append mt_append (pe_var (i := 3) rfl (.inl rfl)) (pa_cons (pe_var (i := 4) rfl (.inl rfl)) (pa_nil)))) (pss_one (ps_set (i := 4) sc.nd rfl (.inl rfl) (pe_op op_add (pe_op op_add (pe_var (i := 4) rfl (.inl rfl)) (pe_int)) (pe_D D__law_next (hr.mono (by decide)) rfl pass_none (pa_cons (pe_var (i := 0) rfl (.inr (.inl rfl))) (pa_cons (pe_op op_mul (pe_int) (pe_var (i := 2) rfl (.inr (.inl rfl)))) (pa_nil))))))))) (pss_cons (ps_set (i := 6) sc.nd rfl (.inl rfl) (pe_callTy call_tuple_of rfl (G.gfree "tuple" (by decide +kernel)) (by decide +kernel) (pa_cons (pe_lc (own := [("_law_k", 5)]) (g := gName 5) (tt := tYes) rfl sc.nd (pi_range1 rfl (G.gfree "range" (by decide +kernel)) (pa_cons (pe_op op_add (pe_callB call_len_seq rfl (G.gfree "len" (by decide +kernel)) (by decide +kernel) (pa_cons (pe_var (i := 3) rfl (.inl rfl)) (pa_nil))) (pe_int)) (pa_nil))) (blkOk_by (own := [("_law_k", 5)]) (N := ["_law_draw", "_law_modes", "_law_wide", "_law_cuts", "_law_here", "_law_k", "_law_entries", "_law_miss"]) (sc := defScope (top 55)) (by decide +kernel)) (fun _ _ _ _ _ => pg_name (i := 5) sc.nd rfl (.inl rfl)) (fun _ _ _ _ _ => pts_nil) (fun _ _ _ _ _ => pe_tup (pa_cons (pe_D D__law_deed (hr.mono (by decide)) rfl pass_none (pa_cons (pe_var (i := 0) rfl (.inr (.inl rfl))) (pa_cons (pe_var (i := 2) rfl (.inr (.inl rfl))) (pa_nil)))) (pa_cons (pe_D D__law_next (hr.mono (by decide)) rfl pass_none (pa_cons (pe_var (i := 0) rfl (.inr (.inl rfl))) (pa_cons (pe_var (i := 1) rfl (.inr (.inl rfl))) (pa_nil)))) (pa_nil))))) (pa_nil)))) (pss_cons (ps_set (i := 7) sc.nd rfl (.inl rfl) (pe_D D__law_pick (hr.mono (by decide)) rfl pass_none (pa_cons (pe_var (i := 0) rfl (.inr (.inl rfl))) (pa_cons (pe_lst (pa_cons (pe_tup (pa_cons (pe_str) (pa_nil))) (pa_cons (pe_tup (pa_cons (pe_str) (pa_nil))) (pa_cons (pe_tup (pa_cons (pe_str) (pa_cons (pe_op op_sub (pe_D D__law_next (hr.mono (by decide)) rfl pass_none (pa_cons (pe_var (i := 0) rfl (.inr (.inl rfl))) (pa_cons (pe_int) (pa_nil)))) (pe_int)) (pa_nil)))) (pa_nil))))) (pa_nil))))) (pss_one (ps_ret (pe_tup (pa_cons (pe_callTy call_tuple_of rfl (G.gfree "tuple" (by decide +kernel)) (by decide +kernel) (pa_cons (pe_var (i := 3) rfl (.inl rfl)) (pa_nil))) (pa_cons (pe_var (i := 6) rfl (.inl rfl)) (pa_cons (pe_tup (pa_cons (pe_var (i := 7) rfl (.inl rfl)) (pa_cons (pe_D D__law_next (hr.mono (by decide)) rfl pass_none (pa_cons (pe_var (i := 0) rfl (.inr (.inl rfl))) (pa_cons (pe_var (i := 1) rfl (.inr (.inl rfl))) (pa_nil)))) (pa_nil)))) (pa_nil)))))))))), fun (i : (Addr × Addr) × Nat × Int) hp => ?_⟩
  obtain ⟨p, b, tot⟩ := i
  obtain ⟨hd, hb, ht0, ht1⟩ := (show DrawAt H p b ∧ b ≤ 700000000 ∧ 1 ≤ tot ∧ tot ≤ 3 from hp)
  refine go_seq (go_par (wa_cons (w_lstO ?_)))
  refine wa_nil ⟨Nat.le_of_ble_eq_true rfl, fun l vs H2 e2 hl2 hd2 hn2 => ?_⟩
  obtain rfl : vs = [] := by cases hd2; rfl
  repeat walk_at "k2"
  refine o2_iC (.inl ⟨by decide, by decide⟩) ?_
  repeat walk_at "k2"
  refine cs_next (hd.same e2) (by omega) (by decide) (by decide) fun n1 H3 f3 d3 n10 n11 => ?_
  repeat walk_at "k2"
  refine go_seq (go_forR1 ?_)
  repeat walk_at "k2"
  refine cs_next d3 (by omega) (by decide) (by decide) fun n2 H4 f4 d4 n20 n21 => ?_
  repeat walk_at "k2"
  have hl4 := f4.kp _ _ (f3.kp _ _ hl2 (.inr rfl)) (.inr rfl)
  refine ⟨⟨by omega, by omega⟩, fun j ρ H5 => Fr [p.1] H H5 ∧ DrawAt H5 p (b + 2 + j) ∧ ∃ (cs : List Int) (here : Int) (k : Option Dx), H5 l = some (.lst (cs.map V.int)) ∧ cs.length = j ∧ cs.Pairwise (· < ·) ∧ (∀ c ∈ cs, -11 ≤ c ∧ c < here) ∧ -11 ≤ here ∧ here ≤ 9 * j ∧ ρ = [some (.o (.ref p.1)), some (.d (.int tot)), some (.d (.int 3)), some (.o (.ref l)), some (.d (.int here)), k, none, none],
    ⟨(e2.frq.trans f3).trans f4, d4, [], 0 - n1, none, hl4, rfl, .nil, by simp, by omega, by omega, rfl⟩, fun j ρ2 H5 hj hJ => ?_, fun ρ2 H5 hJ => ?_⟩
  · obtain ⟨f5, d5, cs, here, k, hl5, hlen, pw, hc, h0, h1, rfl⟩ := hJ
    have hj' : j < 4 := by omega
    refine wg_name (go_seq (go_append (w_var rfl ⟨l, _, rfl, hl5, wa_cons (w_var rfl (wa_nil ⟨here, rfl, hl5, by rfl, by rw [List.length_map]; omega, ?_⟩))⟩)))
    have f6 : Fr [p.1] H (upd H5 l (.lst (cs.map V.int ++ [V.int here]))) := f5.updN hn2
    have d6 : DrawAt (upd H5 l (.lst (cs.map V.int ++ [V.int here]))) p (b + 2 + j) := hd.upd d5 hn2
    refine go_set ?_
    repeat walk_at "k2"
    refine o2_iC (.inl ⟨by decide, by decide⟩) ?_
    repeat walk_at "k2"
    refine cs_next d6 (by omega) (by decide) (by decide) fun n3 H7 f7 d7 n30 n31 => ?_
    repeat walk_at "k2"
    refine ⟨f6.trans f7, d7, cs ++ [here], here + 1 + n3, _, ?_, by rw [List.length_append, hlen]; rfl, ?_, ?_, by omega, by omega, rfl⟩
    · have q := f7.kp l _ (upd_same) (.inr rfl)
      rw [q, List.map_append]
      rfl
    · rw [List.pairwise_append]
      exact ⟨pw, List.pairwise_singleton _ _, fun c hc1 d hd1 => by rw [List.mem_singleton] at hd1; subst hd1; exact (hc c hc1).2⟩
    · intro c hc1
      rcases List.mem_append.mp hc1 with hc1 | hc1
      · have := hc c hc1
        omega
      · rw [List.mem_singleton] at hc1
        subst hc1
        omega
  · obtain ⟨f5, d5, cs, here, k, hl5, hlen, pw, hc, h0, h1, rfl⟩ := hJ
    refine go_next (go_seq (go_set (w_cb (wa_cons (w_lcR ?_)))))
    repeat walk_at "k2"
    refine oa_lenO hl5 ?_
    repeat walk_at "k2"
    have hlen : cs.length = n2.toNat := hlen
    have hc3 : cs.length ≤ 3 := by omega
    have d5 : DrawAt H5 p (b + 5) := d5.mono (by show b + 2 + n2.toNat ≤ b + 5; omega)
    refine ⟨by rw [List.length_map]; omega, fun i acc H6 => Fr [p.1] H5 H6 ∧ DrawAt H6 p (b + 5 + 5 * i) ∧ ∃ es : List Ent, acc = es.map Ent.enc ∧ es.length = i ∧ ∀ e ∈ es, e.ok tot,
      ⟨Fr.refl _, d5, [], rfl, rfl, by simp⟩, fun i acc H6 D o hD hJ => ⟨hJ.1.updN hD, d5.upd hJ.2.1 hD, hJ.2.2⟩, fun i acc H6 hi hla hJ => tw1 ?_, fun acc H6 hla hJ => ?_⟩
    · obtain ⟨f6, d6, es, rfl, el, eo⟩ := hJ
      have hi' : i < 4 := by rw [List.length_map] at hi; omega
      refine wt_yes ⟨fun _ => ?_, fun z => by cases z⟩
      repeat walk_at "k2"
      refine cs_deed d6 (by omega) fun dd H7 f7 d7 hdd => ?_
      repeat walk_at "k2"
      refine cs_next d7 (by omega) (show 0 < tot by omega) (show tot < 1073741824 by omega) fun n3 H8 f8 d8 n30 n31 => ?_
      repeat walk_at "k2"
      refine ⟨noL_E ⟨dd, n3⟩, (f6.trans f7).trans f8, d8.mono (by omega), es ++ [⟨dd, n3⟩], by rw [List.map_append]; rfl, by rw [List.length_append, el]; rfl, fun e he => ?_⟩
      rcases List.mem_append.mp he with he | he
      · exact eo e he
      · rw [List.mem_singleton] at he
        subst he
        exact ⟨hdd, n30, by show n3 ≤ tot - 1; omega⟩
    · obtain ⟨f6, d6, es, rfl, el, eo⟩ := hJ
      have el : es.length = cs.length + 1 := by rw [el, List.length_map]; omega
      have d6 : DrawAt H6 p (b + 25) := d6.mono (by rw [List.length_map]; omega)
      have hl6 := f6.kp _ _ hl5 (.inr rfl)
      refine wa_nil (oa_tupL ?_)
      refine go_seq (go_set ?_)
      repeat walk_at "k2"
      refine cs_next d6 (by omega) (by decide) (by decide) fun n3 H7 f7 d7 n30 n31 => ?_
      repeat walk_at "k2"
      refine cs_pick d7 (by omega) (Nat.le_of_ble_eq_true rfl) (Nat.le_of_ble_eq_true rfl) fun z H8 f8 d8 hz => ?_
      obtain ⟨md, rfl, mo, ms⟩ : ∃ d : Deed, z = d.enc ∧ d.ok ∧ d.still := by
        rcases List.mem_cons.mp hz with rfl | hz
        · exact ⟨.hold, rfl, trivial, trivial⟩
        rcases List.mem_cons.mp hz with rfl | hz
        · exact ⟨.hold, rfl, trivial, trivial⟩
        rcases List.mem_cons.mp hz with rfl | hz
        · exact ⟨.shift (n3 - 1), rfl, ⟨by omega, by omega⟩, trivial⟩
        · cases hz
      have hl8 := (f7.trans f8).kp _ _ hl6 (.inr rfl)
      refine go_ret (w_tup (wa_cons (w_cb (wa_cons (w_var rfl (wa_nil (oa_tupO hl8 (DqAll.ofInts cs) ?_)))))))
      repeat walk_at "k2"
      refine cs_next d8 (by omega) (show 0 < tot by omega) (show tot < 1073741824 by omega) fun n4 H9 f9 d9 n40 n41 => ?_
      repeat walk_at "k2"
      exact rt_fr ((((f5.trans f6).trans f7).trans f8).trans f9) fun H10 e10 => ⟨(d9.same e10).mono (by show b + 25 + 1 + 1 + 1 ≤ b + 28; omega), ⟨cs, es, ⟨md, n4⟩⟩, rfl, ⟨by show cs.length ≤ 4; omega, fun c hc1 => by have := hc c hc1; have : here ≤ 9 * ((n2.toNat : Nat) : Int) := h1; omega, pw, el, eo, ⟨mo, n40, by show n4 ≤ tot - 1; omega⟩, ms⟩⟩
omit G in
theorem sc__law_rule : FnScope ["_law_draw", "_law_modes", "_law_wide", "_law_total", "_law_k"] ["_law_draw", "_law_modes", "_law_wide"] (defScope (top 56)) := ⟨rfl, rfl, rfl, by decide +kernel, rfl, by decide +kernel, by decide +kernel⟩
theorem ok__law_rule (D__law_next : DefOk P w K mg base 1 "_law_next" ["_law_draw", "_law_total"] S__law_next) (D__law_mode : DefOk P w K mg base 4 "_law_mode" ["_law_draw", "_law_modes", "_law_wide"] S__law_mode) (F : FnP K "_law_rule" "_law_rule" (top 56) [] f fd) : FnOk P w K mg base (L2.CX P w) 5 f fd ["_law_draw", "_law_modes", "_law_wide"] (sp S__law_rule) := by
  have sc := sc__law_rule
  refine ok_pure F sc (fun _ => rfl) fun cdv A outer s H E hr => ⟨_, pss_cons (ps_set (i := 3) sc.nd rfl (.inr rfl) (pe_op op_add (pe_int) (pe_D D__law_next (hr.mono (by decide)) rfl pass_none (pa_cons (pe_var (i := 0) rfl (.inr (.inl rfl))) (pa_cons (pe_var (i := 1) rfl (.inl rfl)) (pa_nil)))))) (pss_one (ps_ret (pe_callTy call_tuple_of rfl (G.gfree "tuple" (by decide +kernel)) (by decide +kernel) (pa_cons (pe_lc (own := [("_law_k", 4)]) (g := gName 4) (tt := tYes) rfl sc.nd (pi_range1 rfl (G.gfree "range" (by decide +kernel)) (pa_cons (pe_var (i := 3) rfl (.inr (.inl rfl))) (pa_nil))) (blkOk_by (own := [("_law_k", 4)]) (N := ["_law_draw", "_law_modes", "_law_wide", "_law_total", "_law_k"]) (sc := defScope (top 56)) (by decide +kernel)) (fun _ _ _ _ _ => pg_name (i := 4) sc.nd rfl (.inl rfl)) (fun _ _ _ _ _ => pts_nil) (fun _ _ _ _ _ => pe_D D__law_mode (hr.mono (by decide)) rfl pass_none (pa_cons (pe_var (i := 0) rfl (.inr (.inl rfl))) (pa_cons (pe_var (i := 3) rfl (.inr (.inl rfl))) (pa_cons (pe_var (i := 2) rfl (.inr (.inl rfl))) (pa_nil)))))) (pa_nil))))), fun (i : (Addr × Addr) × Nat × Unit) hp => ?_⟩
  obtain ⟨p, b, ⟨⟩⟩ := i
  obtain ⟨hd, hb⟩ := (show DrawAt H p b ∧ b ≤ 600000000 from hp)
  refine go_seq (go_set ?_)
  repeat walk_at "k2"
  refine cs_next hd (by omega) (by decide) (by decide) fun n1 H3 f3 d3 n10 n11 => ?_
  repeat walk_at "k2"
  refine w_lcR ?_
  repeat walk_at "k2"
  refine ⟨⟨by omega, by omega⟩, fun i acc H6 => Fr [p.1] H3 H6 ∧ DrawAt H6 p (b + 1 + 28 * i) ∧ ∃ es : List Mod, acc = es.map Mod.enc ∧ es.length = i ∧ ∀ e ∈ es, e.ok (1 + n1),
    ⟨Fr.refl _, d3, [], rfl, rfl, by simp⟩, fun i acc H6 D o hD hJ => ⟨hJ.1.updN hD, d3.upd hJ.2.1 hD, hJ.2.2⟩, fun i acc H6 hi hla hJ => tw1 ?_, fun acc H6 hla hJ => ?_⟩
  · obtain ⟨f6, d6, es, rfl, el, eo⟩ := hJ
    have hi' : i < 2 := by omega
    refine wt_yes ⟨fun _ => ?_, fun z => by cases z⟩
    repeat walk_at "k2"
    refine cs_lmode d6 (by omega) (by omega) (by omega) fun dd H7 f7 d7 hdd => ?_
    refine ⟨_, rfl, noL_M dd, f6.trans f7, d7.mono (by omega), es ++ [dd], by rw [List.map_append]; rfl, by rw [List.length_append, el]; rfl, fun e he => ?_⟩
    rcases List.mem_append.mp he with he | he
    · exact eo e he
    · rw [List.mem_singleton] at he
      subst he
      exact hdd
  · obtain ⟨f6, d6, es, rfl, el, eo⟩ := hJ
    refine wa_nil (oa_tupL ?_)
    have e1 : ((es.length : Nat) : Int) = 1 + n1 := by omega
    exact rt_fr (f3.trans f6) fun H10 e10 => ⟨(d6.same e10).mono (by show b + 1 + 28 * (1 + n1).toNat ≤ b + 57; omega), es, rfl, ⟨by omega, by omega, fun m hm => by rw [e1]; exact eo m hm⟩⟩
end
end K2

set_option Elab.async false
set_option linter.all false
set_option maxRecDepth 100000
set_option pp.deepTerms false
set_option pp.deepTerms.threshold 10
set_option maxHeartbeats 4000000
namespace K2
open PySem L2 PySem.Spec PyProof.Rows StX RZ
local macro_rules | `(tactic| walk_at "k2") => `(tactic| first
  | with_reducible refine w_var rfl ?_
  | with_reducible refine w_int ?_
  | with_reducible refine w_bl ?_
  | with_reducible refine w_non ?_
  | with_reducible refine w_str ?_
  | with_reducible refine w_o ?_
  | with_reducible refine wa_cons ?_
  | with_reducible refine wa_nil ?_
  | with_reducible refine w_op ?_
  | with_reducible refine w_un ?_
  | with_reducible refine w_cb ?_
  | with_reducible refine w_call0 ?_
  | with_reducible refine w_chain ?_
  | with_reducible refine w_tup ?_
  | with_reducible refine w_lst ?_
  | with_reducible refine w_andV ?_
  | with_reducible refine w_orV ?_
  | with_reducible refine w_notV ?_
  | with_reducible refine w_if ?_
  | with_reducible refine wt_test ?_
  | with_reducible refine wt_B ?_
  | with_reducible refine wt_and ?_
  | with_reducible refine wt_or ?_
  | with_reducible refine wt_not ?_
  | with_reducible refine go_seq ?_
  | with_reducible refine go_ret ?_
  | with_reducible refine go_retN ?_
  | with_reducible refine go_set ?_
  | with_reducible refine go_par ?_
  | with_reducible refine go_par3 ?_
  | with_reducible refine go_asg ?_
  | with_reducible refine go_next ?_
  | with_reducible refine go_if ?_
  | with_reducible refine o2_ii ?_
  | with_reducible refine o2_ib ?_
  | with_reducible refine o1_i ?_
  | with_reducible refine o2_isN ?_
  | with_reducible refine o2_notN ?_
  | with_reducible refine oa_isiI ?_
  | with_reducible refine oa_isiB ?_
  | with_reducible refine oa_isiT ?_
  | with_reducible refine oa_isiS ?_
  | with_reducible refine oa_abs ?_
  | with_reducible refine oa_max ?_
  | with_reducible refine oa_min ?_
  | with_reducible refine oa_len ?_
  | with_reducible refine oa_lenL ?_
  | with_reducible refine oa_intB ?_
  | refine ⟨[_, _], rfl, Nat.le_of_ble_eq_true rfl, ?_⟩
  | refine ⟨[_, _, _], rfl, Nat.le_of_ble_eq_true rfl, ?_⟩
  | refine ⟨[_, _, _, _], rfl, Nat.le_of_ble_eq_true rfl, ?_⟩
  | refine ⟨[_], rfl, Nat.le_of_ble_eq_true rfl, ?_⟩
  | refine ⟨[], rfl, Nat.le_of_ble_eq_true rfl, ?_⟩)

local macro_rules | `(tactic| walk_at "k2") => `(tactic| first
  | with_reducible refine ex_b ?_
  | refine both_t rfl ?_
  | refine both_f rfl ?_
  | refine both_f2 rfl ?_
  | refine both_t2 rfl ?_
  | with_reducible refine cs_is_integer fun _ _ => ?_
  | with_reducible refine cs_is_whole fun _ _ => ?_
  | refine oa_len ?_
  | refine oa_lenL ?_
  | refine o2_ixT rfl ?_
  | refine o2_ixL rfl ?_
  | refine o2_in rfl rfl ?_
  | refine o2_eqI ?_
  | refine o2_neI ?_
  | refine o2_eqS (by decide +kernel) (by decide +kernel) ?_
  | refine o2_neS (by decide +kernel) (by decide +kernel) ?_
  | refine o2_eqD (Deed.shp _).ok rfl ?_
  | refine both_t (by decide +kernel) ?_
  | refine both_f (by decide +kernel) ?_
  | refine both_f2 (by decide +kernel) ?_
  | refine both_t2 (by decide +kernel) ?_
  | with_reducible refine w_slT ?_
  | with_reducible refine wg_name ?_
  | with_reducible refine wgs_cons ?_
  | with_reducible refine wgs_nil ?_
  | refine o2_ii ?_
  | refine o2_ib ?_
  | refine o2_isN ?_
  | refine o2_notN ?_
  | refine wg_tup rfl ?_
  | refine wgs_cons ?_
  | refine wgs_nil ?_
  | with_reducible refine w_slL ?_
  | with_reducible refine wo_no ?_
  | with_reducible refine wo_some ?_
  | with_reducible refine ⟨_, _, rfl, rfl, ?_⟩
  | with_reducible refine ⟨_, rfl, ?_⟩
  | with_reducible refine ⟨_, _, rfl, ?_⟩
  | with_reducible refine ⟨_, _, _, rfl, ?_⟩)
local macro_rules | `(tactic| walk_at "same") => `(tactic| ((repeat (first | exact Same.refl _ | assumption | refine Same.trans ?_ (by assumption)))))

local macro_rules | `(tactic| walk_at "k3") => `(tactic| first
  | walk_at "k2"
  | refine both_t (by first | (simp; done) | (simp; omega)) ?_
  | refine both_f (by first | (simp; done) | (simp; omega)) ?_
  | refine both_f2 (by first | (simp; done) | (simp; omega)) ?_
  | refine both_t2 (by first | (simp; done) | (simp; omega)) ?_
  | refine go_next ?_
  | refine go_drop ?_)
theorem w_begin {Γ : List Gh} {ρ : Rho} {H : Hp} {R : PX} {tv : TE} (ns : List Int) (h : ∀ H1, Same H H1 → W Γ tv ρ H1 fun x H2 => Same H1 H2 ∧ x = .d (.list (ns.map .int))) (k : ∀ p l H2, Same H H2 → DrS H2 p l ns 0 0 0 → R (.o (.ref p)) H2) :
    W Γ (tDisp [(tC (.str "cells"), tv), (tC (.str "at"), tC (.int 0)), (tC (.str "left"), tC (.int 0)), (tC (.str "used"), tC (.int 0))]) ρ H R := fun σ H' e s Q q => by
  intro p hp
  have sm : Same H' (upd H' p (.dK [])) := Same.new hp
  refine h (upd H' p (.dK [])) (e.trans sm) σ _ (Same.refl _) (s.ft sm.ftq) _ fun x v H1 H'' hx e1 f1 d1 => ?_
  obtain ⟨e2, rfl⟩ := hx
  cases d1 with
  | @lst l vs _ hl hds =>
    obtain rfl := hds.ints
    have hp2 : H'' p = some (.dK []) := e1 _ _ (e2 _ _ upd_same)
    refine ⟨hp2, [(.inr "cells", .ref l), (.inr "at", .int 0), (.inr "left", .int 0), (.inr "used", .int 0)], rfl, Nat.le_of_ble_eq_true rfl, ?_⟩
    have hlp : l ≠ p := fun z => by rw [z, hp2] at hl; cases hl
    have fin : Same H' (upd H'' p (.dK (mergeK [] [((.inr "cells" : Key), V.ref l), (.inr "at", .int 0), (.inr "left", .int 0), (.inr "used", .int 0)]))) := fun b o hb => by
      rw [upd_ne (ne_of_none hb hp)]
      exact e1 _ _ (e2 _ _ (sm _ _ hb))
    refine q _ _ _ _ (k p l _ (e.trans fin) ⟨upd_same, ?_⟩) (Same.refl _) fin.ftq rfl
    rw [upd_ne hlp]
    exact hl
def S__law_begin (K : PySem.W.Frag) : Spc where
  ι := Addr × List Int
  args i := [.o (.ref i.1)]
  pre i H := SqL K H i.1 (i.2.map .int) ∧ i.2.length ≤ 1000
  mod _ := []
  post i x H := ∃ d l, x = .o (.ref d) ∧ DrawAt H (d, l) 0
section
variable {P : Program} {w : World} {K : PySem.W.Frag} {mg : Str → Option Value} {base : Heap} {f : Addr} {fd : FuncData} (G : GF mg)
include G
omit G in
theorem sc__law_begin : FnScope ["_law_script"] ["_law_script"] (defScope (top 51)) := ⟨rfl, rfl, rfl, by decide +kernel, rfl, by decide +kernel, by decide +kernel⟩
theorem ok__law_begin  (F : FnP K "_law_begin" "_law_begin" (top 51) [] f fd) : FnOk P w K mg base (L2.CX P w) 1 f fd ["_law_script"] (sp (S__law_begin K)) := by
  have sc := sc__law_begin
  refine ok_pure F sc (fun _ => rfl) fun cdv A outer s H E hr => ⟨_, pss_one (ps_ret (pe_disp (pps_cons (pe_str) (pe_op op_catS (pe_var (i := 0) rfl (.inl rfl)) (pe_lst (pa_cons (pe_int) (pa_nil)))) (pps_cons (pe_str) (pe_int) (pps_cons (pe_str) (pe_int) (pps_cons (pe_str) (pe_int) (pps_nil))))) rfl rfl (List.cons_ne_nil _ _) (by decide))), fun (i : Addr × List Int) hp => ?_⟩
  obtain ⟨a, ns⟩ := i
  obtain ⟨hs, hl⟩ := (show SqL K H a (ns.map .int) ∧ ns.length ≤ 1000 from hp)
  refine go_ret (w_begin (ns ++ [0]) (fun H1 e1 => ?_) fun p l H2 e2 hd => ?_)
  · repeat walk_at "k2"
    refine o2_catS (fun H' e' => SqL.same hs (e1.trans e')) (fun H' => DqAll.ofInts ns) (by simp; omega) ?_
    refine ⟨Same.refl _, ?_⟩
    rw [List.map_append]
    rfl
  · exact rt_fr e2.frq fun H3 e3 => ⟨p, l, rfl, _, _, _, _, hd.same e3, by simp, Int.le_refl 0, Int.le_refl 0⟩
end
end K2

set_option Elab.async false
set_option linter.all false
set_option maxRecDepth 100000
set_option pp.deepTerms false
set_option pp.deepTerms.threshold 10
set_option maxHeartbeats 4000000
namespace K2
open PySem L2 PySem.Spec PyProof.Rows StX RZ
local macro_rules | `(tactic| walk_at "k2") => `(tactic| first
  | with_reducible refine w_var rfl ?_
  | with_reducible refine w_int ?_
  | with_reducible refine w_bl ?_
  | with_reducible refine w_non ?_
  | with_reducible refine w_str ?_
  | with_reducible refine w_o ?_
  | with_reducible refine wa_cons ?_
  | with_reducible refine wa_nil ?_
  | with_reducible refine w_op ?_
  | with_reducible refine w_un ?_
  | with_reducible refine w_cb ?_
  | with_reducible refine w_call0 ?_
  | with_reducible refine w_chain ?_
  | with_reducible refine w_tup ?_
  | with_reducible refine w_lst ?_
  | with_reducible refine w_andV ?_
  | with_reducible refine w_orV ?_
  | with_reducible refine w_notV ?_
  | with_reducible refine w_if ?_
  | with_reducible refine wt_test ?_
  | with_reducible refine wt_B ?_
  | with_reducible refine wt_and ?_
  | with_reducible refine wt_or ?_
  | with_reducible refine wt_not ?_
  | with_reducible refine go_seq ?_
  | with_reducible refine go_ret ?_
  | with_reducible refine go_retN ?_
  | with_reducible refine go_set ?_
  | with_reducible refine go_par ?_
  | with_reducible refine go_par3 ?_
  | with_reducible refine go_asg ?_
  | with_reducible refine go_next ?_
  | with_reducible refine go_if ?_
  | with_reducible refine o2_ii ?_
  | with_reducible refine o2_ib ?_
  | with_reducible refine o1_i ?_
  | with_reducible refine o2_isN ?_
  | with_reducible refine o2_notN ?_
  | with_reducible refine oa_isiI ?_
  | with_reducible refine oa_isiB ?_
  | with_reducible refine oa_isiT ?_
  | with_reducible refine oa_isiS ?_
  | with_reducible refine oa_abs ?_
  | with_reducible refine oa_max ?_
  | with_reducible refine oa_min ?_
  | with_reducible refine oa_len ?_
  | with_reducible refine oa_lenL ?_
  | with_reducible refine oa_intB ?_
  | refine ⟨[_, _], rfl, Nat.le_of_ble_eq_true rfl, ?_⟩
  | refine ⟨[_, _, _], rfl, Nat.le_of_ble_eq_true rfl, ?_⟩
  | refine ⟨[_, _, _, _], rfl, Nat.le_of_ble_eq_true rfl, ?_⟩
  | refine ⟨[_], rfl, Nat.le_of_ble_eq_true rfl, ?_⟩
  | refine ⟨[], rfl, Nat.le_of_ble_eq_true rfl, ?_⟩)
/-! ## pairs -/
structure Nw where
  rs : List Rnd
  st : Std
  df : List Int
def Nw.enc (n : Nw) : PyData := .tuple [.tuple (n.rs.map rde), n.st.enc, .tuple (n.df.map .int)]
structure PSt where
  w : Wld
  r : Rul
  b : Int
  now : Nw
  past : List Nw
  coming : List Nw
def encN5 (l : List Nw) : PyData := .tuple (l.map Nw.enc)
/-- a pair's fields -/
def PairD (H : Hp) (p C : Addr) (d1 d2 d3 d4 d5 d6 : PyData) : Prop := ∃ dx v1 v2 v3 v4 v5 v6, H p = some (.ins C dx [("own_world", v1), ("own_rule", v2), ("begin", v3), ("now", v4), ("past", v5), ("coming", v6)]) ∧ Dq H v1 d1 ∧ Dq H v2 d2 ∧ Dq H v3 d3 ∧ Dq H v4 d4 ∧ Dq H v5 d5 ∧ Dq H v6 d6
abbrev PairAt (H : Hp) (p C : Addr) (s : PSt) : Prop := PairD H p C s.w.enc (encR s.r) (.int s.b) s.now.enc (encN5 s.past) (encN5 s.coming)
section
variable {H H' : Hp} {p C q : Addr} {d1 d2 d3 d4 d5 d6 d : PyData}
theorem PairD.same (h : PairD H p C d1 d2 d3 d4 d5 d6) (e : Same H H') : PairD H' p C d1 d2 d3 d4 d5 d6 := by
  obtain ⟨dx, v1, v2, v3, v4, v5, v6, h, h1, h2, h3, h4, h5, h6⟩ := h
  have f := e.ftq
  exact ⟨dx, v1, v2, v3, v4, v5, v6, e _ _ h, ft_dp f _ _ h1, ft_dp f _ _ h2, ft_dp f _ _ h3, ft_dp f _ _ h4, ft_dp f _ _ h5, ft_dp f _ _ h6⟩
theorem PairD.fr (h : PairD H p C d1 d2 d3 d4 d5 d6) (e : Fr [q] H H') (hq : p ≠ q) : PairD H' p C d1 d2 d3 d4 d5 d6 := by
  obtain ⟨dx, v1, v2, v3, v4, v5, v6, h, h1, h2, h3, h4, h5, h6⟩ := h
  have f := e.ft
  exact ⟨dx, v1, v2, v3, v4, v5, v6, e.kp _ _ h (.inl (by simpa using hq)), ft_dp f _ _ h1, ft_dp f _ _ h2, ft_dp f _ _ h3, ft_dp f _ _ h4, ft_dp f _ _ h5, ft_dp f _ _ h6⟩
theorem PairD.ins (h : PairD H p C d1 d2 d3 d4 d5 d6) : ∃ dx fs, H p = some (.ins C dx fs) := by
  obtain ⟨dx, v1, v2, v3, v4, v5, v6, h, _⟩ := h
  exact ⟨_, _, h⟩
theorem PairD.noMeth {m : Str} (h : PairD H p C d1 d2 d3 d4 d5 d6) (hm : ∀ f ∈ (["own_world", "own_rule", "begin", "now", "past", "coming"] : List Str), f ≠ m) : ∃ dx fs, H p = some (.ins C dx fs) ∧ fs.lookup m = none := by
  obtain ⟨dx, v1, v2, v3, v4, v5, v6, h, _⟩ := h
  refine ⟨_, _, h, ?_⟩
  have n : ∀ f ∈ (["own_world", "own_rule", "begin", "now", "past", "coming"] : List Str), (m == f) = false := fun f hf => by
    have := hm f hf
    exact beq_false_of_ne fun z => this z.symm
  simp only [List.lookup]
  rw [n _ (by simp), n _ (by simp), n _ (by simp), n _ (by simp), n _ (by simp), n _ (by simp)]
end
/-- what the class says -/
structure PairK (K : PySem.W.Frag) (mg : Str → Option Value) (C : Addr) : Prop where
  cls : Cls K C
  na : ∀ f ∈ (["own_world", "own_rule", "begin", "now", "past", "coming"] : List Str), NoAttr K C f
  mgC : mg "Pair" = some (.ref C)
  kp : PySem.W.keepIn K (.ref C) = true
  isC : C8.InsC K C
  isI : PySem.W.kitOne K (.type "int") (.ref C) = some false
  sf : PySem.W.selfFirst K C = true
  nf : PySem.W.notFirst K C (.type "int") = true
  ne : PySem.W.findIn K (.ref C) "__ne__" = some (some (.builtin "object.__ne__"))
  ob : PySem.W.mroIn K C (.type "object") = some true
section
variable {Γ : List Gh} {ρ : Rho} {H : Hp} {R : PX} {te tv : TE} {K : PySem.W.Frag} {mg : Str → Option Value} {C : Addr} {EE : EX}
theorem w_pown_world (PK : PairK K mg C) (h : W Γ te ρ H fun x H1 => ∃ p d1 d2 d3 d4 d5 d6, x = .o (.ref p) ∧ PairD H1 p C d1 d2 d3 d4 d5 d6 ∧ R (.d d1) H1) : W Γ (tFld K te "own_world") ρ H R := w_fld (h.imp fun x H1 k => by
  obtain ⟨p, d1, d2, d3, d4, d5, d6, rfl, ⟨dx, v1, v2, v3, v4, v5, v6, hp, h1, h2, h3, h4, h5, h6⟩, k⟩ := k
  exact ⟨p, dx, _, v1, .d d1, rfl, hp, PK.cls, PK.na _ (by simp), rfl, h1, k⟩)
theorem w_pown_rule (PK : PairK K mg C) (h : W Γ te ρ H fun x H1 => ∃ p d1 d2 d3 d4 d5 d6, x = .o (.ref p) ∧ PairD H1 p C d1 d2 d3 d4 d5 d6 ∧ R (.d d2) H1) : W Γ (tFld K te "own_rule") ρ H R := w_fld (h.imp fun x H1 k => by
  obtain ⟨p, d1, d2, d3, d4, d5, d6, rfl, ⟨dx, v1, v2, v3, v4, v5, v6, hp, h1, h2, h3, h4, h5, h6⟩, k⟩ := k
  exact ⟨p, dx, _, v2, .d d2, rfl, hp, PK.cls, PK.na _ (by simp), rfl, h2, k⟩)
theorem w_pbegin (PK : PairK K mg C) (h : W Γ te ρ H fun x H1 => ∃ p d1 d2 d3 d4 d5 d6, x = .o (.ref p) ∧ PairD H1 p C d1 d2 d3 d4 d5 d6 ∧ R (.d d3) H1) : W Γ (tFld K te "begin") ρ H R := w_fld (h.imp fun x H1 k => by
  obtain ⟨p, d1, d2, d3, d4, d5, d6, rfl, ⟨dx, v1, v2, v3, v4, v5, v6, hp, h1, h2, h3, h4, h5, h6⟩, k⟩ := k
  exact ⟨p, dx, _, v3, .d d3, rfl, hp, PK.cls, PK.na _ (by simp), rfl, h3, k⟩)
theorem w_pnow (PK : PairK K mg C) (h : W Γ te ρ H fun x H1 => ∃ p d1 d2 d3 d4 d5 d6, x = .o (.ref p) ∧ PairD H1 p C d1 d2 d3 d4 d5 d6 ∧ R (.d d4) H1) : W Γ (tFld K te "now") ρ H R := w_fld (h.imp fun x H1 k => by
  obtain ⟨p, d1, d2, d3, d4, d5, d6, rfl, ⟨dx, v1, v2, v3, v4, v5, v6, hp, h1, h2, h3, h4, h5, h6⟩, k⟩ := k
  exact ⟨p, dx, _, v4, .d d4, rfl, hp, PK.cls, PK.na _ (by simp), rfl, h4, k⟩)
theorem w_ppast (PK : PairK K mg C) (h : W Γ te ρ H fun x H1 => ∃ p d1 d2 d3 d4 d5 d6, x = .o (.ref p) ∧ PairD H1 p C d1 d2 d3 d4 d5 d6 ∧ R (.d d5) H1) : W Γ (tFld K te "past") ρ H R := w_fld (h.imp fun x H1 k => by
  obtain ⟨p, d1, d2, d3, d4, d5, d6, rfl, ⟨dx, v1, v2, v3, v4, v5, v6, hp, h1, h2, h3, h4, h5, h6⟩, k⟩ := k
  exact ⟨p, dx, _, v5, .d d5, rfl, hp, PK.cls, PK.na _ (by simp), rfl, h5, k⟩)
theorem w_pcoming (PK : PairK K mg C) (h : W Γ te ρ H fun x H1 => ∃ p d1 d2 d3 d4 d5 d6, x = .o (.ref p) ∧ PairD H1 p C d1 d2 d3 d4 d5 d6 ∧ R (.d d6) H1) : W Γ (tFld K te "coming") ρ H R := w_fld (h.imp fun x H1 k => by
  obtain ⟨p, d1, d2, d3, d4, d5, d6, rfl, ⟨dx, v1, v2, v3, v4, v5, v6, hp, h1, h2, h3, h4, h5, h6⟩, k⟩ := k
  exact ⟨p, dx, _, v6, .d d6, rfl, hp, PK.cls, PK.na _ (by simp), rfl, h6, k⟩)
theorem go_pnow (PK : PairK K mg C) (h : W Γ tv ρ H fun y H1 => W Γ te ρ H1 fun x H2 => ∃ p d d1 d2 d3 d4 d5 d6, y = .d d ∧ x = .o (.ref p) ∧ PairD H2 p C d1 d2 d3 d4 d5 d6 ∧ ∀ H3, Fr [p] H2 H3 → PairD H3 p C d1 d2 d3 d d5 d6 → EE.nx ρ H3) : Go Γ (sFld K te tv "now") EE ρ H := go_fld (h.imp fun y H1 k => k.imp fun x H2 k => by
  obtain ⟨p, d, d1, d2, d3, d4, d5, d6, rfl, rfl, ⟨dx, v1, v2, v3, v4, v5, v6, hp, h1, h2, h3, h4, h5, h6⟩, k⟩ := k
  refine ⟨p, dx, _, rfl, hp, PK.cls, PK.na _ (by simp), Nat.le_of_ble_eq_true rfl, fun w H3 e f hw dw => k H3 f ?_⟩
  have g := f.ft
  exact ⟨dx, v1, v2, v3, w, v5, v6, hw, ft_dp g _ _ h1, ft_dp g _ _ h2, ft_dp g _ _ h3, dw, ft_dp g _ _ h5, ft_dp g _ _ h6⟩)
theorem go_ppast (PK : PairK K mg C) (h : W Γ tv ρ H fun y H1 => W Γ te ρ H1 fun x H2 => ∃ p d d1 d2 d3 d4 d5 d6, y = .d d ∧ x = .o (.ref p) ∧ PairD H2 p C d1 d2 d3 d4 d5 d6 ∧ ∀ H3, Fr [p] H2 H3 → PairD H3 p C d1 d2 d3 d4 d d6 → EE.nx ρ H3) : Go Γ (sFld K te tv "past") EE ρ H := go_fld (h.imp fun y H1 k => k.imp fun x H2 k => by
  obtain ⟨p, d, d1, d2, d3, d4, d5, d6, rfl, rfl, ⟨dx, v1, v2, v3, v4, v5, v6, hp, h1, h2, h3, h4, h5, h6⟩, k⟩ := k
  refine ⟨p, dx, _, rfl, hp, PK.cls, PK.na _ (by simp), Nat.le_of_ble_eq_true rfl, fun w H3 e f hw dw => k H3 f ?_⟩
  have g := f.ft
  exact ⟨dx, v1, v2, v3, v4, w, v6, hw, ft_dp g _ _ h1, ft_dp g _ _ h2, ft_dp g _ _ h3, ft_dp g _ _ h4, dw, ft_dp g _ _ h6⟩)
theorem go_pcoming (PK : PairK K mg C) (h : W Γ tv ρ H fun y H1 => W Γ te ρ H1 fun x H2 => ∃ p d d1 d2 d3 d4 d5 d6, y = .d d ∧ x = .o (.ref p) ∧ PairD H2 p C d1 d2 d3 d4 d5 d6 ∧ ∀ H3, Fr [p] H2 H3 → PairD H3 p C d1 d2 d3 d4 d5 d → EE.nx ρ H3) : Go Γ (sFld K te tv "coming") EE ρ H := go_fld (h.imp fun y H1 k => k.imp fun x H2 k => by
  obtain ⟨p, d, d1, d2, d3, d4, d5, d6, rfl, rfl, ⟨dx, v1, v2, v3, v4, v5, v6, hp, h1, h2, h3, h4, h5, h6⟩, k⟩ := k
  refine ⟨p, dx, _, rfl, hp, PK.cls, PK.na _ (by simp), Nat.le_of_ble_eq_true rfl, fun w H3 e f hw dw => k H3 f ?_⟩
  have g := f.ft
  exact ⟨dx, v1, v2, v3, v4, v5, w, hw, ft_dp g _ _ h1, ft_dp g _ _ h2, ft_dp g _ _ h3, ft_dp g _ _ h4, ft_dp g _ _ h5, dw⟩)
end
/-- a method that keeps its promise -/
structure MethOk (P : Program) (w : World) (K : PySem.W.Frag) (mg : Str → Option Value) (base : Heap) (C : Addr) (lvl : Nat) (m : Str) (ps : List Str) (ds : List Value) (S : Spc) : Prop where
  ex : ∃ g fd, FnOk P w K mg base (L2.CX P w) lvl g fd ps (sp S) ∧ Meth K C m g ∧ Binds K fd ps ds
structure PropD (P : Program) (w : World) (K : PySem.W.Frag) (mg : Str → Option Value) (base : Heap) (C : Addr) (lvl : Nat) (m : Str) (S : Spc) : Prop where
  ex : ∃ p g fd, FnOk P w K mg base (L2.CX P w) lvl g fd ["self"] (sp S) ∧ PropOf K C m p g ∧ Binds K fd ["self"] []
structure OwnOk (P : Program) (w : World) (K : PySem.W.Frag) (mg : Str → Option Value) (base : Heap) (C : Addr) (lvl : Nat) (m : Str) (ps : List Str) (S : Spc) : Prop where
  ex : ∃ g fd, FnOk P w K mg base (L2.CX P w) lvl g fd ps (sp S) ∧ OwnM K C g m ∧ Binds K fd ps []
structure MkOk (P : Program) (w : World) (K : PySem.W.Frag) (mg : Str → Option Value) (base : Heap) (C : Addr) (lvl : Nat) (ps : List Str) (S : Spc) : Prop where
  ex : ∃ g fd, FnOk P w K mg base (L2.CX P w) lvl g fd ps (sp S) ∧ Mk K C g ∧ Binds K fd ps []
end K2

set_option Elab.async false
set_option linter.all false
set_option maxRecDepth 100000
set_option pp.deepTerms false
set_option pp.deepTerms.threshold 10
set_option maxHeartbeats 4000000
namespace K2
open PySem L2 PySem.Spec PyProof.Rows StX RZ
local macro_rules | `(tactic| walk_at "k2") => `(tactic| first
  | with_reducible refine w_var rfl ?_
  | with_reducible refine w_int ?_
  | with_reducible refine w_bl ?_
  | with_reducible refine w_non ?_
  | with_reducible refine w_str ?_
  | with_reducible refine w_o ?_
  | with_reducible refine wa_cons ?_
  | with_reducible refine wa_nil ?_
  | with_reducible refine w_op ?_
  | with_reducible refine w_un ?_
  | with_reducible refine w_cb ?_
  | with_reducible refine w_call0 ?_
  | with_reducible refine w_chain ?_
  | with_reducible refine w_tup ?_
  | with_reducible refine w_lst ?_
  | with_reducible refine w_andV ?_
  | with_reducible refine w_orV ?_
  | with_reducible refine w_notV ?_
  | with_reducible refine w_if ?_
  | with_reducible refine wt_test ?_
  | with_reducible refine wt_B ?_
  | with_reducible refine wt_and ?_
  | with_reducible refine wt_or ?_
  | with_reducible refine wt_not ?_
  | with_reducible refine go_seq ?_
  | with_reducible refine go_ret ?_
  | with_reducible refine go_retN ?_
  | with_reducible refine go_set ?_
  | with_reducible refine go_par ?_
  | with_reducible refine go_par3 ?_
  | with_reducible refine go_asg ?_
  | with_reducible refine go_next ?_
  | with_reducible refine go_if ?_
  | with_reducible refine o2_ii ?_
  | with_reducible refine o2_ib ?_
  | with_reducible refine o1_i ?_
  | with_reducible refine o2_isN ?_
  | with_reducible refine o2_notN ?_
  | with_reducible refine oa_isiI ?_
  | with_reducible refine oa_isiB ?_
  | with_reducible refine oa_isiT ?_
  | with_reducible refine oa_isiS ?_
  | with_reducible refine oa_abs ?_
  | with_reducible refine oa_max ?_
  | with_reducible refine oa_min ?_
  | with_reducible refine oa_len ?_
  | with_reducible refine oa_lenL ?_
  | with_reducible refine oa_intB ?_
  | refine ⟨[_, _], rfl, Nat.le_of_ble_eq_true rfl, ?_⟩
  | refine ⟨[_, _, _], rfl, Nat.le_of_ble_eq_true rfl, ?_⟩
  | refine ⟨[_, _, _, _], rfl, Nat.le_of_ble_eq_true rfl, ?_⟩
  | refine ⟨[_], rfl, Nat.le_of_ble_eq_true rfl, ?_⟩
  | refine ⟨[], rfl, Nat.le_of_ble_eq_true rfl, ?_⟩)

local macro_rules | `(tactic| walk_at "k2") => `(tactic| first
  | with_reducible refine ex_b ?_
  | refine both_t rfl ?_
  | refine both_f rfl ?_
  | refine both_f2 rfl ?_
  | refine both_t2 rfl ?_
  | with_reducible refine cs_is_integer fun _ _ => ?_
  | with_reducible refine cs_is_whole fun _ _ => ?_
  | refine oa_len ?_
  | refine oa_lenL ?_
  | refine o2_ixT rfl ?_
  | refine o2_ixL rfl ?_
  | refine o2_in rfl rfl ?_
  | refine o2_eqI ?_
  | refine o2_neI ?_
  | refine o2_eqS (by decide +kernel) (by decide +kernel) ?_
  | refine o2_neS (by decide +kernel) (by decide +kernel) ?_
  | refine o2_eqD (Deed.shp _).ok rfl ?_
  | refine both_t (by decide +kernel) ?_
  | refine both_f (by decide +kernel) ?_
  | refine both_f2 (by decide +kernel) ?_
  | refine both_t2 (by decide +kernel) ?_
  | with_reducible refine w_slT ?_
  | with_reducible refine wg_name ?_
  | with_reducible refine wgs_cons ?_
  | with_reducible refine wgs_nil ?_
  | refine o2_ii ?_
  | refine o2_ib ?_
  | refine o2_isN ?_
  | refine o2_notN ?_
  | refine wg_tup rfl ?_
  | refine wgs_cons ?_
  | refine wgs_nil ?_
  | with_reducible refine w_slL ?_
  | with_reducible refine wo_no ?_
  | with_reducible refine wo_some ?_
  | with_reducible refine ⟨_, _, rfl, rfl, ?_⟩
  | with_reducible refine ⟨_, rfl, ?_⟩
  | with_reducible refine ⟨_, _, rfl, ?_⟩
  | with_reducible refine ⟨_, _, _, rfl, ?_⟩)
local macro_rules | `(tactic| walk_at "same") => `(tactic| ((repeat (first | exact Same.refl _ | assumption | refine Same.trans ?_ (by assumption)))))

local macro_rules | `(tactic| walk_at "k3") => `(tactic| first
  | walk_at "k2"
  | refine both_t (by first | (simp; done) | (simp; omega)) ?_
  | refine both_f (by first | (simp; done) | (simp; omega)) ?_
  | refine both_f2 (by first | (simp; done) | (simp; omega)) ?_
  | refine both_t2 (by first | (simp; done) | (simp; omega)) ?_
  | refine go_next ?_
  | refine go_drop ?_)
theorem call_isP {X : Cx} {C : Addr} (c : C8.InsC X.K C) (ci : PySem.W.kitOne X.K (.type "int") (.ref C) = some false) : CallR X (.builtin "isinstance") (fun xs H Q => (∃ a dx fs, xs = [.ref a, .ref C] ∧ H a = some (.ins C dx fs) ∧ Q (.bl true) H) ∨ ∃ i, xs = [.int i, .ref C] ∧ Q (.bl false) H) := by
  intro pins s σ H xs us Q I r h
  rcases h with h | ⟨i, rfl, q⟩
  · exact C8.call_isC c pins s σ H xs us Q I r h
  · obtain ⟨u, w', rfl, ru, rw'⟩ := vals2 r
    cases rw'
    exact isinst_ok I ru (TyOf.int i) ci fun tk => ⟨.bl false, H, I.tok _, rfl, q⟩
theorem oa_isP {C p : Addr} {H : Hp} {R : PX} (h : ∃ dx fs, H p = some (.ins C dx fs)) (k : R (.d (.bool true)) H) : OA (fun xs H Q => (∃ a dx fs, xs = [.ref a, .ref C] ∧ H a = some (.ins C dx fs) ∧ Q (.bl true) H) ∨ ∃ i, xs = [.int i, .ref C] ∧ Q (.bl false) H) [.o (.ref p), .o (.ref C)] H R := fun vs H' e d Q q => by
  obtain ⟨dx, fs, h⟩ := h
  cases d with
  | cons a c =>
    cases c with
    | cons b c =>
      cases c
      cases a
      cases b
      exact .inl ⟨p, dx, fs, rfl, e _ _ h, q _ _ H H' k e (Ft.refl _) (Dq.bl _)⟩
theorem oa_isPI {C : Addr} {i : Int} {H : Hp} {R : PX} (k : R (.d (.bool false)) H) : OA (fun xs H Q => (∃ a dx fs, xs = [.ref a, .ref C] ∧ H a = some (.ins C dx fs) ∧ Q (.bl true) H) ∨ ∃ i, xs = [.int i, .ref C] ∧ Q (.bl false) H) [.d (.int i), .o (.ref C)] H R := fun vs H' e d Q q => by
  cases d with
  | cons a c =>
    cases c with
    | cons b c =>
      cases c
      cases a
      cases b
      exact .inr ⟨i, rfl, q _ _ H H' k e (Ft.refl _) (Dq.bl _)⟩
theorem inV_ints (i : Int) : ∀ l : List Int, inV (toV (.int i)) ((l.map PyData.int).map toV) = decide (i ∈ l)
  | [] => rfl
  | a :: l => by
    have ih := inV_ints i l
    rw [List.map_cons, List.map_cons]
    simp only [inV, List.any_cons, toV, List.mem_cons] at ih ⊢
    rw [ih]
    have e : eqV (.int a) (.int i) = decide (a = i) := rfl
    rw [e]
    by_cases h : a = i
    · simp [h]
    · have h' : ¬ i = a := fun z => h z.symm
      simp [h, h']
def S_p_world (C : Addr) : Spc where
  ι := Addr × PSt
  args i := [.o (.ref i.1)]
  pre i H := PairAt H i.1 C i.2
  mod i := []
  post i x _ := x = .d i.2.w.enc
def S_p_rule (C : Addr) : Spc where
  ι := Addr × PSt
  args i := [.o (.ref i.1)]
  pre i H := PairAt H i.1 C i.2
  mod i := []
  post i x _ := x = .d (encR i.2.r)
def S_p_stand (C : Addr) : Spc where
  ι := Addr × PSt
  args i := [.o (.ref i.1)]
  pre i H := PairAt H i.1 C i.2
  mod i := []
  post i x _ := x = .d i.2.now.st.enc
def S_p_rounds (C : Addr) : Spc where
  ι := Addr × PSt
  args i := [.o (.ref i.1)]
  pre i H := PairAt H i.1 C i.2
  mod i := []
  post i x _ := x = .d (.tuple (i.2.now.rs.map rde))
def S_p_farthest (C : Addr) : Spc where
  ι := Addr × PSt
  args i := [.o (.ref i.1)]
  pre i H := PairAt H i.1 C i.2 ∧ 0 < i.2.now.df.length
  mod i := []
  post i x _ := ∃ m n : Int, x = .d (.tuple [.int m, .int n]) ∧ m ∈ i.2.now.df ∧ (∀ y ∈ i.2.now.df, m ≤ y) ∧ n ∈ i.2.now.df ∧ ∀ y ∈ i.2.now.df, y ≤ n
def S_p___len__ (C : Addr) : Spc where
  ι := Addr × PSt
  args i := [.o (.ref i.1)]
  pre i H := PairAt H i.1 C i.2
  mod i := []
  post i x _ := x = .d (.int (i.2.now.rs.length : Nat))
theorem rde_shp (q : Rnd) : Shp 1 (rde q) := by
  obtain ⟨i, o⟩ := q
  cases o with
  | none => exact shp_t (all_cons shp_i (all_cons shp_n all_nil))
  | some e => exact shp_t (all_cons shp_i (all_cons shp_i all_nil))
theorem rds_shp (l : List Rnd) : Shp 2 (.tuple (l.map rde)) := shp_t (all_map fun q _ => rde_shp q)
def inP (l : List Int) : PyData → Bool
  | .int i => decide (i ∈ l)
  | _ => false
def eqP (s t : PSt) : Bool := PyData.eqv s.w.enc t.w.enc && PyData.eqv (encR s.r) (encR t.r) && decide (s.b = t.b) && PyData.eqv (.tuple (s.now.rs.map rde)) (.tuple (t.now.rs.map rde))
def oX : Option (Addr × PSt) → Dx
  | none => .d (.int 5)
  | some q => .o (.ref q.1)
def S_p___contains__ (C : Addr) : Spc where
  ι := (Addr × PSt) × PyData
  args i := [.o (.ref i.1.1), .d i.2]
  pre i H := PairAt H i.1.1 C i.1.2
  mod i := []
  post i x _ := x = .d (.bool (inP i.1.2.now.df i.2))
def S_p___eq__ (C : Addr) : Spc where
  ι := (Addr × PSt) × Option (Addr × PSt)
  args i := [.o (.ref i.1.1), oX i.2]
  pre i H := PairAt H i.1.1 C i.1.2 ∧ ∀ q ∈ i.2, PairAt H q.1 C q.2
  mod i := []
  post i x _ := x = .d (.bool (match i.2 with | none => false | some q => eqP i.1.2 q.2))
section
variable {P : Program} {w : World} {K : PySem.W.Frag} {mg : Str → Option Value} {base : Heap} {f C : Addr} {fd : FuncData} (G : GF mg) (PK : PairK K mg C)
include G PK
omit G PK in
theorem sc_p_world : FnScope ["self"] ["self"] (defScope (meth 48 1)) := ⟨rfl, rfl, rfl, by decide +kernel, rfl, by decide +kernel, by decide +kernel⟩
theorem ok_p_world   (F : FnP K "world" "Pair.world" (meth 48 1) [] f fd) : FnOk P w K mg base (L2.CX P w) 1 f fd ["self"] (sp (S_p_world C)) := by
  have sc := sc_p_world
  refine ok_pure F sc (fun _ => rfl) fun cdv A outer s H E hr => ⟨_, pss_one (ps_ret (pe_fld (pe_var (i := 0) rfl (.inl rfl)) rfl)), fun (i : Addr × PSt) hp => ?_⟩
  obtain ⟨p, ps⟩ := i
  refine go_ret (w_pown_world PK (w_var rfl ⟨p, _, _, _, _, _, _, rfl, hp, ?_⟩))
  exact rt_pure (by walk_at "same") fun _ => rfl
omit G PK in
theorem sc_p_rule : FnScope ["self"] ["self"] (defScope (meth 48 2)) := ⟨rfl, rfl, rfl, by decide +kernel, rfl, by decide +kernel, by decide +kernel⟩
theorem ok_p_rule   (F : FnP K "rule" "Pair.rule" (meth 48 2) [] f fd) : FnOk P w K mg base (L2.CX P w) 1 f fd ["self"] (sp (S_p_rule C)) := by
  have sc := sc_p_rule
  refine ok_pure F sc (fun _ => rfl) fun cdv A outer s H E hr => ⟨_, pss_one (ps_ret (pe_fld (pe_var (i := 0) rfl (.inl rfl)) rfl)), fun (i : Addr × PSt) hp => ?_⟩
  obtain ⟨p, ps⟩ := i
  refine go_ret (w_pown_rule PK (w_var rfl ⟨p, _, _, _, _, _, _, rfl, hp, ?_⟩))
  exact rt_pure (by walk_at "same") fun _ => rfl
omit G PK in
theorem sc_p_stand : FnScope ["self"] ["self"] (defScope (meth 48 3)) := ⟨rfl, rfl, rfl, by decide +kernel, rfl, by decide +kernel, by decide +kernel⟩
theorem ok_p_stand   (F : FnP K "stand" "Pair.stand" (meth 48 3) [] f fd) : FnOk P w K mg base (L2.CX P w) 1 f fd ["self"] (sp (S_p_stand C)) := by
  have sc := sc_p_stand
  refine ok_pure F sc (fun _ => rfl) fun cdv A outer s H E hr => ⟨_, pss_one (ps_ret (pe_ix ix_seq (pe_fld (pe_var (i := 0) rfl (.inl rfl)) rfl) (pe_int) (fun _ _ => rfl))), fun (i : Addr × PSt) hp => ?_⟩
  obtain ⟨p, ps⟩ := i
  refine go_ret (w_op (w_pnow PK (w_var rfl ⟨p, _, _, _, _, _, _, rfl, hp, w_int (o2_ixT rfl ?_)⟩)))
  exact rt_pure (by walk_at "same") fun _ => rfl
omit G PK in
theorem sc_p_rounds : FnScope ["self"] ["self"] (defScope (meth 48 4)) := ⟨rfl, rfl, rfl, by decide +kernel, rfl, by decide +kernel, by decide +kernel⟩
theorem ok_p_rounds   (F : FnP K "rounds" "Pair.rounds" (meth 48 4) [] f fd) : FnOk P w K mg base (L2.CX P w) 1 f fd ["self"] (sp (S_p_rounds C)) := by
  have sc := sc_p_rounds
  refine ok_pure F sc (fun _ => rfl) fun cdv A outer s H E hr => ⟨_, pss_one (ps_ret (pe_ix ix_seq (pe_fld (pe_var (i := 0) rfl (.inl rfl)) rfl) (pe_int) (fun _ _ => rfl))), fun (i : Addr × PSt) hp => ?_⟩
  obtain ⟨p, ps⟩ := i
  refine go_ret (w_op (w_pnow PK (w_var rfl ⟨p, _, _, _, _, _, _, rfl, hp, w_int (o2_ixT rfl ?_)⟩)))
  exact rt_pure (by walk_at "same") fun _ => rfl
omit G PK in
theorem sc_p_farthest : FnScope ["self"] ["self"] (defScope (meth 48 5)) := ⟨rfl, rfl, rfl, by decide +kernel, rfl, by decide +kernel, by decide +kernel⟩
theorem ok_p_farthest   (F : FnP K "farthest" "Pair.farthest" (meth 48 5) [] f fd) : FnOk P w K mg base (L2.CX P w) 1 f fd ["self"] (sp (S_p_farthest C)) := by
  have sc := sc_p_farthest
  refine ok_pure F sc (fun _ => rfl) fun cdv A outer s H E hr => ⟨_, pss_one (ps_ret (pe_tup (pa_cons (pe_callB (cr_minT rfl) rfl (G.gfree "min" (by decide +kernel)) (by decide +kernel) (pa_cons (pe_ix ix_seq (pe_fld (pe_var (i := 0) rfl (.inl rfl)) rfl) (pe_int) (fun _ _ => rfl)) (pa_nil))) (pa_cons (pe_callB (cr_maxT rfl) rfl (G.gfree "max" (by decide +kernel)) (by decide +kernel) (pa_cons (pe_ix ix_seq (pe_fld (pe_var (i := 0) rfl (.inl rfl)) rfl) (pe_int) (fun _ _ => rfl)) (pa_nil))) (pa_nil))))), fun (i : Addr × PSt) hp => ?_⟩
  obtain ⟨p, ps⟩ := i
  obtain ⟨hp, hl⟩ := (show PairAt H p C ps ∧ 0 < ps.now.df.length from hp)
  refine go_ret (w_tup (wa_cons (w_cb (wa_cons (w_op (w_pnow PK (w_var rfl ⟨p, _, _, _, _, _, _, rfl, hp, w_int (o2_ixT rfl (wa_nil ?_))⟩)))))))
  refine oa_minT hl fun m m1 m2 => ?_
  refine wa_cons (w_cb (wa_cons (w_op (w_pnow PK (w_var rfl ⟨p, _, _, _, _, _, _, rfl, hp, w_int (o2_ixT rfl (wa_nil ?_))⟩)))))
  refine oa_maxT hl fun n n1 n2 => ?_
  repeat walk_at "k2"
  exact rt_pure (by walk_at "same") fun _ => ⟨m, n, rfl, m1, m2, n1, n2⟩
omit G PK in
theorem sc_p___len__ : FnScope ["self"] ["self"] (defScope (meth 48 9)) := ⟨rfl, rfl, rfl, by decide +kernel, rfl, by decide +kernel, by decide +kernel⟩
theorem ok_p___len__   (F : FnP K "__len__" "Pair.__len__" (meth 48 9) [] f fd) : FnOk P w K mg base (L2.CX P w) 1 f fd ["self"] (sp (S_p___len__ C)) := by
  have sc := sc_p___len__
  refine ok_pure F sc (fun _ => rfl) fun cdv A outer s H E hr => ⟨_, pss_one (ps_ret (pe_callB call_len_seq rfl (G.gfree "len" (by decide +kernel)) (by decide +kernel) (pa_cons (pe_ix ix_seq (pe_fld (pe_var (i := 0) rfl (.inl rfl)) rfl) (pe_int) (fun _ _ => rfl)) (pa_nil)))), fun (i : Addr × PSt) hp => ?_⟩
  obtain ⟨p, ps⟩ := i
  refine go_ret (w_cb (wa_cons (w_op (w_pnow PK (w_var rfl ⟨p, _, _, _, _, _, _, rfl, hp, w_int (o2_ixT rfl (wa_nil ?_))⟩)))))
  refine oa_len ?_
  refine rt_pure (by walk_at "same") fun _ => ?_
  show _ = Dx.d (.int (ps.now.rs.length : Nat))
  rw [List.length_map]
omit G PK in
theorem sc_p___contains__ : FnScope ["self", "x"] ["self", "x"] (defScope (meth 48 11)) := ⟨rfl, rfl, rfl, by decide +kernel, rfl, by decide +kernel, by decide +kernel⟩
theorem ok_p___contains__ (D_is_integer : DefOk P w K mg base 1 "is_integer" ["thing"] S_is_integer)  (F : FnP K "__contains__" "Pair.__contains__" (meth 48 11) [] f fd) : FnOk P w K mg base (L2.CX P w) 2 f fd ["self", "x"] (sp (S_p___contains__ C)) := by
  have sc := sc_p___contains__
  refine ok_pure F sc (fun _ => rfl) fun cdv A outer s H E hr => ⟨_, pss_one (ps_ret (pe_and (pe_D D_is_integer (hr.mono (by decide)) rfl pass_none (pa_cons (pe_var (i := 1) rfl (.inl rfl)) (pa_nil))) (pe_one (pe_cmpR op_in_seq (pe_var (i := 1) rfl (.inl rfl)) (pe_ix ix_seq (pe_fld (pe_var (i := 0) rfl (.inl rfl)) rfl) (pe_int) (fun _ _ => rfl)) (by rfl))))), fun (i : (Addr × PSt) × PyData) hp => ?_⟩
  obtain ⟨⟨p, ps⟩, d⟩ := i
  have hp : PairAt H p C ps := hp
  repeat walk_at "k2"
  cases d with
  | int i =>
    refine both_t rfl ?_
    refine w_op (w_var rfl (w_op (w_pnow PK (w_var rfl ⟨p, _, _, _, _, _, _, rfl, hp.same (by assumption), w_int (o2_ixT rfl ?_)⟩))))
    refine o2_in rfl (by simp [flatD]) ?_
    refine rt_pure (by walk_at "same") fun _ => ?_
    show _ = Dx.d (.bool (decide (i ∈ ps.now.df)))
    rw [inV_ints]
    rfl
  | _ =>
    refine both_f rfl ?_
    exact rt_pure (by walk_at "same") fun _ => rfl
omit G PK in
theorem sc_p___eq__ : FnScope ["self", "other"] ["self", "other"] (defScope (meth 48 12)) := ⟨rfl, rfl, rfl, by decide +kernel, rfl, by decide +kernel, by decide +kernel⟩
theorem ok_p___eq__   (F : FnP K "__eq__" "Pair.__eq__" (meth 48 12) [] f fd) : FnOk P w K mg base (L2.CX P w) 1 f fd ["self", "other"] (sp (S_p___eq__ C)) := by
  have sc := sc_p___eq__
  refine ok_pure F sc (fun _ => rfl) fun cdv A outer s H E hr => ⟨_, pss_cons (ps_if (PW.pt (pw_or (pt_not (pt_val (pe_callB (call_isP PK.isC PK.isI) rfl (G.gfree "isinstance" (by decide +kernel)) (by decide +kernel) (pa_cons (pe_var (i := 1) rfl (.inl rfl)) (pa_cons (pe_glob (v := .ref C) rfl PK.mgC rfl) (pa_nil)))))) (pw_or (pt_cmpR (op_neD hr.units) (pe_fld (pe_var (i := 0) rfl (.inl rfl)) rfl) (pe_fld (pe_var (i := 1) rfl (.inl rfl)) rfl) (nomark _)) (pw_or1 (pt_cmpR (op_neD hr.units) (pe_fld (pe_var (i := 0) rfl (.inl rfl)) rfl) (pe_fld (pe_var (i := 1) rfl (.inl rfl)) rfl) (nomark _)))))) (pss_one (ps_ret (pe_bl))) (pss_nil)) (pss_one (ps_ret (pe_and (pe_cmpR (op_eqD hr.units) (pe_fld (pe_var (i := 0) rfl (.inl rfl)) rfl) (pe_fld (pe_var (i := 1) rfl (.inl rfl)) rfl) (nomark _)) (pe_one (pe_cmpR (op_eqD hr.units) (pe_ix ix_seq (pe_fld (pe_var (i := 0) rfl (.inl rfl)) rfl) (pe_int) (fun _ _ => rfl)) (pe_ix ix_seq (pe_fld (pe_var (i := 1) rfl (.inl rfl)) rfl) (pe_int) (fun _ _ => rfl)) (nomark _)))))), fun (i : (Addr × PSt) × Option (Addr × PSt)) hp => ?_⟩
  obtain ⟨⟨p, s⟩, o⟩ := i
  obtain ⟨hp1, ho⟩ := (show PairAt H p C s ∧ ∀ q ∈ o, PairAt H q.1 C q.2 from hp)
  cases o with
  | none =>
    refine go_seq (go_if (wt_or (wt_not (wt_test (w_cb (wa_cons (w_var rfl (wa_cons (w_o (wa_nil (oa_isPI ?_)))))))))))
    repeat walk_at "k2"
    exact rt_pure (by walk_at "same") fun _ => rfl
  | some q =>
    obtain ⟨q, t⟩ := q
    have hq : PairAt H q C t := ho _ rfl
    refine go_seq (go_if (WT.imp (R := fun b H1 => H1 = H ∧ b = !(PyData.eqv s.w.enc t.w.enc && PyData.eqv (encR s.r) (encR t.r))) ?_ fun bb H1 e1 => ?_))
    · refine wt_or (wt_not (wt_test (w_cb (wa_cons (w_var rfl (wa_cons (w_o (wa_nil (oa_isP hq.ins ?_)))))))))
      repeat walk_at "k2"
      refine w_pown_world PK (w_var rfl ⟨p, _, _, _, _, _, _, rfl, hp1, ?_⟩)
      refine w_pown_world PK (w_var rfl ⟨q, _, _, _, _, _, _, rfl, hq, ?_⟩)
      refine o2_neD s.w.shp.ok t.w.shp.ok ?_
      repeat walk_at "k2"
      refine ⟨fun hb => ?_, fun hb => ?_⟩
      · refine wt_B (w_op (w_pown_rule PK (w_var rfl ⟨p, _, _, _, _, _, _, rfl, hp1, ?_⟩)))
        refine w_pown_rule PK (w_var rfl ⟨q, _, _, _, _, _, _, rfl, hq, ?_⟩)
        refine o2_neD (encR_shp _).ok (encR_shp _).ok ?_
        refine ⟨_, rfl, rfl, ?_⟩
        have hb' : PyData.eqv s.w.enc t.w.enc = true := by simpa using hb
        rw [hb']
        rfl
      · have hb' : PyData.eqv s.w.enc t.w.enc = false := by simpa using hb
        refine ⟨rfl, ?_⟩
        rw [hb']
        rfl
    obtain ⟨rfl, e2⟩ := e1
    refine ⟨fun hb => ?_, fun hb => ?_⟩
    · repeat walk_at "k2"
      refine rt_pure (by walk_at "same") fun _ => ?_
      show _ = Dx.d (.bool (eqP s t))
      have : (PyData.eqv s.w.enc t.w.enc && PyData.eqv (encR s.r) (encR t.r)) = false := by rw [hb] at e2; generalize (PyData.eqv s.w.enc t.w.enc && PyData.eqv (encR s.r) (encR t.r)) = z at e2 ⊢; revert e2; cases z <;> decide
      rw [eqP, this]
      rfl
    · have e3 : (PyData.eqv s.w.enc t.w.enc && PyData.eqv (encR s.r) (encR t.r)) = true := by rw [hb] at e2; generalize (PyData.eqv s.w.enc t.w.enc && PyData.eqv (encR s.r) (encR t.r)) = z at e2 ⊢; revert e2; cases z <;> decide
      refine go_next (go_ret (w_andV (w_op (w_pbegin PK (w_var rfl ⟨p, _, _, _, _, _, _, rfl, hp1, ?_⟩)))))
      refine w_pbegin PK (w_var rfl ⟨q, _, _, _, _, _, _, rfl, hq, ?_⟩)
      refine o2_eqI ?_
      refine ⟨_, rfl, fun hb => ?_, fun hb => ?_⟩
      · refine w_op (w_op (w_pnow PK (w_var rfl ⟨p, _, _, _, _, _, _, rfl, hp1, w_int (o2_ixT rfl ?_)⟩)))
        refine w_op (w_pnow PK (w_var rfl ⟨q, _, _, _, _, _, _, rfl, hq, w_int (o2_ixT rfl ?_)⟩))
        refine o2_eqD (rds_shp _).ok (rds_shp _).ok ?_
        refine rt_pure (by walk_at "same") fun _ => ?_
        show _ = Dx.d (.bool (eqP s t))
        rw [eqP, e3, hb]
        rfl
      · refine rt_pure (by walk_at "same") fun _ => ?_
        show _ = Dx.d (.bool (eqP s t))
        rw [eqP, e3, hb]
        rfl
end
end K2

set_option Elab.async false
set_option linter.all false
set_option maxRecDepth 100000
set_option pp.deepTerms false
set_option pp.deepTerms.threshold 10
set_option maxHeartbeats 4000000
namespace K2
open PySem L2 PySem.Spec PyProof.Rows StX RZ
local macro_rules | `(tactic| walk_at "k2") => `(tactic| first
  | with_reducible refine w_var rfl ?_
  | with_reducible refine w_int ?_
  | with_reducible refine w_bl ?_
  | with_reducible refine w_non ?_
  | with_reducible refine w_str ?_
  | with_reducible refine w_o ?_
  | with_reducible refine wa_cons ?_
  | with_reducible refine wa_nil ?_
  | with_reducible refine w_op ?_
  | with_reducible refine w_un ?_
  | with_reducible refine w_cb ?_
  | with_reducible refine w_call0 ?_
  | with_reducible refine w_chain ?_
  | with_reducible refine w_tup ?_
  | with_reducible refine w_lst ?_
  | with_reducible refine w_andV ?_
  | with_reducible refine w_orV ?_
  | with_reducible refine w_notV ?_
  | with_reducible refine w_if ?_
  | with_reducible refine wt_test ?_
  | with_reducible refine wt_B ?_
  | with_reducible refine wt_and ?_
  | with_reducible refine wt_or ?_
  | with_reducible refine wt_not ?_
  | with_reducible refine go_seq ?_
  | with_reducible refine go_ret ?_
  | with_reducible refine go_retN ?_
  | with_reducible refine go_set ?_
  | with_reducible refine go_par ?_
  | with_reducible refine go_par3 ?_
  | with_reducible refine go_asg ?_
  | with_reducible refine go_next ?_
  | with_reducible refine go_if ?_
  | with_reducible refine o2_ii ?_
  | with_reducible refine o2_ib ?_
  | with_reducible refine o1_i ?_
  | with_reducible refine o2_isN ?_
  | with_reducible refine o2_notN ?_
  | with_reducible refine oa_isiI ?_
  | with_reducible refine oa_isiB ?_
  | with_reducible refine oa_isiT ?_
  | with_reducible refine oa_isiS ?_
  | with_reducible refine oa_abs ?_
  | with_reducible refine oa_max ?_
  | with_reducible refine oa_min ?_
  | with_reducible refine oa_len ?_
  | with_reducible refine oa_lenL ?_
  | with_reducible refine oa_intB ?_
  | refine ⟨[_, _], rfl, Nat.le_of_ble_eq_true rfl, ?_⟩
  | refine ⟨[_, _, _], rfl, Nat.le_of_ble_eq_true rfl, ?_⟩
  | refine ⟨[_, _, _, _], rfl, Nat.le_of_ble_eq_true rfl, ?_⟩
  | refine ⟨[_], rfl, Nat.le_of_ble_eq_true rfl, ?_⟩
  | refine ⟨[], rfl, Nat.le_of_ble_eq_true rfl, ?_⟩)

local macro_rules | `(tactic| walk_at "k2") => `(tactic| first
  | with_reducible refine ex_b ?_
  | refine both_t rfl ?_
  | refine both_f rfl ?_
  | refine both_f2 rfl ?_
  | refine both_t2 rfl ?_
  | with_reducible refine cs_is_integer fun _ _ => ?_
  | with_reducible refine cs_is_whole fun _ _ => ?_
  | refine oa_len ?_
  | refine oa_lenL ?_
  | refine o2_ixT rfl ?_
  | refine o2_ixL rfl ?_
  | refine o2_in rfl rfl ?_
  | refine o2_eqI ?_
  | refine o2_neI ?_
  | refine o2_eqS (by decide +kernel) (by decide +kernel) ?_
  | refine o2_neS (by decide +kernel) (by decide +kernel) ?_
  | refine o2_eqD (Deed.shp _).ok rfl ?_
  | refine both_t (by decide +kernel) ?_
  | refine both_f (by decide +kernel) ?_
  | refine both_f2 (by decide +kernel) ?_
  | refine both_t2 (by decide +kernel) ?_
  | with_reducible refine w_slT ?_
  | with_reducible refine wg_name ?_
  | with_reducible refine wgs_cons ?_
  | with_reducible refine wgs_nil ?_
  | refine o2_ii ?_
  | refine o2_ib ?_
  | refine o2_isN ?_
  | refine o2_notN ?_
  | refine wg_tup rfl ?_
  | refine wgs_cons ?_
  | refine wgs_nil ?_
  | with_reducible refine w_slL ?_
  | with_reducible refine wo_no ?_
  | with_reducible refine wo_some ?_
  | with_reducible refine ⟨_, _, rfl, rfl, ?_⟩
  | with_reducible refine ⟨_, rfl, ?_⟩
  | with_reducible refine ⟨_, _, rfl, ?_⟩
  | with_reducible refine ⟨_, _, _, rfl, ?_⟩)
local macro_rules | `(tactic| walk_at "same") => `(tactic| ((repeat (first | exact Same.refl _ | assumption | refine Same.trans ?_ (by assumption)))))

local macro_rules | `(tactic| walk_at "k3") => `(tactic| first
  | walk_at "k2"
  | refine both_t (by first | (simp; done) | (simp; omega)) ?_
  | refine both_f (by first | (simp; done) | (simp; omega)) ?_
  | refine both_f2 (by first | (simp; done) | (simp; omega)) ?_
  | refine both_t2 (by first | (simp; done) | (simp; omega)) ?_
  | refine go_next ?_
  | refine go_drop ?_)
/-! ## the refusals -/
/-- what a raised object brings -/
def Thrown (C : Addr) (f : Str) (v : PyData) (c : Value) (d : Option Addr) (H : Hp) : Prop := c = .ref C ∧ ∃ dx w, d = some dx ∧ H dx = some (.xd [(f, w)]) ∧ Dq H w v
def S_einit (C : Addr) (f : Str) : Spc where
  ι := Addr × PyData × Hp
  args i := [.o (.ref i.1), .d i.2.1]
  pre i H := H i.1 = some (exo i.1 C none) ∧ Same i.2.2 H
  mod i := [i.1]
  post i x H := x = .d .none ∧ ∃ dx w, i.2.2 dx = none ∧ H i.1 = some (exo i.1 C (some dx)) ∧ H dx = some (exd dx [(f, w)]) ∧ Dq H w i.2.1
/-- the class, its making and its __init__ -/
structure MkE (P : Program) (w : World) (K : PySem.W.Frag) (mg : Str → Option Value) (base : Heap) (C : Addr) (x f fs : Str) (newId : String) (bmB : List Value) : Prop where
  T : OexG K C newId bmB
  m : mg x = some (.ref C)
  ex : ∃ g fd, FnOk P w K mg base (L2.CX P w) 1 g fd ["self", fs] (sp (S_einit C f)) ∧ PySem.W.findIn K (.ref C) "__init__" = some (some (.ref g)) ∧ PySem.W.typeIn K (.ref g) = some (.type "function") ∧ Binds K fd ["self", fs] []
section
variable {X : Cx} {C : Addr} {x f fs : Str} {B newId initId : String} {bmB : List Value} {e : Expr} {p pos : Pos} {ta : TA}
theorem pmk_E (G : BaseG B newId initId bmB) (M : MkE X.prog X.w X.K X.mg X.base C x f fs newId bmB) (hr : Room 2 X.A) (hg : Gl X x) (ha : PA X [e] ta)
    (hdb : (x == ("__debug__" : Str)) = false := by decide) (he : starEach [e] X.env = (false, eval e X.env) :: starEach [] X.env := by rfl) (hpl : (backTo pos (starEach [] X.env)).any (·.1) = false := by rfl) : PMk X (.Call (.Name x p) [e] [] pos) (tMkO C (sp (S_einit C f)) [] ta) := by
  obtain ⟨g, fd, F, h1, h2, b⟩ := M.ex
  exact pmk_G G M.T h1 h2 F hr b .nil pass_none hg M.m ha hdb he hpl
end
section
variable {Γ : List Gh} {ρ : Rho} {H : Hp} {ta : TA} {C : Addr} {f : Str} {EE : EX} {E : XK}
theorem go_throw (h : WA Γ ta ρ H fun xs H1 => ∃ v, xs = [.d v] ∧ ∀ c d H4, Fr [] H1 H4 → Thrown C f v c d H4 → E c d H4) : Go Γ (fun D σ H => tMkO C (sp (S_einit C f)) [] ta σ H fun cls d H' => E cls d H') EE ρ H := by
  refine go_raise (f := f) (S := S_einit C f) (E := E) (fun i a r e b hb => ?_) (fun σ H' e s Q q => h σ H' e s Q fun xs vs H1 H'' k => q xs vs H1 H'' ?_)
  · have e' : Dx.o (.ref i.1) = Dx.o (.ref a) := (List.cons.inj e).1
    cases e'
    exact List.mem_singleton.mp hb
  · obtain ⟨v, rfl, k⟩ := k
    refine ⟨Nat.le_of_ble_eq_true rfl, fun a H2 ha f2 h2 => CallS.mk (S := S_einit C f) (a, v, H2) rfl (fun H3 e3 => ⟨e3 _ _ h2, e3⟩) (fun y H3 f3 po => ?_) fun _ _ _ h => h⟩
    obtain ⟨rfl, dx, w, n1, h3, h4, dw⟩ := po
    exact ⟨rfl, dx, w, n1, h3, h4, fun H4 f4 h5 kp => k _ _ _ f4 ⟨rfl, dx, w, rfl, h5, kp (.d v) dw⟩⟩
end
/-- SetError's own __init__ -/
structure ESet (K : PySem.W.Frag) (mg : Str → Option Value) : Prop where
  ex : ∃ S mc, mg "SetError" = some (.ref S) ∧ ClX.CRead K S mc ∧ PySem.W.findCls K (.ref S) mc "__init__" = some (.val (.builtin "ValueError.__init__"))
section
variable {P : Program} {w : World} {K : PySem.W.Frag} {mg : Str → Option Value} {base : Heap} {f C : Addr} {fd : FuncData} (G : GF mg)
theorem sc_e_BadRound___init__ : FnScope ["self", "given"] ["self", "given"] (defScope (meth 8 0)) := ⟨rfl, rfl, rfl, by decide +kernel, rfl, by decide +kernel, by decide +kernel⟩
theorem ok_e_BadRound___init__   (T : OexG K C "ValueError.__new__" veB) (nf : PySem.W.findIn K (.ref C) "given" = some none) (ES : ESet K mg) (F : FnP K "__init__" "BadRound.__init__" (meth 8 0) [] f fd) : FnOk P w K mg base (L2.CX P w) 1 f fd ["self", "given"] (sp (S_einit C "given")) := by
  obtain ⟨S, mc, mS, cr, fc⟩ := ES.ex
  have sc := sc_e_BadRound___init__
  refine ok_pure F sc (fun _ => rfl) fun cdv A outer s H E hr => ⟨_, pss_cons (ps_expr (pe_initOwn baseVE T rfl mS cr (by decide +kernel) fc (pa_cons (pe_var (i := 0) rfl (.inl rfl)) (pa_cons (pe_str) (pa_nil))))) (pss_one (ps_os1 baseVE T nf (pe_var (i := 0) rfl (.inl rfl)) (pe_var (i := 1) rfl (.inl rfl)))), fun (i : Addr × PyData × Hp) hp => ?_⟩
  obtain ⟨a, v, H0⟩ := i
  obtain ⟨ha, e0⟩ := (show H a = some (exo a C none) ∧ Same H0 H from hp)
  refine go_seq (go_drop (w_binit ?_))
  repeat walk_at "k2"
  refine ⟨Nat.le_of_ble_eq_true rfl, ha, ?_⟩
  refine go_os1 (w_var rfl (w_var rfl ⟨a, rfl, ha, fun w dx H3 f3 n3 ne h3 h4 dw => ⟨f3, fun H4 e4 => ⟨rfl, dx, w, e0.free n3, e4 _ _ h3, e4 _ _ h4, ft_dx e4.ftq (x := .d v) dw⟩⟩⟩))
theorem sc_e_BadRun___init__ : FnScope ["self", "number"] ["self", "number"] (defScope (meth 9 0)) := ⟨rfl, rfl, rfl, by decide +kernel, rfl, by decide +kernel, by decide +kernel⟩
theorem ok_e_BadRun___init__   (T : OexG K C "ValueError.__new__" veB) (nf : PySem.W.findIn K (.ref C) "number" = some none) (ES : ESet K mg) (F : FnP K "__init__" "BadRun.__init__" (meth 9 0) [] f fd) : FnOk P w K mg base (L2.CX P w) 1 f fd ["self", "number"] (sp (S_einit C "number")) := by
  obtain ⟨S, mc, mS, cr, fc⟩ := ES.ex
  have sc := sc_e_BadRun___init__
  refine ok_pure F sc (fun _ => rfl) fun cdv A outer s H E hr => ⟨_, pss_cons (ps_expr (pe_initOwn baseVE T rfl mS cr (by decide +kernel) fc (pa_cons (pe_var (i := 0) rfl (.inl rfl)) (pa_cons (pe_str) (pa_nil))))) (pss_one (ps_os1 baseVE T nf (pe_var (i := 0) rfl (.inl rfl)) (pe_var (i := 1) rfl (.inl rfl)))), fun (i : Addr × PyData × Hp) hp => ?_⟩
  obtain ⟨a, v, H0⟩ := i
  obtain ⟨ha, e0⟩ := (show H a = some (exo a C none) ∧ Same H0 H from hp)
  refine go_seq (go_drop (w_binit ?_))
  repeat walk_at "k2"
  refine ⟨Nat.le_of_ble_eq_true rfl, ha, ?_⟩
  refine go_os1 (w_var rfl (w_var rfl ⟨a, rfl, ha, fun w dx H3 f3 n3 ne h3 h4 dw => ⟨f3, fun H4 e4 => ⟨rfl, dx, w, e0.free n3, e4 _ _ h3, e4 _ _ h4, ft_dx e4.ftq (x := .d v) dw⟩⟩⟩))
theorem sc_e_BadNumber___init__ : FnScope ["self", "given"] ["self", "given"] (defScope (meth 14 0)) := ⟨rfl, rfl, rfl, by decide +kernel, rfl, by decide +kernel, by decide +kernel⟩
theorem ok_e_BadNumber___init__   (T : OexG K C "ValueError.__new__" veB) (nf : PySem.W.findIn K (.ref C) "given" = some none) (ES : ESet K mg) (F : FnP K "__init__" "BadNumber.__init__" (meth 14 0) [] f fd) : FnOk P w K mg base (L2.CX P w) 1 f fd ["self", "given"] (sp (S_einit C "given")) := by
  obtain ⟨S, mc, mS, cr, fc⟩ := ES.ex
  have sc := sc_e_BadNumber___init__
  refine ok_pure F sc (fun _ => rfl) fun cdv A outer s H E hr => ⟨_, pss_cons (ps_expr (pe_initOwn baseVE T rfl mS cr (by decide +kernel) fc (pa_cons (pe_var (i := 0) rfl (.inl rfl)) (pa_cons (pe_str) (pa_nil))))) (pss_one (ps_os1 baseVE T nf (pe_var (i := 0) rfl (.inl rfl)) (pe_var (i := 1) rfl (.inl rfl)))), fun (i : Addr × PyData × Hp) hp => ?_⟩
  obtain ⟨a, v, H0⟩ := i
  obtain ⟨ha, e0⟩ := (show H a = some (exo a C none) ∧ Same H0 H from hp)
  refine go_seq (go_drop (w_binit ?_))
  repeat walk_at "k2"
  refine ⟨Nat.le_of_ble_eq_true rfl, ha, ?_⟩
  refine go_os1 (w_var rfl (w_var rfl ⟨a, rfl, ha, fun w dx H3 f3 n3 ne h3 h4 dw => ⟨f3, fun H4 e4 => ⟨rfl, dx, w, e0.free n3, e4 _ _ h3, e4 _ _ h4, ft_dx e4.ftq (x := .d v) dw⟩⟩⟩))
theorem sc_e_NothingLeft___init__ : FnScope ["self", "many"] ["self", "many"] (defScope (meth 16 0)) := ⟨rfl, rfl, rfl, by decide +kernel, rfl, by decide +kernel, by decide +kernel⟩
theorem ok_e_NothingLeft___init__   (T : OexG K C "RuntimeError.__new__" rtB) (nf : PySem.W.findIn K (.ref C) "many" = some none) (hRT : mg "RuntimeError" = none) (hRI : PySem.W.findCls K (.type "RuntimeError") (.type "type") "__init__" = some (.val (.builtin "RuntimeError.__init__"))) (F : FnP K "__init__" "NothingLeft.__init__" (meth 16 0) [] f fd) : FnOk P w K mg base (L2.CX P w) 1 f fd ["self", "many"] (sp (S_einit C "many")) := by
  have sc := sc_e_NothingLeft___init__
  refine ok_pure F sc (fun _ => rfl) fun cdv A outer s H E hr => ⟨_, pss_cons (ps_expr (pe_initBlt baseRT T rfl hRT (by decide +kernel) (by decide) rfl (by decide +kernel) (by decide +kernel) hRI (pa_cons (pe_var (i := 0) rfl (.inl rfl)) (pa_cons (pe_str) (pa_nil))))) (pss_one (ps_os1 baseRT T nf (pe_var (i := 0) rfl (.inl rfl)) (pe_var (i := 1) rfl (.inl rfl)))), fun (i : Addr × PyData × Hp) hp => ?_⟩
  obtain ⟨a, v, H0⟩ := i
  obtain ⟨ha, e0⟩ := (show H a = some (exo a C none) ∧ Same H0 H from hp)
  refine go_seq (go_drop (w_binit ?_))
  repeat walk_at "k2"
  refine ⟨Nat.le_of_ble_eq_true rfl, ha, ?_⟩
  refine go_os1 (w_var rfl (w_var rfl ⟨a, rfl, ha, fun w dx H3 f3 n3 ne h3 h4 dw => ⟨f3, fun H4 e4 => ⟨rfl, dx, w, e0.free n3, e4 _ _ h3, e4 _ _ h4, ft_dx e4.ftq (x := .d v) dw⟩⟩⟩))
end
end K2

set_option Elab.async false
set_option linter.all false
set_option maxRecDepth 100000
set_option pp.deepTerms false
set_option pp.deepTerms.threshold 10
set_option maxHeartbeats 4000000
namespace K2
open PySem L2 PySem.Spec PyProof.Rows StX RZ
local macro_rules | `(tactic| walk_at "k2") => `(tactic| first
  | with_reducible refine w_var rfl ?_
  | with_reducible refine w_int ?_
  | with_reducible refine w_bl ?_
  | with_reducible refine w_non ?_
  | with_reducible refine w_str ?_
  | with_reducible refine w_o ?_
  | with_reducible refine wa_cons ?_
  | with_reducible refine wa_nil ?_
  | with_reducible refine w_op ?_
  | with_reducible refine w_un ?_
  | with_reducible refine w_cb ?_
  | with_reducible refine w_call0 ?_
  | with_reducible refine w_chain ?_
  | with_reducible refine w_tup ?_
  | with_reducible refine w_lst ?_
  | with_reducible refine w_andV ?_
  | with_reducible refine w_orV ?_
  | with_reducible refine w_notV ?_
  | with_reducible refine w_if ?_
  | with_reducible refine wt_test ?_
  | with_reducible refine wt_B ?_
  | with_reducible refine wt_and ?_
  | with_reducible refine wt_or ?_
  | with_reducible refine wt_not ?_
  | with_reducible refine go_seq ?_
  | with_reducible refine go_ret ?_
  | with_reducible refine go_retN ?_
  | with_reducible refine go_set ?_
  | with_reducible refine go_par ?_
  | with_reducible refine go_par3 ?_
  | with_reducible refine go_asg ?_
  | with_reducible refine go_next ?_
  | with_reducible refine go_if ?_
  | with_reducible refine o2_ii ?_
  | with_reducible refine o2_ib ?_
  | with_reducible refine o1_i ?_
  | with_reducible refine o2_isN ?_
  | with_reducible refine o2_notN ?_
  | with_reducible refine oa_isiI ?_
  | with_reducible refine oa_isiB ?_
  | with_reducible refine oa_isiT ?_
  | with_reducible refine oa_isiS ?_
  | with_reducible refine oa_abs ?_
  | with_reducible refine oa_max ?_
  | with_reducible refine oa_min ?_
  | with_reducible refine oa_len ?_
  | with_reducible refine oa_lenL ?_
  | with_reducible refine oa_intB ?_
  | refine ⟨[_, _], rfl, Nat.le_of_ble_eq_true rfl, ?_⟩
  | refine ⟨[_, _, _], rfl, Nat.le_of_ble_eq_true rfl, ?_⟩
  | refine ⟨[_, _, _, _], rfl, Nat.le_of_ble_eq_true rfl, ?_⟩
  | refine ⟨[_], rfl, Nat.le_of_ble_eq_true rfl, ?_⟩
  | refine ⟨[], rfl, Nat.le_of_ble_eq_true rfl, ?_⟩)

local macro_rules | `(tactic| walk_at "k2") => `(tactic| first
  | with_reducible refine ex_b ?_
  | refine both_t rfl ?_
  | refine both_f rfl ?_
  | refine both_f2 rfl ?_
  | refine both_t2 rfl ?_
  | with_reducible refine cs_is_integer fun _ _ => ?_
  | with_reducible refine cs_is_whole fun _ _ => ?_
  | refine oa_len ?_
  | refine oa_lenL ?_
  | refine o2_ixT rfl ?_
  | refine o2_ixL rfl ?_
  | refine o2_in rfl rfl ?_
  | refine o2_eqI ?_
  | refine o2_neI ?_
  | refine o2_eqS (by decide +kernel) (by decide +kernel) ?_
  | refine o2_neS (by decide +kernel) (by decide +kernel) ?_
  | refine o2_eqD (Deed.shp _).ok rfl ?_
  | refine both_t (by decide +kernel) ?_
  | refine both_f (by decide +kernel) ?_
  | refine both_f2 (by decide +kernel) ?_
  | refine both_t2 (by decide +kernel) ?_
  | with_reducible refine w_slT ?_
  | with_reducible refine wg_name ?_
  | with_reducible refine wgs_cons ?_
  | with_reducible refine wgs_nil ?_
  | refine o2_ii ?_
  | refine o2_ib ?_
  | refine o2_isN ?_
  | refine o2_notN ?_
  | refine wg_tup rfl ?_
  | refine wgs_cons ?_
  | refine wgs_nil ?_
  | with_reducible refine w_slL ?_
  | with_reducible refine wo_no ?_
  | with_reducible refine wo_some ?_
  | with_reducible refine ⟨_, _, rfl, rfl, ?_⟩
  | with_reducible refine ⟨_, rfl, ?_⟩
  | with_reducible refine ⟨_, _, rfl, ?_⟩
  | with_reducible refine ⟨_, _, _, rfl, ?_⟩)
local macro_rules | `(tactic| walk_at "same") => `(tactic| ((repeat (first | exact Same.refl _ | assumption | refine Same.trans ?_ (by assumption)))))

local macro_rules | `(tactic| walk_at "k3") => `(tactic| first
  | walk_at "k2"
  | refine both_t (by first | (simp; done) | (simp; omega)) ?_
  | refine both_f (by first | (simp; done) | (simp; omega)) ?_
  | refine both_f2 (by first | (simp; done) | (simp; omega)) ?_
  | refine both_t2 (by first | (simp; done) | (simp; omega)) ?_
  | refine go_next ?_
  | refine go_drop ?_)
theorem gone_fd {w : Wld} {r : Rul} : ∀ {rs : List Rd2} {s s' : Std} {fd fd' : List Int} {n : Nat}, gone w r s fd n rs = (none, fd', s') → (∃ e, fd' = fd ++ e ∧ e.length = 2 * rs.length) ∧ ∃ qs : List Rnd, rs = qs.map Rnd.rd ∧ Good w r s qs s'
  | [], s, s', fd, fd', n, h => by
    simp only [gone, Prod.mk.injEq] at h
    obtain ⟨_, rfl, rfl⟩ := h
    exact ⟨⟨[], by simp, rfl⟩, [], rfl, Good.nil _ _ _⟩
  | q :: qs, s, s', fd, fd', n, h => by
    simp only [gone] at h
    split at h
    · rename_i hq
      obtain ⟨⟨e, he, hl⟩, ps, hp, hg⟩ := gone_fd h
      obtain ⟨i, o, rfl, h1, h2⟩ := isRound_t hq
      refine ⟨⟨[(stepped r s (ofI (PyData.int i, encO o).1) (ofO (PyData.int i, encO o).2)).1, (stepped r s (ofI (PyData.int i, encO o).1) (ofO (PyData.int i, encO o).2)).2.2.2.df] ++ e, by rw [he, List.append_assoc], by simp [hl]; omega⟩, (i, o) :: ps, by rw [hp]; rfl, ?_⟩
      have := Good.app (Good.one (w := w) (r := r) (s := s) (q := (i, o)) hq) (by rw [h1, h2] at hg; exact hg)
      exact this
    · cases h
theorem gone_ok {w : Wld} {r : Rul} (hr : r.ok) : ∀ {rs : List Rd2} {s s' : Std} {fd fd' : List Int} {n : Nat}, s.ok r → gone w r s fd n rs = (none, fd', s') → s'.ok r
  | [], s, s', fd, fd', n, hs, h => by
    simp only [gone, Prod.mk.injEq] at h
    obtain ⟨_, _, rfl⟩ := h
    exact hs
  | q :: qs, s, s', fd, fd', n, hs, h => by
    simp only [gone] at h
    split at h
    · exact gone_ok hr (stepped_ok hr hs).1 h
    · cases h
theorem CallS.wk {S : Spc} {xs : List Dx} {H : Hp} {E : XK} {R : PX} (h : CallS S xs H Eno R) : CallS S xs H E R := by
  obtain ⟨i, h1, h2, h3, h4⟩ := h
  exact ⟨i, h1, h2, h3, fun c d H2 f e => (h4 c d H2 f e).elim⟩
def S_need_many (CB CN : Addr) : Spc where
  ι := PyData × List PyData
  args i := [.d i.1, .d (.tuple i.2)]
  pre _ _ := True
  mod _ := []
  post i x _ := x = .d .none ∧ ∃ n : Int, i.1 = .int n ∧ 1 ≤ n ∧ n ≤ (i.2.length : Nat)
  ex i c d H := ((∀ n : Int, i.1 = .int n → n < 1) ∧ Thrown CB "given" i.1 c d H) ∨ ∃ n : Int, i.1 = .int n ∧ 1 ≤ n ∧ (i.2.length : Nat) < n ∧ Thrown CN "many" i.1 c d H
/-- the pair is as it was made by rounds that can be done -/
structure PSt.ok (s : PSt) : Prop where
  r : s.r.ok
  w : s.w.ok
  st : s.now.st.ok s.r
  b : -500 ≤ s.b ∧ s.b ≤ 500
  nr : s.now.rs.length ≤ 500
  nd : s.now.df.length ≤ 2000
  np : s.past.length ≤ 500
  nc : s.coming.length ≤ 500
theorem noL_q (q : Rnd) : noL q.rd.1 = true ∧ noL q.rd.2 = true := by
  obtain ⟨i, o⟩ := q
  cases o <;> exact ⟨rfl, rfl⟩
def S_p___init__ (C : Addr) : Spc where
  ι := Addr × Wld × Rul × Int
  args i := [.o (.ref i.1), .d i.2.1.enc, .d (encR i.2.2.1), .d (.int i.2.2.2)]
  pre i H := (∃ dx, H i.1 = some (.ins C dx [])) ∧ i.2.1.ok ∧ i.2.2.1.ok ∧ -500 ≤ i.2.2.2 ∧ i.2.2.2 ≤ 500
  mod i := [i.1]
  post i x H := x = .d .none ∧ PairAt H i.1 C ⟨i.2.1, i.2.2.1, i.2.2.2, ⟨[], ⟨0, 0, i.2.2.2⟩, [i.2.2.2]⟩, [], []⟩
def PSt.did (s : PSt) (qs : List Rnd) (st : Std) (e : List Int) : PSt := { s with now := ⟨s.now.rs ++ qs, st, s.now.df ++ e⟩, past := s.past ++ [s.now], coming := [] }
def S_p_do (C CR : Addr) : Spc where
  ι := (Addr × PSt) × List Rd2
  args i := [.o (.ref i.1.1), .d (encRs i.2)]
  pre i H := PairAt H i.1.1 C i.1.2 ∧ i.1.2.ok ∧ i.2.length ≤ 500 ∧ ∀ q ∈ i.2, noL q.1 = true ∧ noL q.2 = true
  mod i := [i.1.1]
  post i x H := x = .d .none ∧ ∃ qs st e, i.2 = Rnd.rd <$> qs ∧ gone i.1.2.w i.1.2.r i.1.2.now.st [i.1.2.now.st.df] 0 i.2 = (none, i.1.2.now.st.df :: e, st) ∧ PairAt H i.1.1 C (i.1.2.did qs st e)
  ex i c d H := ∃ n : Nat, (gone i.1.2.w i.1.2.r i.1.2.now.st [i.1.2.now.st.df] 0 i.2).1 = some n ∧ Thrown CR "number" (.int (n : Nat)) c d H ∧ PairAt H i.1.1 C i.1.2
section
variable {P : Program} {w : World} {K : PySem.W.Frag} {mg : Str → Option Value} {base : Heap} {f C CRd CRn CNb CLf : Addr} {fd : FuncData} (G : GF mg)
include G
omit G in
theorem sc_need_many : FnScope ["many", "some"] ["many", "some"] (defScope (top 49)) := ⟨rfl, rfl, rfl, by decide +kernel, rfl, by decide +kernel, by decide +kernel⟩
theorem ok_need_many (D_is_integer : DefOk P w K mg base 1 "is_integer" ["thing"] S_is_integer) (MNb : MkE P w K mg base CNb "BadNumber" "given" "given" "ValueError.__new__" veB) (MLf : MkE P w K mg base CLf "NothingLeft" "many" "many" "RuntimeError.__new__" rtB) (F : FnP K "need_many" "need_many" (top 49) [] f fd) : FnOk P w K mg base (L2.CX P w) 3 f fd ["many", "some"] (sp (S_need_many CNb CLf)) := by
  have sc := sc_need_many
  refine ok_exc F sc (fun _ => rfl) fun cdv A outer s H E hr => ⟨_, pss_cons (ps_if (PW.pt (pw_or (pt_not (pt_val (pe_D D_is_integer (hr.mono (by decide)) rfl pass_none (pa_cons (pe_var (i := 0) rfl (.inl rfl)) (pa_nil))))) (pw_or1 (pt_cmpR op_lt (pe_var (i := 0) rfl (.inl rfl)) (pe_int) (nomark _))))) (pss_one (ps_raise rfl takesE (pmk_E baseVE MNb (hr.mono (by decide)) rfl (pa_cons (pe_var (i := 0) rfl (.inl rfl)) (pa_nil))))) (pss_nil)) (pss_one (ps_if (pt_cmpR op_gt (pe_var (i := 0) rfl (.inl rfl)) (pe_callB call_len_seq rfl (G.gfree "len" (by decide +kernel)) (by decide +kernel) (pa_cons (pe_var (i := 1) rfl (.inl rfl)) (pa_nil))) (nomark _)) (pss_one (ps_raise rfl takesE (pmk_E baseRT MLf (hr.mono (by decide)) rfl (pa_cons (pe_var (i := 0) rfl (.inl rfl)) (pa_nil))))) (pss_nil))), fun (i : PyData × List PyData) hp hx => ?_⟩
  obtain ⟨d, l⟩ := i
  have hx : ∀ c dd H', Fr [] H H' → ((∀ n : Int, d = .int n → n < 1) ∧ Thrown CNb "given" d c dd H') ∨ (∃ n : Int, d = .int n ∧ 1 ≤ n ∧ (l.length : Nat) < n ∧ Thrown CLf "many" d c dd H') → E c dd H' := hx
  have bad : ∀ (EE : EX) H1, Same H H1 → (∀ n : Int, d = .int n → n < 1) → Go [] (fun D σ H => tMkO CNb (sp (S_einit CNb "given")) [] (tCons (tVar 0) tNil) σ H fun cls d H' => E cls d H') EE [some (.d d), some (.d (.tuple l))] H1 := fun EE H1 e1 hn => go_throw (C := CNb) (f := "given") (wa_cons (w_var (i := 0) rfl (wa_nil ⟨d, rfl, fun c dd H4 f4 t => hx c dd H4 (e1.frq.trans f4) (.inl ⟨hn, t⟩)⟩)))
  cases d with
  | int n =>
    repeat walk_at "k2"
    refine ⟨fun h => ?_, fun h => ?_⟩
    · exact bad _ _ (by walk_at "same") fun m e => by cases e; exact of_decide_eq_true h
    · have h : ¬ n < 1 := of_decide_eq_false h
      repeat walk_at "k3"
      refine ⟨fun h2 => ?_, fun h2 => ?_⟩
      · have h2 : (l.length : Nat) < n := of_decide_eq_true h2
        exact go_throw (wa_cons (w_var (i := 0) rfl (wa_nil ⟨_, rfl, fun c dd H4 f4 t => hx c dd H4 ((show Same H _ by walk_at "same").frq.trans f4) (.inr ⟨n, rfl, by omega, h2, t⟩)⟩)))
      · have h2 : ¬ (l.length : Nat) < n := of_decide_eq_false h2
        refine go_next ?_
        exact ⟨(show Same H _ by walk_at "same").frq, fun _ _ => ⟨rfl, n, rfl, by omega, by show n ≤ ((l.length : Nat) : Int); omega⟩⟩
  | _ =>
    repeat walk_at "k2"
    exact bad _ _ (by walk_at "same") fun m e => by cases e
end
end K2

set_option Elab.async false
set_option linter.all false
set_option maxRecDepth 100000
set_option pp.deepTerms false
set_option pp.deepTerms.threshold 10
set_option maxHeartbeats 4000000
namespace K2
open PySem L2 PySem.Spec PyProof.Rows StX RZ
local macro_rules | `(tactic| walk_at "k2") => `(tactic| first
  | with_reducible refine w_var rfl ?_
  | with_reducible refine w_int ?_
  | with_reducible refine w_bl ?_
  | with_reducible refine w_non ?_
  | with_reducible refine w_str ?_
  | with_reducible refine w_o ?_
  | with_reducible refine wa_cons ?_
  | with_reducible refine wa_nil ?_
  | with_reducible refine w_op ?_
  | with_reducible refine w_un ?_
  | with_reducible refine w_cb ?_
  | with_reducible refine w_call0 ?_
  | with_reducible refine w_chain ?_
  | with_reducible refine w_tup ?_
  | with_reducible refine w_lst ?_
  | with_reducible refine w_andV ?_
  | with_reducible refine w_orV ?_
  | with_reducible refine w_notV ?_
  | with_reducible refine w_if ?_
  | with_reducible refine wt_test ?_
  | with_reducible refine wt_B ?_
  | with_reducible refine wt_and ?_
  | with_reducible refine wt_or ?_
  | with_reducible refine wt_not ?_
  | with_reducible refine go_seq ?_
  | with_reducible refine go_ret ?_
  | with_reducible refine go_retN ?_
  | with_reducible refine go_set ?_
  | with_reducible refine go_par ?_
  | with_reducible refine go_par3 ?_
  | with_reducible refine go_asg ?_
  | with_reducible refine go_next ?_
  | with_reducible refine go_if ?_
  | with_reducible refine o2_ii ?_
  | with_reducible refine o2_ib ?_
  | with_reducible refine o1_i ?_
  | with_reducible refine o2_isN ?_
  | with_reducible refine o2_notN ?_
  | with_reducible refine oa_isiI ?_
  | with_reducible refine oa_isiB ?_
  | with_reducible refine oa_isiT ?_
  | with_reducible refine oa_isiS ?_
  | with_reducible refine oa_abs ?_
  | with_reducible refine oa_max ?_
  | with_reducible refine oa_min ?_
  | with_reducible refine oa_len ?_
  | with_reducible refine oa_lenL ?_
  | with_reducible refine oa_intB ?_
  | refine ⟨[_, _], rfl, Nat.le_of_ble_eq_true rfl, ?_⟩
  | refine ⟨[_, _, _], rfl, Nat.le_of_ble_eq_true rfl, ?_⟩
  | refine ⟨[_, _, _, _], rfl, Nat.le_of_ble_eq_true rfl, ?_⟩
  | refine ⟨[_], rfl, Nat.le_of_ble_eq_true rfl, ?_⟩
  | refine ⟨[], rfl, Nat.le_of_ble_eq_true rfl, ?_⟩)

local macro_rules | `(tactic| walk_at "k2") => `(tactic| first
  | with_reducible refine ex_b ?_
  | refine both_t rfl ?_
  | refine both_f rfl ?_
  | refine both_f2 rfl ?_
  | refine both_t2 rfl ?_
  | with_reducible refine cs_is_integer fun _ _ => ?_
  | with_reducible refine cs_is_whole fun _ _ => ?_
  | refine oa_len ?_
  | refine oa_lenL ?_
  | refine o2_ixT rfl ?_
  | refine o2_ixL rfl ?_
  | refine o2_in rfl rfl ?_
  | refine o2_eqI ?_
  | refine o2_neI ?_
  | refine o2_eqS (by decide +kernel) (by decide +kernel) ?_
  | refine o2_neS (by decide +kernel) (by decide +kernel) ?_
  | refine o2_eqD (Deed.shp _).ok rfl ?_
  | refine both_t (by decide +kernel) ?_
  | refine both_f (by decide +kernel) ?_
  | refine both_f2 (by decide +kernel) ?_
  | refine both_t2 (by decide +kernel) ?_
  | with_reducible refine w_slT ?_
  | with_reducible refine wg_name ?_
  | with_reducible refine wgs_cons ?_
  | with_reducible refine wgs_nil ?_
  | refine o2_ii ?_
  | refine o2_ib ?_
  | refine o2_isN ?_
  | refine o2_notN ?_
  | refine wg_tup rfl ?_
  | refine wgs_cons ?_
  | refine wgs_nil ?_
  | with_reducible refine w_slL ?_
  | with_reducible refine wo_no ?_
  | with_reducible refine wo_some ?_
  | with_reducible refine ⟨_, _, rfl, rfl, ?_⟩
  | with_reducible refine ⟨_, rfl, ?_⟩
  | with_reducible refine ⟨_, _, rfl, ?_⟩
  | with_reducible refine ⟨_, _, _, rfl, ?_⟩)
local macro_rules | `(tactic| walk_at "same") => `(tactic| ((repeat (first | exact Same.refl _ | assumption | refine Same.trans ?_ (by assumption)))))

local macro_rules | `(tactic| walk_at "k3") => `(tactic| first
  | walk_at "k2"
  | refine both_t (by first | (simp; done) | (simp; omega)) ?_
  | refine both_f (by first | (simp; done) | (simp; omega)) ?_
  | refine both_f2 (by first | (simp; done) | (simp; omega)) ?_
  | refine both_t2 (by first | (simp; done) | (simp; omega)) ?_
  | refine go_next ?_
  | refine go_drop ?_)
theorem cs_needW {w : Wld} (h : w.ok) {H : Hp} {R : PX} (k : ∀ H2, Same H H2 → R (.d w.enc) H2) : CallS S_need_world [.d w.enc] H Eno R := CallS.pure (S := S_need_world) w rfl (fun _ _ => h) rfl fun x H2 e po => by
  obtain rfl := po
  exact k H2 e
theorem cs_needR {w : Rul} (h : w.ok) {H : Hp} {R : PX} (k : ∀ H2, Same H H2 → R (.d (encR w)) H2) : CallS S_need_rule [.d (encR w)] H Eno R := CallS.pure (S := S_need_rule) w rfl (fun _ _ => h) rfl fun x H2 e po => by
  obtain rfl := po
  exact k H2 e
theorem cs_gone {w : Wld} {r : Rul} {s : Std} {rs : List Rd2} (hr : r.ok) (hs : s.ok r) (hl : rs.length ≤ 1000) (hn : ∀ q ∈ rs, noL q.1 = true ∧ noL q.2 = true) {H : Hp} {R : PX} (k : ∀ H2, Same H H2 → R (.d (encG (gone w r s [s.df] 0 rs))) H2) : CallS S_gone_through [.d w.enc, .d (encR r), .d s.enc, .d (encRs rs)] H Eno R := CallS.pure (S := S_gone_through) (w, r, s, rs) rfl (fun _ _ => ⟨hr, hs, hl, hn⟩) rfl fun x H2 e po => by
  obtain rfl := po
  exact k H2 e
section
variable {P : Program} {w : World} {K : PySem.W.Frag} {mg : Str → Option Value} {base : Heap} {f C : Addr} {fd : FuncData} (G : GF mg) (PK : PairK K mg C)
include G PK
omit G PK in
theorem sc_p___init__ : FnScope ["self", "world", "rule", "difference"] ["self", "world", "rule", "difference"] (defScope (meth 48 0)) := ⟨rfl, rfl, rfl, by decide +kernel, rfl, by decide +kernel, by decide +kernel⟩
theorem ok_p___init__ (D_need_world : DefOk P w K mg base 4 "need_world" ["thing"] S_need_world) (D_need_rule : DefOk P w K mg base 6 "need_rule" ["thing"] S_need_rule) (D_is_whole : DefOk P w K mg base 2 "is_whole" ["thing", "least", "most"] S_is_whole)  (F : FnP K "__init__" "Pair.__init__" (meth 48 0) [] f fd) : FnOk P w K mg base (L2.CX P w) 7 f fd ["self", "world", "rule", "difference"] (sp (S_p___init__ C)) := by
  have sc := sc_p___init__
  refine ok_pure F sc (fun _ => rfl) fun cdv A outer s H E hr => ⟨_, pss_cons (ps_fld (pe_var (i := 0) rfl (.inl rfl)) (pe_D D_need_world (hr.mono (by decide)) rfl pass_none (pa_cons (pe_var (i := 1) rfl (.inl rfl)) (pa_nil))) rfl) (pss_cons (ps_fld (pe_var (i := 0) rfl (.inl rfl)) (pe_D D_need_rule (hr.mono (by decide)) rfl pass_none (pa_cons (pe_var (i := 2) rfl (.inl rfl)) (pa_nil))) rfl) (pss_cons (ps_if (pt_not (pt_val (pe_D D_is_whole (hr.mono (by decide)) rfl pass_none (pa_cons (pe_var (i := 3) rfl (.inl rfl)) (pa_cons (pe_un un_neg (pe_gi (G.gint ("MOST_BEGIN", 500) (by decide +kernel)) rfl)) (pa_cons (pe_gi (G.gint ("MOST_BEGIN", 500) (by decide +kernel)) rfl) (pa_nil))))))) (pss_one (ps_never)) (pss_nil)) (pss_cons (ps_fld (pe_var (i := 0) rfl (.inl rfl)) (pe_var (i := 3) rfl (.inl rfl)) rfl) (pss_cons (ps_fld (pe_var (i := 0) rfl (.inl rfl)) (pe_tup (pa_cons (pe_tup (pa_nil)) (pa_cons (pe_tup (pa_cons (pe_int) (pa_cons (pe_int) (pa_cons (pe_var (i := 3) rfl (.inl rfl)) (pa_nil))))) (pa_cons (pe_tup (pa_cons (pe_var (i := 3) rfl (.inl rfl)) (pa_nil))) (pa_nil))))) rfl) (pss_cons (ps_fld (pe_var (i := 0) rfl (.inl rfl)) (pe_tup (pa_nil)) rfl) (pss_one (ps_fld (pe_var (i := 0) rfl (.inl rfl)) (pe_tup (pa_nil)) rfl))))))), fun (i : Addr × Wld × Rul × Int) hp => ?_⟩
  obtain ⟨p, wd, r, b⟩ := i
  obtain ⟨⟨dx, hp⟩, hw, hrl, hb0, hb1⟩ := (show (∃ dx, H p = some (.ins C dx [])) ∧ wd.ok ∧ r.ok ∧ -500 ≤ b ∧ b ≤ 500 from hp)
  refine go_seq (go_fld (C := C) ?_)
  repeat walk_at "k2"
  refine cs_needW hw fun H1 e1 => ?_
  refine w_var rfl ⟨p, dx, [], rfl, e1 _ _ hp, PK.cls, PK.na _ (by simp), by decide, fun v1 H2 _ f2 hp2 d1 => ?_⟩
  refine go_seq (go_fld (C := C) ?_)
  repeat walk_at "k2"
  refine cs_needR hrl fun H3 e3 => ?_
  refine w_var rfl ⟨p, dx, _, rfl, e3 _ _ hp2, PK.cls, PK.na _ (by simp), Nat.le_of_ble_eq_true rfl, fun v2 H4 _ f4 hp4 d2 => ?_⟩
  refine go_seq (go_if (wt_not (wt_B ?_)))
  repeat walk_at "k2"
  rw [show isWhole (PyData.int b) (-500) 500 = true from isWhole_t hb0 hb1]
  refine both_f rfl ?_
  have g4 := f4.ft
  refine go_next (go_seq (go_fld (C := C) (w_var (i := 3) rfl (w_var rfl ⟨p, dx, _, rfl, (show Same H4 _ by walk_at "same") _ _ hp4, PK.cls, PK.na _ (by simp), Nat.le_of_ble_eq_true rfl, fun v3 H5 _ f5 hp5 d3 => ?_⟩))))
  refine go_seq (go_fld (C := C) ?_)
  repeat walk_at "k2"
  refine ⟨p, dx, _, rfl, hp5, PK.cls, PK.na _ (by simp), Nat.le_of_ble_eq_true rfl, fun v4 H6 _ f6 hp6 d4 => ?_⟩
  refine go_seq (go_fld (C := C) ?_)
  repeat walk_at "k2"
  refine ⟨p, dx, _, rfl, hp6, PK.cls, PK.na _ (by simp), Nat.le_of_ble_eq_true rfl, fun v5 H7 _ f7 hp7 d5 => ?_⟩
  refine go_fld (C := C) ?_
  repeat walk_at "k2"
  refine ⟨p, dx, _, rfl, hp7, PK.cls, PK.na _ (by simp), Nat.le_of_ble_eq_true rfl, fun v6 H8 _ f8 hp8 d6 => ?_⟩
  have h45 : Fr [p] H4 H5 := (show Same H4 _ by walk_at "same").frq.trans f5
  have ha : Fr [p] H2 H8 := (((((e3.frq.trans f4).trans h45).trans f6).trans f7).trans f8)
  refine ⟨(e1.frq.trans f2).trans ha, fun H9 e9 => ⟨rfl, dx, v1, v2, v3, v4, v5, v6, e9 _ _ hp8, ?_, ?_, ?_, ?_, ?_, ?_⟩⟩
  · exact ft_dp (ha.ft.trans e9.ftq) _ _ d1
  · exact ft_dp ((((h45.trans f6).trans f7).trans f8).ft.trans e9.ftq) _ _ d2
  · exact ft_dp (((f6.trans f7).trans f8).ft.trans e9.ftq) _ _ d3
  · exact ft_dp ((f7.trans f8).ft.trans e9.ftq) _ _ d4
  · exact ft_dp (f8.ft.trans e9.ftq) _ _ d5
  · exact ft_dp e9.ftq _ _ d6
end
end K2

set_option Elab.async false
set_option linter.all false
set_option maxRecDepth 100000
set_option pp.deepTerms false
set_option pp.deepTerms.threshold 10
set_option maxHeartbeats 4000000
namespace K2
open PySem L2 PySem.Spec PyProof.Rows StX RZ
local macro_rules | `(tactic| walk_at "k2") => `(tactic| first
  | with_reducible refine w_var rfl ?_
  | with_reducible refine w_int ?_
  | with_reducible refine w_bl ?_
  | with_reducible refine w_non ?_
  | with_reducible refine w_str ?_
  | with_reducible refine w_o ?_
  | with_reducible refine wa_cons ?_
  | with_reducible refine wa_nil ?_
  | with_reducible refine w_op ?_
  | with_reducible refine w_un ?_
  | with_reducible refine w_cb ?_
  | with_reducible refine w_call0 ?_
  | with_reducible refine w_chain ?_
  | with_reducible refine w_tup ?_
  | with_reducible refine w_lst ?_
  | with_reducible refine w_andV ?_
  | with_reducible refine w_orV ?_
  | with_reducible refine w_notV ?_
  | with_reducible refine w_if ?_
  | with_reducible refine wt_test ?_
  | with_reducible refine wt_B ?_
  | with_reducible refine wt_and ?_
  | with_reducible refine wt_or ?_
  | with_reducible refine wt_not ?_
  | with_reducible refine go_seq ?_
  | with_reducible refine go_ret ?_
  | with_reducible refine go_retN ?_
  | with_reducible refine go_set ?_
  | with_reducible refine go_par ?_
  | with_reducible refine go_par3 ?_
  | with_reducible refine go_asg ?_
  | with_reducible refine go_next ?_
  | with_reducible refine go_if ?_
  | with_reducible refine o2_ii ?_
  | with_reducible refine o2_ib ?_
  | with_reducible refine o1_i ?_
  | with_reducible refine o2_isN ?_
  | with_reducible refine o2_notN ?_
  | with_reducible refine oa_isiI ?_
  | with_reducible refine oa_isiB ?_
  | with_reducible refine oa_isiT ?_
  | with_reducible refine oa_isiS ?_
  | with_reducible refine oa_abs ?_
  | with_reducible refine oa_max ?_
  | with_reducible refine oa_min ?_
  | with_reducible refine oa_len ?_
  | with_reducible refine oa_lenL ?_
  | with_reducible refine oa_intB ?_
  | refine ⟨[_, _], rfl, Nat.le_of_ble_eq_true rfl, ?_⟩
  | refine ⟨[_, _, _], rfl, Nat.le_of_ble_eq_true rfl, ?_⟩
  | refine ⟨[_, _, _, _], rfl, Nat.le_of_ble_eq_true rfl, ?_⟩
  | refine ⟨[_], rfl, Nat.le_of_ble_eq_true rfl, ?_⟩
  | refine ⟨[], rfl, Nat.le_of_ble_eq_true rfl, ?_⟩)

local macro_rules | `(tactic| walk_at "k2") => `(tactic| first
  | with_reducible refine ex_b ?_
  | refine both_t rfl ?_
  | refine both_f rfl ?_
  | refine both_f2 rfl ?_
  | refine both_t2 rfl ?_
  | with_reducible refine cs_is_integer fun _ _ => ?_
  | with_reducible refine cs_is_whole fun _ _ => ?_
  | refine oa_len ?_
  | refine oa_lenL ?_
  | refine o2_ixT rfl ?_
  | refine o2_ixL rfl ?_
  | refine o2_in rfl rfl ?_
  | refine o2_eqI ?_
  | refine o2_neI ?_
  | refine o2_eqS (by decide +kernel) (by decide +kernel) ?_
  | refine o2_neS (by decide +kernel) (by decide +kernel) ?_
  | refine o2_eqD (Deed.shp _).ok rfl ?_
  | refine both_t (by decide +kernel) ?_
  | refine both_f (by decide +kernel) ?_
  | refine both_f2 (by decide +kernel) ?_
  | refine both_t2 (by decide +kernel) ?_
  | with_reducible refine w_slT ?_
  | with_reducible refine wg_name ?_
  | with_reducible refine wgs_cons ?_
  | with_reducible refine wgs_nil ?_
  | refine o2_ii ?_
  | refine o2_ib ?_
  | refine o2_isN ?_
  | refine o2_notN ?_
  | refine wg_tup rfl ?_
  | refine wgs_cons ?_
  | refine wgs_nil ?_
  | with_reducible refine w_slL ?_
  | with_reducible refine wo_no ?_
  | with_reducible refine wo_some ?_
  | with_reducible refine ⟨_, _, rfl, rfl, ?_⟩
  | with_reducible refine ⟨_, rfl, ?_⟩
  | with_reducible refine ⟨_, _, rfl, ?_⟩
  | with_reducible refine ⟨_, _, _, rfl, ?_⟩)
local macro_rules | `(tactic| walk_at "same") => `(tactic| ((repeat (first | exact Same.refl _ | assumption | refine Same.trans ?_ (by assumption)))))

local macro_rules | `(tactic| walk_at "k3") => `(tactic| first
  | walk_at "k2"
  | refine both_t (by first | (simp; done) | (simp; omega)) ?_
  | refine both_f (by first | (simp; done) | (simp; omega)) ?_
  | refine both_f2 (by first | (simp; done) | (simp; omega)) ?_
  | refine both_t2 (by first | (simp; done) | (simp; omega)) ?_
  | refine go_next ?_
  | refine go_drop ?_)
section
variable {P : Program} {w : World} {K : PySem.W.Frag} {mg : Str → Option Value} {base : Heap} {f C CRd CRn CNb CLf : Addr} {fd : FuncData} (G : GF mg) (PK : PairK K mg C)
include G PK
omit G PK in
theorem sc_p_do : FnScope ["self", "some", "wrong", "found", "stand"] ["self", "some"] (defScope (meth 48 6)) := ⟨rfl, rfl, rfl, by decide +kernel, rfl, by decide +kernel, by decide +kernel⟩
theorem ok_p_do (D_gone_through : DefOk P w K mg base 4 "gone_through" ["world", "rule", "begin", "rounds"] S_gone_through)  (MRn : MkE P w K mg base CRn "BadRun" "number" "number" "ValueError.__new__" veB) (F : FnP K "do" "Pair.do" (meth 48 6) [] f fd) : FnOk P w K mg base (L2.CX P w) 5 f fd ["self", "some"] (sp (S_p_do C CRn)) := by
  have sc := sc_p_do
  refine ok_exc F sc (fun _ => rfl) fun cdv A outer s H E hr => ⟨_, pss_cons (ps_asg (pe_D D_gone_through (hr.mono (by decide)) rfl pass_none (pa_cons (pe_fld (pe_var (i := 0) rfl (.inl rfl)) rfl) (pa_cons (pe_fld (pe_var (i := 0) rfl (.inl rfl)) rfl) (pa_cons (pe_ix ix_seq (pe_fld (pe_var (i := 0) rfl (.inl rfl)) rfl) (pe_int) (fun _ _ => rfl)) (pa_cons (pe_var (i := 1) rfl (.inl rfl)) (pa_nil)))))) (pg_tup rfl (pgs_cons (pg_name (i := 2) sc.nd rfl (.inl rfl)) (pgs_cons (pg_name (i := 3) sc.nd rfl (.inl rfl)) (pgs_cons (pg_name (i := 4) sc.nd rfl (.inl rfl)) (pgs_nil)))))) (pss_cons (ps_if (pt_cmpR op_notN (pe_var (i := 2) rfl (.inl rfl)) (pe_non) (nomark _)) (pss_one (ps_raise rfl takesE (pmk_E baseVE MRn (hr.mono (by decide)) rfl (pa_cons (pe_var (i := 2) rfl (.inl rfl)) (pa_nil))))) (pss_nil)) (pss_cons (ps_if (pt_cmpR op_gt (pe_op op_add (pe_callB call_len_seq rfl (G.gfree "len" (by decide +kernel)) (by decide +kernel) (pa_cons (pe_ix ix_seq (pe_fld (pe_var (i := 0) rfl (.inl rfl)) rfl) (pe_int) (fun _ _ => rfl)) (pa_nil))) (pe_callB call_len_seq rfl (G.gfree "len" (by decide +kernel)) (by decide +kernel) (pa_cons (pe_var (i := 1) rfl (.inl rfl)) (pa_nil)))) (pe_gi (G.gint ("MOST_DONE", 1000) (by decide +kernel)) rfl) (nomark _)) (pss_one (ps_never)) (pss_nil)) (pss_cons (ps_fld (pe_var (i := 0) rfl (.inl rfl)) (pe_op op_catA (pe_fld (pe_var (i := 0) rfl (.inl rfl)) rfl) (pe_tup (pa_cons (pe_fld (pe_var (i := 0) rfl (.inl rfl)) rfl) (pa_nil)))) rfl) (pss_cons (ps_fld (pe_var (i := 0) rfl (.inl rfl)) (pe_tup (pa_cons (pe_op op_catA (pe_ix ix_seq (pe_fld (pe_var (i := 0) rfl (.inl rfl)) rfl) (pe_int) (fun _ _ => rfl)) (pe_var (i := 1) rfl (.inl rfl))) (pa_cons (pe_var (i := 4) rfl (.inl rfl)) (pa_cons (pe_op op_catA (pe_ix ix_seq (pe_fld (pe_var (i := 0) rfl (.inl rfl)) rfl) (pe_int) (fun _ _ => rfl)) (pe_callTy call_tuple_of rfl (G.gfree "tuple" (by decide +kernel)) (by decide +kernel) (pa_cons (pe_slice sl_list (pe_var (i := 3) rfl (.inl rfl)) (po_some (pe_int)) (po_none)) (pa_nil)))) (pa_nil))))) rfl) (pss_one (ps_fld (pe_var (i := 0) rfl (.inl rfl)) (pe_tup (pa_nil)) rfl)))))), fun (i : (Addr × PSt) × List Rd2) hp hx => ?_⟩
  obtain ⟨⟨p, s⟩, rs⟩ := i
  obtain ⟨hp1, so, hl, hn⟩ := (show PairAt H p C s ∧ s.ok ∧ rs.length ≤ 500 ∧ ∀ q ∈ rs, noL q.1 = true ∧ noL q.2 = true from hp)
  have nr := so.nr
  have nd := so.nd
  have np := so.np
  refine go_seq (go_asg (w_call0 (wa_cons (w_pown_world PK (w_var rfl ⟨p, _, _, _, _, _, _, rfl, hp1, ?_⟩)))))
  refine wa_cons (w_pown_rule PK (w_var rfl ⟨p, _, _, _, _, _, _, rfl, hp1, ?_⟩))
  refine wa_cons (w_op (w_pnow PK (w_var rfl ⟨p, _, _, _, _, _, _, rfl, hp1, w_int (o2_ixT rfl ?_)⟩)))
  repeat walk_at "k2"
  refine CallS.wk (cs_gone so.r so.st (by omega) hn fun H1 e1 => ?_)
  have hx : ∀ c d H', Fr [p] H H' → (∃ n : Nat, (gone s.w s.r s.now.st [s.now.st.df] 0 rs).1 = some n ∧ Thrown CRn "number" (.int (n : Nat)) c d H' ∧ PairAt H' p C s) → E c d H' := hx
  generalize hg : gone s.w s.r s.now.st [s.now.st.df] 0 rs = g at hx ⊢
  obtain ⟨wr, fd, st⟩ := g
  cases wr with
  | some n =>
    repeat walk_at "k2"
    refine go_throw (wa_cons (w_var (x := .d (.int (n : Nat))) rfl (wa_nil ⟨_, rfl, fun c d H4 f4 t => hx c d H4 ((show Same H _ by walk_at "same").frq.trans f4.same.frq) ⟨n, rfl, t, hp1.same ((show Same H _ by walk_at "same").trans f4.same)⟩⟩)))
  | none =>
    obtain ⟨⟨e, he, el⟩, qs, rfl, hgd⟩ := gone_fd hg
    subst he
    have ql : qs.length ≤ 500 := by rw [List.length_map] at hl; exact hl
    rw [List.length_map] at el
    repeat walk_at "k2"
    refine w_pnow PK (w_var rfl ⟨p, _, _, _, _, _, _, rfl, hp1.same e1, w_int (o2_ixT rfl (wa_nil (oa_len ?_)))⟩)
    refine w_cb (wa_cons (w_var rfl (wa_nil ?_)))
    refine oa_len ?_
    repeat walk_at "k2"
    refine both_f (decide_eq_false (by rw [List.length_map, List.length_map, List.length_map]; omega)) ?_
    refine go_next (go_seq (go_ppast PK (w_op (w_ppast PK (w_var rfl ⟨p, _, _, _, _, _, _, rfl, hp1.same e1, ?_⟩)))))
    refine w_tup (wa_cons (w_pnow PK (w_var rfl ⟨p, _, _, _, _, _, _, rfl, hp1.same e1, wa_nil ⟨[_], rfl, Nat.le_of_ble_eq_true rfl, ?_⟩⟩)))
    refine o2_catT (by rw [List.length_map]; simp; omega) ?_
    refine w_var rfl ⟨p, _, _, _, _, _, _, _, rfl, rfl, hp1.same e1, fun H2 f2 hp2 => ?_⟩
    refine go_seq (go_pnow PK (w_tup (wa_cons (w_op (w_op (w_pnow PK (w_var rfl ⟨p, _, _, _, _, _, _, rfl, hp2, w_int (o2_ixT rfl ?_)⟩)))))))
    refine w_var rfl (o2_catT (by simp <;> omega) ?_)
    refine wa_cons (w_var rfl (wa_cons (w_op (w_op (w_pnow PK (w_var rfl ⟨p, _, _, _, _, _, _, rfl, hp2, w_int (o2_ixT rfl ?_)⟩))))))
    refine w_cb (wa_cons (w_slL (w_var rfl ⟨_, rfl, wo_some (w_int ⟨_, rfl, wo_no (wa_nil (oa_tupL ?_))⟩)⟩)))
    have ec : cutD ((s.now.st.df :: e).map PyData.int) (some 1) none = e.map .int := cutD_from _ 1
    rw [show cutD (List.map PyData.int ([s.now.st.df] ++ e)) (some 1) none = e.map .int from ec]
    refine o2_catT (by rw [List.length_map, List.length_map]; omega) ?_
    refine wa_nil ⟨[_, _, _], rfl, Nat.le_of_ble_eq_true rfl, ?_⟩
    refine w_var rfl ⟨p, _, _, _, _, _, _, _, rfl, rfl, hp2, fun H3 f3 hp3 => ?_⟩
    refine go_pcoming PK (w_tup (wa_nil ⟨[], rfl, Nat.le_of_ble_eq_true rfl, ?_⟩))
    refine w_var rfl ⟨p, _, _, _, _, _, _, _, rfl, rfl, hp3, fun H4 f4 hp4 => ?_⟩
    refine ⟨((e1.frq.trans f2).trans f3).trans f4, fun H5 e5 => ⟨rfl, qs, st, e, rfl, hg, ?_⟩⟩
    have e1 : s.past.map Nw.enc ++ [s.now.enc] = (s.past ++ [s.now]).map Nw.enc := by rw [List.map_append]; rfl
    have e2 : s.now.rs.map rde ++ (qs.map Rnd.rd).map Rd2.enc = (s.now.rs ++ qs).map rde := by rw [List.map_append, List.map_map]; rfl
    have e3 : s.now.df.map PyData.int ++ e.map .int = (s.now.df ++ e).map .int := by rw [List.map_append]
    rw [e1, e2, e3] at hp4
    exact hp4.same e5
end
end K2

set_option Elab.async false
set_option linter.all false
set_option maxRecDepth 100000
set_option pp.deepTerms false
set_option pp.deepTerms.threshold 10
set_option maxHeartbeats 4000000
namespace K2
open PySem L2 PySem.Spec PyProof.Rows StX RZ
local macro_rules | `(tactic| walk_at "k2") => `(tactic| first
  | with_reducible refine w_var rfl ?_
  | with_reducible refine w_int ?_
  | with_reducible refine w_bl ?_
  | with_reducible refine w_non ?_
  | with_reducible refine w_str ?_
  | with_reducible refine w_o ?_
  | with_reducible refine wa_cons ?_
  | with_reducible refine wa_nil ?_
  | with_reducible refine w_op ?_
  | with_reducible refine w_un ?_
  | with_reducible refine w_cb ?_
  | with_reducible refine w_call0 ?_
  | with_reducible refine w_chain ?_
  | with_reducible refine w_tup ?_
  | with_reducible refine w_lst ?_
  | with_reducible refine w_andV ?_
  | with_reducible refine w_orV ?_
  | with_reducible refine w_notV ?_
  | with_reducible refine w_if ?_
  | with_reducible refine wt_test ?_
  | with_reducible refine wt_B ?_
  | with_reducible refine wt_and ?_
  | with_reducible refine wt_or ?_
  | with_reducible refine wt_not ?_
  | with_reducible refine go_seq ?_
  | with_reducible refine go_ret ?_
  | with_reducible refine go_retN ?_
  | with_reducible refine go_set ?_
  | with_reducible refine go_par ?_
  | with_reducible refine go_par3 ?_
  | with_reducible refine go_asg ?_
  | with_reducible refine go_next ?_
  | with_reducible refine go_if ?_
  | with_reducible refine o2_ii ?_
  | with_reducible refine o2_ib ?_
  | with_reducible refine o1_i ?_
  | with_reducible refine o2_isN ?_
  | with_reducible refine o2_notN ?_
  | with_reducible refine oa_isiI ?_
  | with_reducible refine oa_isiB ?_
  | with_reducible refine oa_isiT ?_
  | with_reducible refine oa_isiS ?_
  | with_reducible refine oa_abs ?_
  | with_reducible refine oa_max ?_
  | with_reducible refine oa_min ?_
  | with_reducible refine oa_len ?_
  | with_reducible refine oa_lenL ?_
  | with_reducible refine oa_intB ?_
  | refine ⟨[_, _], rfl, Nat.le_of_ble_eq_true rfl, ?_⟩
  | refine ⟨[_, _, _], rfl, Nat.le_of_ble_eq_true rfl, ?_⟩
  | refine ⟨[_, _, _, _], rfl, Nat.le_of_ble_eq_true rfl, ?_⟩
  | refine ⟨[_], rfl, Nat.le_of_ble_eq_true rfl, ?_⟩
  | refine ⟨[], rfl, Nat.le_of_ble_eq_true rfl, ?_⟩)

local macro_rules | `(tactic| walk_at "k2") => `(tactic| first
  | with_reducible refine ex_b ?_
  | refine both_t rfl ?_
  | refine both_f rfl ?_
  | refine both_f2 rfl ?_
  | refine both_t2 rfl ?_
  | with_reducible refine cs_is_integer fun _ _ => ?_
  | with_reducible refine cs_is_whole fun _ _ => ?_
  | refine oa_len ?_
  | refine oa_lenL ?_
  | refine o2_ixT rfl ?_
  | refine o2_ixL rfl ?_
  | refine o2_in rfl rfl ?_
  | refine o2_eqI ?_
  | refine o2_neI ?_
  | refine o2_eqS (by decide +kernel) (by decide +kernel) ?_
  | refine o2_neS (by decide +kernel) (by decide +kernel) ?_
  | refine o2_eqD (Deed.shp _).ok rfl ?_
  | refine both_t (by decide +kernel) ?_
  | refine both_f (by decide +kernel) ?_
  | refine both_f2 (by decide +kernel) ?_
  | refine both_t2 (by decide +kernel) ?_
  | with_reducible refine w_slT ?_
  | with_reducible refine wg_name ?_
  | with_reducible refine wgs_cons ?_
  | with_reducible refine wgs_nil ?_
  | refine o2_ii ?_
  | refine o2_ib ?_
  | refine o2_isN ?_
  | refine o2_notN ?_
  | refine wg_tup rfl ?_
  | refine wgs_cons ?_
  | refine wgs_nil ?_
  | with_reducible refine w_slL ?_
  | with_reducible refine wo_no ?_
  | with_reducible refine wo_some ?_
  | with_reducible refine ⟨_, _, rfl, rfl, ?_⟩
  | with_reducible refine ⟨_, rfl, ?_⟩
  | with_reducible refine ⟨_, _, rfl, ?_⟩
  | with_reducible refine ⟨_, _, _, rfl, ?_⟩)
local macro_rules | `(tactic| walk_at "same") => `(tactic| ((repeat (first | exact Same.refl _ | assumption | refine Same.trans ?_ (by assumption)))))

local macro_rules | `(tactic| walk_at "k3") => `(tactic| first
  | walk_at "k2"
  | refine both_t (by first | (simp; done) | (simp; omega)) ?_
  | refine both_f (by first | (simp; done) | (simp; omega)) ?_
  | refine both_f2 (by first | (simp; done) | (simp; omega)) ?_
  | refine both_t2 (by first | (simp; done) | (simp; omega)) ?_
  | refine go_next ?_
  | refine go_drop ?_)
theorem o2_iiE {H : Hp} {R : PX} {g : Int → Int → Int} {i j z : Int} (h : g i j = z) (k : R (.d (.int z)) H) : O2 (rI0 fun i j => .int (g i j)) (.d (.int i)) (.d (.int j)) H R := by
  subst h
  exact o2_ii k
section
variable {X : Cx} {C : Addr} {lvl : Nat} {m : Str} {ps : List Str} {S : Spc} {o e : Expr} {es : List Expr} {ta : TE} {t : TA} {E : XK} {apos pos : Pos}
theorem pe_mD {pl : Sem Bool} (M : MethOk X.prog X.w X.K X.mg X.base C lvl m ps [] S) (c : Cls X.K C) (hr : Room lvl X.A) (hx : Passes (L2.CX X.prog X.w) X E) (he : PE X o ta) (ha : PA X (e :: es) t)
    (hst : starEach (e :: es) X.env = (false, eval e X.env) :: starEach es X.env := by rfl) (hpl : (backTo pos (starEach es X.env)).any (·.1) = false := by rfl)
    (ht : eval (.Call (.Attribute o m apos) (e :: es) [] pos) X.env = (do
      let ov ← eval o X.env
      standAt apos.atName
      let (f, first) ← holding [ov] (getMethod ov m pl)
      callWith pos f first (backTo pos (starEach (e :: es) X.env)) (backToKw pos (keywordEach [] X.env))) := by rfl) :
    PE X (.Call (.Attribute o m apos) (e :: es) [] pos) (tMeth C m (sp S) [] E ta t) := by
  obtain ⟨g, fd, F, hm, b⟩ := M.ex
  exact pe_meth he c hm F hr b .nil hx ha hst hpl ht
theorem pe_m0 {pl : Sem Bool} {dv : V} {dd : Value} (M : MethOk X.prog X.w X.K X.mg X.base C lvl m ps [dd] S) (hv : RelV dv dd) (c : Cls X.K C) (hr : Room lvl X.A) (hx : Passes (L2.CX X.prog X.w) X E) (he : PE X o ta)
    (ht : eval (.Call (.Attribute o m apos) [] [] pos) X.env = (do
      let ov ← eval o X.env
      standAt apos.atName
      let (f, first) ← holding [ov] (getMethod ov m pl)
      callWith pos f first (backTo pos (starEach [] X.env)) (backToKw pos (keywordEach [] X.env))) := by rfl) :
    PE X (.Call (.Attribute o m apos) [] [] pos) (tMeth C m (sp S) [dv] E ta tNil) := by
  obtain ⟨g, fd, F, hm, b⟩ := M.ex
  exact pe_meth0 he c hm F hr b (.cons hv .nil) hx ht
variable {Γ : List Gh} {ρ : Rho} {H : Hp} {R : PX} {te : TE}
theorem w_mP (hm : ∀ f ∈ (["own_world", "own_rule", "begin", "now", "past", "coming"] : List Str), f ≠ m) (h : W Γ te ρ H fun x H1 => ∃ p d1 d2 d3 d4 d5 d6, x = .o (.ref p) ∧ PairD H1 p C d1 d2 d3 d4 d5 d6 ∧ WA Γ t ρ H1 fun xs H2 => CallS S (.o (.ref p) :: xs) H2 E R) :
    W Γ (tMeth C m (sp S) [] E te t) ρ H R := w_meth (dxs := []) (fun _ => .nil) (h.imp fun x H1 k => by
  obtain ⟨p, d1, d2, d3, d4, d5, d6, rfl, hp, k⟩ := k
  obtain ⟨dx, fs, h1, h2⟩ := hp.noMeth hm
  exact ⟨p, dx, fs, rfl, h1, h2, by simpa using k⟩)
end
theorem cs_do {C CR p : Addr} {s : PSt} {rs : List Rd2} (so : s.ok) (hl : rs.length ≤ 500) (hn : ∀ q ∈ rs, noL q.1 = true ∧ noL q.2 = true) {H : Hp} {E : XK} {R : PX} (hp : PairAt H p C s)
    (k : ∀ H2 qs st e, Fr [p] H H2 → rs = Rnd.rd <$> qs → gone s.w s.r s.now.st [s.now.st.df] 0 rs = (none, s.now.st.df :: e, st) → PairAt H2 p C (s.did qs st e) → R (.d .none) H2)
    (kx : ∀ c d H2 n, Fr [p] H H2 → (gone s.w s.r s.now.st [s.now.st.df] 0 rs).1 = some n → Thrown CR "number" (.int (n : Nat)) c d H2 → PairAt H2 p C s → E c d H2) : CallS (S_p_do C CR) [.o (.ref p), .d (encRs rs)] H E R :=
  ⟨((p, s), rs), rfl, fun H' e => ⟨hp.same e, so, hl, hn⟩, fun x H2 f po => by
    obtain ⟨rfl, qs, st, e, h1, h2, h3⟩ := po
    exact k H2 qs st e f h1 h2 h3, fun c d H2 f po => by
    obtain ⟨n, h1, h2, h3⟩ := po
    exact kx c d H2 n f h1 h2 h3⟩
theorem cs_many {CB CN : Addr} {d : PyData} {l : List PyData} {H : Hp} {E : XK} {R : PX} (k : ∀ H2 (n : Int), Same H H2 → d = .int n → 1 ≤ n → n ≤ (l.length : Nat) → R (.d .none) H2)
    (kx : ∀ c dd H2, Same H H2 → (((∀ n : Int, d = .int n → n < 1) ∧ Thrown CB "given" d c dd H2) ∨ ∃ n : Int, d = .int n ∧ 1 ≤ n ∧ (l.length : Nat) < n ∧ Thrown CN "many" d c dd H2) → E c dd H2) : CallS (S_need_many CB CN) [.d d, .d (.tuple l)] H E R :=
  ⟨(d, l), rfl, fun H' e => trivial, fun x H2 f po => by
    obtain ⟨rfl, n, h1, h2, h3⟩ := po
    exact k H2 n f.same h1 h2 h3, fun c dd H2 f po => kx c dd H2 f.same po⟩
def PSt.undo (s : PSt) (n : Nat) : PSt := { s with now := s.past.getD (s.past.length - n) s.now, past := s.past.take (s.past.length - n), coming := s.coming ++ [s.now] ++ (s.past.drop (s.past.length - n + 1)).reverse }
def PSt.redo (s : PSt) (n : Nat) : PSt := { s with now := s.coming.getD (s.coming.length - n) s.now, coming := s.coming.take (s.coming.length - n), past := s.past ++ [s.now] ++ (s.coming.drop (s.coming.length - n + 1)).reverse }
def iaX : PyData ⊕ List Rd2 → PyData
  | .inl d => d
  | .inr rs => encRs rs
def S_p___iadd__ (C CR : Addr) : Spc where
  ι := (Addr × PSt) × (PyData ⊕ List Rd2)
  args i := [.o (.ref i.1.1), .d (iaX i.2)]
  pre i H := PairAt H i.1.1 C i.1.2 ∧ i.1.2.ok ∧ (∀ d, i.2 = .inl d → isiT d = false) ∧ ∀ rs, i.2 = .inr rs → rs.length ≤ 500 ∧ ∀ q ∈ rs, noL q.1 = true ∧ noL q.2 = true
  mod i := [i.1.1]
  post i x H := x = .o (.ref i.1.1) ∧ ∃ qs st e, i.2 = .inr (Rnd.rd <$> qs) ∧ gone i.1.2.w i.1.2.r i.1.2.now.st [i.1.2.now.st.df] 0 (Rnd.rd <$> qs) = (none, i.1.2.now.st.df :: e, st) ∧ PairAt H i.1.1 C (i.1.2.did qs st e)
  ex i c d H := PairAt H i.1.1 C i.1.2 ∧ ((∃ v, i.2 = .inl v ∧ Thrown CR "number" .none c d H) ∨ ∃ rs, ∃ n : Nat, i.2 = .inr rs ∧ (gone i.1.2.w i.1.2.r i.1.2.now.st [i.1.2.now.st.df] 0 rs).1 = some n ∧ Thrown CR "number" (.int (n : Nat)) c d H)
def S_p___call__ (C CRd : Addr) : Spc where
  ι := (Addr × PSt) × Rd2
  args i := [.o (.ref i.1.1), .d i.2.1, .d i.2.2]
  pre i H := PairAt H i.1.1 C i.1.2 ∧ i.1.2.ok ∧ noL i.2.1 = true ∧ noL i.2.2 = true
  mod i := [i.1.1]
  post i x H := ∃ q : Rnd, i.2 = q.rd ∧ isRound i.1.2.w i.1.2.now.st.ms q.rd = true ∧ x = .d (.int (stepped i.1.2.r i.1.2.now.st q.1 q.2).2.2.1) ∧ PairAt H i.1.1 C (i.1.2.did [q] (stepped i.1.2.r i.1.2.now.st q.1 q.2).2.2.2 [(stepped i.1.2.r i.1.2.now.st q.1 q.2).1, (stepped i.1.2.r i.1.2.now.st q.1 q.2).2.2.2.df])
  ex i c d H := isRound i.1.2.w i.1.2.now.st.ms i.2 = false ∧ Thrown CRd "given" (Rd2.enc i.2) c d H ∧ PairAt H i.1.1 C i.1.2
def S_p_undo (C CB CN : Addr) : Spc where
  ι := (Addr × PSt) × PyData
  args i := [.o (.ref i.1.1), .d i.2]
  pre i H := PairAt H i.1.1 C i.1.2 ∧ i.1.2.ok
  mod i := [i.1.1]
  post i x H := x = .d .none ∧ ∃ n : Nat, i.2 = .int (n : Nat) ∧ 1 ≤ n ∧ n ≤ i.1.2.past.length ∧ PairAt H i.1.1 C (i.1.2.undo n)
  ex i c d H := PairAt H i.1.1 C i.1.2 ∧ (((∀ n : Int, i.2 = .int n → n < 1) ∧ Thrown CB "given" i.2 c d H) ∨ ∃ n : Int, i.2 = .int n ∧ 1 ≤ n ∧ (i.1.2.past.length : Nat) < n ∧ Thrown CN "many" i.2 c d H)
def S_p_redo (C CB CN : Addr) : Spc where
  ι := (Addr × PSt) × PyData
  args i := [.o (.ref i.1.1), .d i.2]
  pre i H := PairAt H i.1.1 C i.1.2 ∧ i.1.2.ok
  mod i := [i.1.1]
  post i x H := x = .d .none ∧ ∃ n : Nat, i.2 = .int (n : Nat) ∧ 1 ≤ n ∧ n ≤ i.1.2.coming.length ∧ PairAt H i.1.1 C (i.1.2.redo n)
  ex i c d H := PairAt H i.1.1 C i.1.2 ∧ (((∀ n : Int, i.2 = .int n → n < 1) ∧ Thrown CB "given" i.2 c d H) ∨ ∃ n : Int, i.2 = .int n ∧ 1 ≤ n ∧ (i.1.2.coming.length : Nat) < n ∧ Thrown CN "many" i.2 c d H)
section
variable {P : Program} {w : World} {K : PySem.W.Frag} {mg : Str → Option Value} {base : Heap} {f C CRd CRn CNb CLf : Addr} {fd : FuncData} (G : GF mg) (PK : PairK K mg C)
include G PK
omit G PK in
theorem sc_p_undo : FnScope ["self", "many", "cut"] ["self", "many"] (defScope (meth 48 13)) := ⟨rfl, rfl, rfl, by decide +kernel, rfl, by decide +kernel, by decide +kernel⟩
theorem ok_p_undo (D_need_many : DefOk P w K mg base 3 "need_many" ["many", "some"] (S_need_many CNb CLf))  (MNb : MkE P w K mg base CNb "BadNumber" "given" "given" "ValueError.__new__" veB) (MLf : MkE P w K mg base CLf "NothingLeft" "many" "many" "RuntimeError.__new__" rtB) (F : FnP K "undo" "Pair.undo" (meth 48 13) [.int 1] f fd) : FnOk P w K mg base (L2.CX P w) 4 f fd ["self", "many"] (sp (S_p_undo C CNb CLf)) := by
  have sc := sc_p_undo
  refine ok_exc F sc (fun _ => rfl) fun cdv A outer s H E hr => ⟨_, pss_cons (ps_expr (pe_D D_need_many (hr.mono (by decide)) rfl passE (pa_cons (pe_var (i := 1) rfl (.inl rfl)) (pa_cons (pe_fld (pe_var (i := 0) rfl (.inl rfl)) rfl) (pa_nil))))) (pss_cons (ps_set (i := 2) sc.nd rfl (.inl rfl) (pe_op op_sub (pe_callB call_len_seq rfl (G.gfree "len" (by decide +kernel)) (by decide +kernel) (pa_cons (pe_fld (pe_var (i := 0) rfl (.inl rfl)) rfl) (pa_nil))) (pe_var (i := 1) rfl (.inl rfl)))) (pss_cons (ps_fld (pe_var (i := 0) rfl (.inl rfl)) (pe_op op_catA (pe_op op_catA (pe_fld (pe_var (i := 0) rfl (.inl rfl)) rfl) (pe_tup (pa_cons (pe_fld (pe_var (i := 0) rfl (.inl rfl)) rfl) (pa_nil)))) (pe_dnT (pe_fld (pe_var (i := 0) rfl (.inl rfl)) rfl) (po_some (pe_var (i := 2) rfl (.inl rfl))))) rfl) (pss_cons (ps_fld (pe_var (i := 0) rfl (.inl rfl)) (pe_ix ix_seq (pe_fld (pe_var (i := 0) rfl (.inl rfl)) rfl) (pe_var (i := 2) rfl (.inl rfl)) (fun _ _ => rfl)) rfl) (pss_one (ps_fld (pe_var (i := 0) rfl (.inl rfl)) (pe_slice sl_tupA (pe_fld (pe_var (i := 0) rfl (.inl rfl)) rfl) (po_none) (po_some (pe_var (i := 2) rfl (.inl rfl)))) rfl))))), fun (i : (Addr × PSt) × PyData) hp hx => ?_⟩
  obtain ⟨⟨p, s⟩, d⟩ := i
  obtain ⟨hp1, so⟩ := (show PairAt H p C s ∧ s.ok from hp)
  have nc := so.nc
  have np := so.np
  have hx : ∀ c dd H', Fr [p] H H' → PairAt H' p C s ∧ (((∀ n : Int, d = .int n → n < 1) ∧ Thrown CNb "given" d c dd H') ∨ ∃ n : Int, d = .int n ∧ 1 ≤ n ∧ (s.past.length : Nat) < n ∧ Thrown CLf "many" d c dd H') → E c dd H' := hx
  refine go_seq (go_drop (w_call0 (wa_cons (w_var rfl (wa_cons (w_ppast PK (w_var rfl ⟨p, _, _, _, _, _, _, rfl, hp1, wa_nil ?_⟩)))))))
  refine cs_many (fun H1 n e1 hd n0 n1 => ?_) fun c dd H2 e2 h => hx c dd H2 e2.frq ⟨hp1.same e2, by rw [List.length_map] at h; exact h⟩
  subst hd
  rw [List.length_map] at n1
  obtain ⟨k, rfl⟩ := Int.eq_ofNat_of_zero_le (show 0 ≤ n by omega)
  have n0 : 1 ≤ k := by omega
  have n1 : k ≤ s.past.length := by omega
  have hp1 := hp1.same e1
  refine go_seq (go_set (w_op (w_cb (wa_cons (w_ppast PK (w_var rfl ⟨p, _, _, _, _, _, _, rfl, hp1, wa_nil (oa_len ?_)⟩))))))
  have ec : ((s.past.map Nw.enc).length : Int) - (k : Int) = ((s.past.length - k : Nat) : Int) := by rw [List.length_map]; omega
  refine w_var rfl (o2_iiE (z := ((s.past.length - k : Nat) : Int)) ec ?_)
  refine go_seq (go_pcoming PK (w_op (w_op (w_pcoming PK (w_var rfl ⟨p, _, _, _, _, _, _, rfl, hp1, ?_⟩)))))
  refine w_tup (wa_cons (w_pnow PK (w_var rfl ⟨p, _, _, _, _, _, _, rfl, hp1, wa_nil ⟨[_], rfl, Nat.le_of_ble_eq_true rfl, ?_⟩⟩)))
  refine o2_catT (by rw [List.length_map]; simp; omega) ?_
  refine w_dnT (w_ppast PK (w_var rfl ⟨p, _, _, _, _, _, _, rfl, hp1, _, rfl, wo_some (w_var rfl ⟨_, rfl, _, s.past.length - k, rfl, by unfold hiAt; rw [if_neg (by omega)], by rw [List.length_map]; omega, ?_⟩)⟩))
  refine o2_catT (by simp; omega) ?_
  refine w_var rfl ⟨p, _, _, _, _, _, _, _, rfl, rfl, hp1, fun H2 f2 hp2 => ?_⟩
  have hlt : s.past.length - k < s.past.length := by omega
  have eg : s.past[s.past.length - k]? = some (s.past.getD (s.past.length - k) s.now) := by
    rw [List.getD_eq_getElem?_getD, List.getElem?_eq_getElem hlt]
    rfl
  refine go_seq (go_pnow PK (w_op (w_ppast PK (w_var rfl ⟨p, _, _, _, _, _, _, rfl, hp2, w_var rfl ?_⟩))))
  refine o2_ixT (d := (s.past.getD (s.past.length - k) s.now).enc) (atI_nat (by rw [List.getElem?_map, eg]; rfl)) ?_
  refine w_var rfl ⟨p, _, _, _, _, _, _, _, rfl, rfl, hp2, fun H3 f3 hp3 => ?_⟩
  refine go_ppast PK (w_slT (w_ppast PK (w_var rfl ⟨p, _, _, _, _, _, _, rfl, hp3, _, rfl, wo_no (wo_some (w_var rfl ⟨_, rfl, ?_⟩))⟩)))
  rw [cutD_upto]
  refine w_var rfl ⟨p, _, _, _, _, _, _, _, rfl, rfl, hp3, fun H4 f4 hp4 => ?_⟩
  refine ⟨((e1.frq.trans f2).trans f3).trans f4, fun H5 e5 => ⟨rfl, k, rfl, n0, n1, ?_⟩⟩
  have e1 : s.coming.map Nw.enc ++ [s.now.enc] ++ ((s.past.map Nw.enc).drop (s.past.length - k + 1)).reverse = (s.coming ++ [s.now] ++ (s.past.drop (s.past.length - k + 1)).reverse).map Nw.enc := by
    simp [List.map_drop, List.map_reverse]
  have e2 : (s.past.map Nw.enc).take (s.past.length - k) = (s.past.take (s.past.length - k)).map Nw.enc := by rw [List.map_take]
  rw [e1, e2] at hp4
  exact hp4.same e5
omit G PK in
theorem sc_p_redo : FnScope ["self", "many", "cut"] ["self", "many"] (defScope (meth 48 14)) := ⟨rfl, rfl, rfl, by decide +kernel, rfl, by decide +kernel, by decide +kernel⟩
theorem ok_p_redo (D_need_many : DefOk P w K mg base 3 "need_many" ["many", "some"] (S_need_many CNb CLf))  (MNb : MkE P w K mg base CNb "BadNumber" "given" "given" "ValueError.__new__" veB) (MLf : MkE P w K mg base CLf "NothingLeft" "many" "many" "RuntimeError.__new__" rtB) (F : FnP K "redo" "Pair.redo" (meth 48 14) [.int 1] f fd) : FnOk P w K mg base (L2.CX P w) 4 f fd ["self", "many"] (sp (S_p_redo C CNb CLf)) := by
  have sc := sc_p_redo
  refine ok_exc F sc (fun _ => rfl) fun cdv A outer s H E hr => ⟨_, pss_cons (ps_expr (pe_D D_need_many (hr.mono (by decide)) rfl passE (pa_cons (pe_var (i := 1) rfl (.inl rfl)) (pa_cons (pe_fld (pe_var (i := 0) rfl (.inl rfl)) rfl) (pa_nil))))) (pss_cons (ps_set (i := 2) sc.nd rfl (.inl rfl) (pe_op op_sub (pe_callB call_len_seq rfl (G.gfree "len" (by decide +kernel)) (by decide +kernel) (pa_cons (pe_fld (pe_var (i := 0) rfl (.inl rfl)) rfl) (pa_nil))) (pe_var (i := 1) rfl (.inl rfl)))) (pss_cons (ps_fld (pe_var (i := 0) rfl (.inl rfl)) (pe_op op_catA (pe_op op_catA (pe_fld (pe_var (i := 0) rfl (.inl rfl)) rfl) (pe_tup (pa_cons (pe_fld (pe_var (i := 0) rfl (.inl rfl)) rfl) (pa_nil)))) (pe_dnT (pe_fld (pe_var (i := 0) rfl (.inl rfl)) rfl) (po_some (pe_var (i := 2) rfl (.inl rfl))))) rfl) (pss_cons (ps_fld (pe_var (i := 0) rfl (.inl rfl)) (pe_ix ix_seq (pe_fld (pe_var (i := 0) rfl (.inl rfl)) rfl) (pe_var (i := 2) rfl (.inl rfl)) (fun _ _ => rfl)) rfl) (pss_one (ps_fld (pe_var (i := 0) rfl (.inl rfl)) (pe_slice sl_tupA (pe_fld (pe_var (i := 0) rfl (.inl rfl)) rfl) (po_none) (po_some (pe_var (i := 2) rfl (.inl rfl)))) rfl))))), fun (i : (Addr × PSt) × PyData) hp hx => ?_⟩
  obtain ⟨⟨p, s⟩, d⟩ := i
  obtain ⟨hp1, so⟩ := (show PairAt H p C s ∧ s.ok from hp)
  have nc := so.nc
  have np := so.np
  have hx : ∀ c dd H', Fr [p] H H' → PairAt H' p C s ∧ (((∀ n : Int, d = .int n → n < 1) ∧ Thrown CNb "given" d c dd H') ∨ ∃ n : Int, d = .int n ∧ 1 ≤ n ∧ (s.coming.length : Nat) < n ∧ Thrown CLf "many" d c dd H') → E c dd H' := hx
  refine go_seq (go_drop (w_call0 (wa_cons (w_var rfl (wa_cons (w_pcoming PK (w_var rfl ⟨p, _, _, _, _, _, _, rfl, hp1, wa_nil ?_⟩)))))))
  refine cs_many (fun H1 n e1 hd n0 n1 => ?_) fun c dd H2 e2 h => hx c dd H2 e2.frq ⟨hp1.same e2, by rw [List.length_map] at h; exact h⟩
  subst hd
  rw [List.length_map] at n1
  obtain ⟨k, rfl⟩ := Int.eq_ofNat_of_zero_le (show 0 ≤ n by omega)
  have n0 : 1 ≤ k := by omega
  have n1 : k ≤ s.coming.length := by omega
  have hp1 := hp1.same e1
  refine go_seq (go_set (w_op (w_cb (wa_cons (w_pcoming PK (w_var rfl ⟨p, _, _, _, _, _, _, rfl, hp1, wa_nil (oa_len ?_)⟩))))))
  have ec : ((s.coming.map Nw.enc).length : Int) - (k : Int) = ((s.coming.length - k : Nat) : Int) := by rw [List.length_map]; omega
  refine w_var rfl (o2_iiE (z := ((s.coming.length - k : Nat) : Int)) ec ?_)
  refine go_seq (go_ppast PK (w_op (w_op (w_ppast PK (w_var rfl ⟨p, _, _, _, _, _, _, rfl, hp1, ?_⟩)))))
  refine w_tup (wa_cons (w_pnow PK (w_var rfl ⟨p, _, _, _, _, _, _, rfl, hp1, wa_nil ⟨[_], rfl, Nat.le_of_ble_eq_true rfl, ?_⟩⟩)))
  refine o2_catT (by rw [List.length_map]; simp; omega) ?_
  refine w_dnT (w_pcoming PK (w_var rfl ⟨p, _, _, _, _, _, _, rfl, hp1, _, rfl, wo_some (w_var rfl ⟨_, rfl, _, s.coming.length - k, rfl, by unfold hiAt; rw [if_neg (by omega)], by rw [List.length_map]; omega, ?_⟩)⟩))
  refine o2_catT (by simp; omega) ?_
  refine w_var rfl ⟨p, _, _, _, _, _, _, _, rfl, rfl, hp1, fun H2 f2 hp2 => ?_⟩
  have hlt : s.coming.length - k < s.coming.length := by omega
  have eg : s.coming[s.coming.length - k]? = some (s.coming.getD (s.coming.length - k) s.now) := by
    rw [List.getD_eq_getElem?_getD, List.getElem?_eq_getElem hlt]
    rfl
  refine go_seq (go_pnow PK (w_op (w_pcoming PK (w_var rfl ⟨p, _, _, _, _, _, _, rfl, hp2, w_var rfl ?_⟩))))
  refine o2_ixT (d := (s.coming.getD (s.coming.length - k) s.now).enc) (atI_nat (by rw [List.getElem?_map, eg]; rfl)) ?_
  refine w_var rfl ⟨p, _, _, _, _, _, _, _, rfl, rfl, hp2, fun H3 f3 hp3 => ?_⟩
  refine go_pcoming PK (w_slT (w_pcoming PK (w_var rfl ⟨p, _, _, _, _, _, _, rfl, hp3, _, rfl, wo_no (wo_some (w_var rfl ⟨_, rfl, ?_⟩))⟩)))
  rw [cutD_upto]
  refine w_var rfl ⟨p, _, _, _, _, _, _, _, rfl, rfl, hp3, fun H4 f4 hp4 => ?_⟩
  refine ⟨((e1.frq.trans f2).trans f3).trans f4, fun H5 e5 => ⟨rfl, k, rfl, n0, n1, ?_⟩⟩
  have e1 : s.past.map Nw.enc ++ [s.now.enc] ++ ((s.coming.map Nw.enc).drop (s.coming.length - k + 1)).reverse = (s.past ++ [s.now] ++ (s.coming.drop (s.coming.length - k + 1)).reverse).map Nw.enc := by
    simp [List.map_drop, List.map_reverse]
  have e2 : (s.coming.map Nw.enc).take (s.coming.length - k) = (s.coming.take (s.coming.length - k)).map Nw.enc := by rw [List.map_take]
  rw [e1, e2] at hp4
  exact hp4.same e5
end
end K2

set_option Elab.async false
set_option linter.all false
set_option maxRecDepth 100000
set_option pp.deepTerms false
set_option pp.deepTerms.threshold 10
set_option maxHeartbeats 4000000
namespace K2
open PySem L2 PySem.Spec PyProof.Rows StX RZ
local macro_rules | `(tactic| walk_at "k2") => `(tactic| first
  | with_reducible refine w_var rfl ?_
  | with_reducible refine w_int ?_
  | with_reducible refine w_bl ?_
  | with_reducible refine w_non ?_
  | with_reducible refine w_str ?_
  | with_reducible refine w_o ?_
  | with_reducible refine wa_cons ?_
  | with_reducible refine wa_nil ?_
  | with_reducible refine w_op ?_
  | with_reducible refine w_un ?_
  | with_reducible refine w_cb ?_
  | with_reducible refine w_call0 ?_
  | with_reducible refine w_chain ?_
  | with_reducible refine w_tup ?_
  | with_reducible refine w_lst ?_
  | with_reducible refine w_andV ?_
  | with_reducible refine w_orV ?_
  | with_reducible refine w_notV ?_
  | with_reducible refine w_if ?_
  | with_reducible refine wt_test ?_
  | with_reducible refine wt_B ?_
  | with_reducible refine wt_and ?_
  | with_reducible refine wt_or ?_
  | with_reducible refine wt_not ?_
  | with_reducible refine go_seq ?_
  | with_reducible refine go_ret ?_
  | with_reducible refine go_retN ?_
  | with_reducible refine go_set ?_
  | with_reducible refine go_par ?_
  | with_reducible refine go_par3 ?_
  | with_reducible refine go_asg ?_
  | with_reducible refine go_next ?_
  | with_reducible refine go_if ?_
  | with_reducible refine o2_ii ?_
  | with_reducible refine o2_ib ?_
  | with_reducible refine o1_i ?_
  | with_reducible refine o2_isN ?_
  | with_reducible refine o2_notN ?_
  | with_reducible refine oa_isiI ?_
  | with_reducible refine oa_isiB ?_
  | with_reducible refine oa_isiT ?_
  | with_reducible refine oa_isiS ?_
  | with_reducible refine oa_abs ?_
  | with_reducible refine oa_max ?_
  | with_reducible refine oa_min ?_
  | with_reducible refine oa_len ?_
  | with_reducible refine oa_lenL ?_
  | with_reducible refine oa_intB ?_
  | refine ⟨[_, _], rfl, Nat.le_of_ble_eq_true rfl, ?_⟩
  | refine ⟨[_, _, _], rfl, Nat.le_of_ble_eq_true rfl, ?_⟩
  | refine ⟨[_, _, _, _], rfl, Nat.le_of_ble_eq_true rfl, ?_⟩
  | refine ⟨[_], rfl, Nat.le_of_ble_eq_true rfl, ?_⟩
  | refine ⟨[], rfl, Nat.le_of_ble_eq_true rfl, ?_⟩)

local macro_rules | `(tactic| walk_at "k2") => `(tactic| first
  | with_reducible refine ex_b ?_
  | refine both_t rfl ?_
  | refine both_f rfl ?_
  | refine both_f2 rfl ?_
  | refine both_t2 rfl ?_
  | with_reducible refine cs_is_integer fun _ _ => ?_
  | with_reducible refine cs_is_whole fun _ _ => ?_
  | refine oa_len ?_
  | refine oa_lenL ?_
  | refine o2_ixT rfl ?_
  | refine o2_ixL rfl ?_
  | refine o2_in rfl rfl ?_
  | refine o2_eqI ?_
  | refine o2_neI ?_
  | refine o2_eqS (by decide +kernel) (by decide +kernel) ?_
  | refine o2_neS (by decide +kernel) (by decide +kernel) ?_
  | refine o2_eqD (Deed.shp _).ok rfl ?_
  | refine both_t (by decide +kernel) ?_
  | refine both_f (by decide +kernel) ?_
  | refine both_f2 (by decide +kernel) ?_
  | refine both_t2 (by decide +kernel) ?_
  | with_reducible refine w_slT ?_
  | with_reducible refine wg_name ?_
  | with_reducible refine wgs_cons ?_
  | with_reducible refine wgs_nil ?_
  | refine o2_ii ?_
  | refine o2_ib ?_
  | refine o2_isN ?_
  | refine o2_notN ?_
  | refine wg_tup rfl ?_
  | refine wgs_cons ?_
  | refine wgs_nil ?_
  | with_reducible refine w_slL ?_
  | with_reducible refine wo_no ?_
  | with_reducible refine wo_some ?_
  | with_reducible refine ⟨_, _, rfl, rfl, ?_⟩
  | with_reducible refine ⟨_, rfl, ?_⟩
  | with_reducible refine ⟨_, _, rfl, ?_⟩
  | with_reducible refine ⟨_, _, _, rfl, ?_⟩)
local macro_rules | `(tactic| walk_at "same") => `(tactic| ((repeat (first | exact Same.refl _ | assumption | refine Same.trans ?_ (by assumption)))))

local macro_rules | `(tactic| walk_at "k3") => `(tactic| first
  | walk_at "k2"
  | refine both_t (by first | (simp; done) | (simp; omega)) ?_
  | refine both_f (by first | (simp; done) | (simp; omega)) ?_
  | refine both_f2 (by first | (simp; done) | (simp; omega)) ?_
  | refine both_t2 (by first | (simp; done) | (simp; omega)) ?_
  | refine go_next ?_
  | refine go_drop ?_)
def S_p_reruled (C : Addr) : Spc where
  ι := (Addr × PSt) × Rul × Hp
  args i := [.o (.ref i.1.1), .d (encR i.2.1)]
  pre i H := PairAt H i.1.1 C i.1.2 ∧ i.1.2.ok ∧ i.2.1.ok ∧ (∃ st, Good i.1.2.w i.2.1 ⟨0, 0, i.1.2.b⟩ i.1.2.now.rs st) ∧ Same i.2.2 H
  mod _ := []
  post i x H := ∃ q st e, x = .o (.ref q) ∧ i.2.2 q = none ∧ gone i.1.2.w i.2.1 ⟨0, 0, i.1.2.b⟩ [i.1.2.b] 0 (i.1.2.now.rs.map Rnd.rd) = (none, i.1.2.b :: e, st) ∧ PairAt H q C ⟨i.1.2.w, i.2.1, i.1.2.b, ⟨i.1.2.now.rs, st, i.1.2.b :: e⟩, if i.1.2.now.rs = [] then [] else [⟨[], ⟨0, 0, i.1.2.b⟩, [i.1.2.b]⟩], []⟩
theorem cs_init {C p : Addr} {w : Wld} {r : Rul} {b : Int} (hw : w.ok) (hr : r.ok) (h0 : -500 ≤ b) (h1 : b ≤ 500) {H : Hp} {R : PX} (hp : ∃ dx, H p = some (.ins C dx [])) (k : ∀ H2, Fr [p] H H2 → PairAt H2 p C ⟨w, r, b, ⟨[], ⟨0, 0, b⟩, [b]⟩, [], []⟩ → R (.d .none) H2) : CallS (S_p___init__ C) [.o (.ref p), .d w.enc, .d (encR r), .d (.int b)] H Eno R :=
  CallS.mk (S := S_p___init__ C) (p, w, r, b) rfl (fun H' e => by
    obtain ⟨dx, hp⟩ := hp
    exact ⟨⟨dx, e _ _ hp⟩, hw, hr, h0, h1⟩) (fun x H2 f po => by
    obtain ⟨rfl, h⟩ := po
    exact k H2 f h) fun _ _ _ h => h
section
variable {X : Cx} {C : Addr} {lvl : Nat} {ps : List Str} {S : Spc} {e : Expr} {es : List Expr} {t : TA} {E : XK} {x : Str} {p pos : Pos}
theorem pe_mkD (M : MkOk X.prog X.w X.K X.mg X.base C lvl ps S) (hr : Room (lvl + 1) X.A) (hg : Gl X x) (hm : X.mg x = some (.ref C)) (hx : Passes (L2.CX X.prog X.w) X E) (ha : PA X (e :: es) t) (hdb : (x == ("__debug__" : Str)) = false := by decide)
    (he : starEach (e :: es) X.env = (false, eval e X.env) :: starEach es X.env := by rfl) (hpl : (backTo pos (starEach es X.env)).any (·.1) = false := by rfl) : PE X (.Call (.Name x p) (e :: es) [] pos) (tMake C (sp S) [] E t) := by
  obtain ⟨g, fd, F, m, b⟩ := M.ex
  exact pe_make m F hr hg hm b .nil hx ha hdb he hpl
end
theorem map_rd_inj : ∀ {as bs : List Rnd}, as.map Rnd.rd = Rnd.rd <$> bs → as = bs
  | [], [], _ => rfl
  | [], _ :: _, h => by cases h
  | _ :: _, [], h => by cases h
  | (i, o) :: as, (j, u) :: bs, h => by
    have h1 := (List.cons.inj h).1
    have h2 : as.map Rnd.rd = Rnd.rd <$> bs := (List.cons.inj h).2
    have g5 : i = j := PyData.int.inj (Prod.mk.inj h1).1
    have g4 : encO o = encO u := (Prod.mk.inj h1).2
    rw [g5, map_rd_inj h2]
    cases o <;> cases u <;> first | rfl | (cases g4; rfl) | cases g4
theorem frNew {M : List Addr} {H H1 H2 : Hp} {q : Addr} (hq : H q = none) (f : Fr [q] H1 H2) (h : ∀ b o, H b = some o → H1 b = some o := by assumption) : Fr M H H2 := ⟨fun c o hc _ => f.kp c o (h c o hc) (.inl (by simpa using ne_of_none hc hq)), fun c hc => by
  cases e : H c with
  | none => rfl
  | some o =>
    have := f.fr c hc
    rw [h c o e] at this
    cases this⟩
/-- Pair(world, rule, difference) -/
theorem w_pair {Γ : List Gh} {ρ : Rho} {H : Hp} {R : PX} {ta : TA} {C : Addr} (h : WA Γ ta ρ H fun xs H1 => ∃ (w : Wld) (r : Rul) (b : Int), xs = [.d w.enc, .d (encR r), .d (.int b)] ∧ w.ok ∧ r.ok ∧ -500 ≤ b ∧ b ≤ 500 ∧
    ∀ q H2, H1 q = none → Same H1 H2 → PairAt H2 q C ⟨w, r, b, ⟨[], ⟨0, 0, b⟩, [b]⟩, [], []⟩ → R (.o (.ref q)) H2) : W Γ (tMake C (sp (S_p___init__ C)) [] Eno ta) ρ H R := w_make (fun σ H' e s Q q => h σ H' e s Q fun xs vs H1 H'' k => q xs vs H1 H'' (by
  obtain ⟨w, r, b, rfl, hw, hr, h0, h1, k⟩ := k
  refine fun x dx H2 hx f2 h2 => cs_init hw hr h0 h1 ⟨dx, h2⟩ fun H3 f3 hp => ⟨rfl, k x H3 hx (fun c o hc => ?_) hp⟩
  exact f3.kp c o (f2.same c o hc) (.inl (by simpa using ne_of_none hc hx))))
section
variable {P : Program} {w : World} {K : PySem.W.Frag} {mg : Str → Option Value} {base : Heap} {f C CRd CRn CNb CLf : Addr} {fd : FuncData} (G : GF mg) (PK : PairK K mg C)
include G PK
omit G PK in
theorem sc_p___iadd__ : FnScope ["self", "other"] ["self", "other"] (defScope (meth 48 8)) := ⟨rfl, rfl, rfl, by decide +kernel, rfl, by decide +kernel, by decide +kernel⟩
theorem ok_p___iadd__   (MRn : MkE P w K mg base CRn "BadRun" "number" "number" "ValueError.__new__" veB) (Ddo : MethOk P w K mg base C 5 "do" ["self", "some"] [] (S_p_do C CRn))(F : FnP K "__iadd__" "Pair.__iadd__" (meth 48 8) [] f fd) : FnOk P w K mg base (L2.CX P w) 6 f fd ["self", "other"] (sp (S_p___iadd__ C CRn)) := by
  have sc := sc_p___iadd__
  refine ok_exc F sc (fun _ => rfl) fun cdv A outer s H E hr => ⟨_, pss_cons (ps_if (pt_not (pt_val (pe_callB call_isi rfl (G.gfree "isinstance" (by decide +kernel)) (by decide +kernel) (pa_cons (pe_var (i := 1) rfl (.inl rfl)) (pa_cons (pe_ty (T := "tuple") (G.gfree "tuple" (by decide +kernel)) (by decide +kernel) rfl) (pa_nil)))))) (pss_one (ps_raise rfl takesE (pmk_E baseVE MRn (hr.mono (by decide)) rfl (pa_cons (pe_non) (pa_nil))))) (pss_nil)) (pss_cons (ps_expr (pe_mD Ddo PK.cls (hr.mono (by decide)) passE (pe_var (i := 0) rfl (.inl rfl)) (pa_cons (pe_var (i := 1) rfl (.inl rfl)) (pa_nil)))) (pss_one (ps_ret (pe_var (i := 0) rfl (.inl rfl))))), fun (i : (Addr × PSt) × (PyData ⊕ List Rd2)) hp hx => ?_⟩
  obtain ⟨⟨p, s⟩, y⟩ := i
  obtain ⟨hp1, so, hy1, hy2⟩ := (show PairAt H p C s ∧ s.ok ∧ (∀ d, y = .inl d → isiT d = false) ∧ ∀ rs, y = .inr rs → rs.length ≤ 500 ∧ ∀ q ∈ rs, noL q.1 = true ∧ noL q.2 = true from hp)
  have hx : ∀ c d H', Fr [p] H H' → PairAt H' p C s ∧ ((∃ v, y = .inl v ∧ Thrown CRn "number" .none c d H') ∨ ∃ rs, ∃ n : Nat, y = .inr rs ∧ (gone s.w s.r s.now.st [s.now.st.df] 0 rs).1 = some n ∧ Thrown CRn "number" (.int (n : Nat)) c d H') → E c d H' := hx
  cases y with
  | inl v =>
    repeat walk_at "k2"
    rw [show isiT (iaX (Sum.inl v)) = false from hy1 v rfl]
    refine both_t rfl ?_
    exact go_throw (wa_cons (w_non (wa_nil ⟨_, rfl, fun c d H4 f4 t => hx c d H4 f4.same.frq ⟨hp1.same f4.same, .inl ⟨v, rfl, t⟩⟩⟩)))
  | inr rs =>
    obtain ⟨hl, hn⟩ := hy2 rs rfl
    repeat walk_at "k2"
    refine go_drop (w_mP (m := "do") (by decide) (w_var rfl ⟨p, _, _, _, _, _, _, rfl, hp1, wa_cons (w_var rfl (wa_nil ?_))⟩))
    refine cs_do so hl hn hp1 (fun H2 qs st e f2 h1 h2 h3 => ?_) fun c d H2 n f2 h1 h2 h3 => hx c d H2 f2 ⟨h3, .inr ⟨rs, n, rfl, h1, h2⟩⟩
    refine go_ret (w_var rfl ?_)
    subst h1
    exact rt_fr f2 fun H3 e3 => ⟨rfl, qs, st, e, rfl, h2, h3.same e3⟩
omit G PK in
theorem sc_p___call__ : FnScope ["self", "drift", "error", "ahead"] ["self", "drift", "error"] (defScope (meth 48 7)) := ⟨rfl, rfl, rfl, by decide +kernel, rfl, by decide +kernel, by decide +kernel⟩
theorem ok_p___call__ (D_is_round : DefOk P w K mg base 3 "is_round" ["world", "missed", "thing"] S_is_round) (D_stepped : DefOk P w K mg base 2 "stepped" ["rule", "stand", "drift", "error"] S_stepped)  (MRd : MkE P w K mg base CRd "BadRound" "given" "given" "ValueError.__new__" veB) (Ddo : MethOk P w K mg base C 5 "do" ["self", "some"] [] (S_p_do C CRn)) (MRn : MkE P w K mg base CRn "BadRun" "number" "number" "ValueError.__new__" veB)(F : FnP K "__call__" "Pair.__call__" (meth 48 7) [.non] f fd) : FnOk P w K mg base (L2.CX P w) 6 f fd ["self", "drift", "error"] (sp (S_p___call__ C CRd)) := by
  have sc := sc_p___call__
  refine ok_exc F sc (fun _ => rfl) fun cdv A outer s H E hr => ⟨_, pss_cons (ps_set (i := 3) sc.nd rfl (.inl rfl) (pe_ix ix_seq (pe_fld (pe_var (i := 0) rfl (.inl rfl)) rfl) (pe_int) (fun _ _ => rfl))) (pss_cons (ps_if (pt_not (pt_val (pe_D D_is_round (hr.mono (by decide)) rfl pass_none (pa_cons (pe_fld (pe_var (i := 0) rfl (.inl rfl)) rfl) (pa_cons (pe_ix ix_seq (pe_var (i := 3) rfl (.inl rfl)) (pe_int) (fun _ _ => rfl)) (pa_cons (pe_tup (pa_cons (pe_var (i := 1) rfl (.inl rfl)) (pa_cons (pe_var (i := 2) rfl (.inl rfl)) (pa_nil)))) (pa_nil))))))) (pss_one (ps_raise rfl takesE (pmk_E baseVE MRd (hr.mono (by decide)) rfl (pa_cons (pe_tup (pa_cons (pe_var (i := 1) rfl (.inl rfl)) (pa_cons (pe_var (i := 2) rfl (.inl rfl)) (pa_nil)))) (pa_nil))))) (pss_nil)) (pss_cons (ps_expr (pe_mD Ddo PK.cls (hr.mono (by decide)) passE (pe_var (i := 0) rfl (.inl rfl)) (pa_cons (pe_tup (pa_cons (pe_tup (pa_cons (pe_var (i := 1) rfl (.inl rfl)) (pa_cons (pe_var (i := 2) rfl (.inl rfl)) (pa_nil)))) (pa_nil))) (pa_nil)))) (pss_one (ps_ret (pe_ix ix_seq (pe_D D_stepped (hr.mono (by decide)) rfl pass_none (pa_cons (pe_fld (pe_var (i := 0) rfl (.inl rfl)) rfl) (pa_cons (pe_var (i := 3) rfl (.inl rfl)) (pa_cons (pe_var (i := 1) rfl (.inl rfl)) (pa_cons (pe_var (i := 2) rfl (.inl rfl)) (pa_nil)))))) (pe_int) (fun _ _ => rfl)))))), fun (i : (Addr × PSt) × Rd2) hp hx => ?_⟩
  obtain ⟨⟨p, s⟩, a, b⟩ := i
  obtain ⟨hp1, so, n1, n2⟩ := (show PairAt H p C s ∧ s.ok ∧ noL a = true ∧ noL b = true from hp)
  have hx : ∀ c d H', Fr [p] H H' → isRound s.w s.now.st.ms (a, b) = false ∧ Thrown CRd "given" (Rd2.enc (a, b)) c d H' ∧ PairAt H' p C s → E c d H' := hx
  refine go_seq (go_set (w_op (w_pnow PK (w_var rfl ⟨p, _, _, _, _, _, _, rfl, hp1, w_int (o2_ixT rfl ?_)⟩))))
  refine go_seq (go_if (wt_not (wt_test (w_call0 (wa_cons (w_pown_world PK (w_var rfl ⟨p, _, _, _, _, _, _, rfl, hp1, ?_⟩)))))))
  repeat walk_at "k2"
  refine CallS.wk (cs_round (q := (a, b)) fun H1 e1 => ?_)
  cases hr1 : isRound s.w s.now.st.ms (a, b) with
  | false =>
    repeat walk_at "k2"
    exact go_throw (wa_cons (w_tup (wa_cons (w_var (x := .d a) rfl (wa_cons (w_var (x := .d b) rfl (wa_nil ⟨[_, _], rfl, Nat.le_of_ble_eq_true rfl, wa_nil ⟨_, rfl, fun c d H4 f4 t => hx c d H4 (e1.trans f4.same).frq ⟨hr1, t, hp1.same (e1.trans f4.same)⟩⟩⟩)))))))
  | true =>
    obtain ⟨i, o, hq, h1, h2⟩ := isRound_t hr1
    cases hq
    repeat walk_at "k2"
    have hp2 := hp1.same e1
    have hr2 : isRound s.w s.now.st.ms (Rnd.rd (i, o)) = true := hr1
    have hg : gone s.w s.r s.now.st [s.now.st.df] 0 [Rnd.rd (i, o)] = (none, s.now.st.df :: [(stepped s.r s.now.st i o).1, (stepped s.r s.now.st i o).2.2.2.df], (stepped s.r s.now.st i o).2.2.2) := by
      rw [gone, if_pos hr2, (rd_of (i, o)).1, (rd_of (i, o)).2]
      rfl
    refine go_drop (w_mP (m := "do") (by decide) (w_var rfl ⟨p, _, _, _, _, _, _, rfl, hp2, ?_⟩))
    refine wa_cons (w_tup (wa_cons (w_tup (wa_cons (w_var (x := .d (.int i)) rfl (wa_cons (w_var (x := .d (encO o)) rfl (wa_nil ⟨[_, _], rfl, Nat.le_of_ble_eq_true rfl, wa_nil ⟨[_], rfl, Nat.le_of_ble_eq_true rfl, wa_nil ?_⟩⟩))))))))
    refine cs_do (rs := [Rnd.rd (i, o)]) so (Nat.le_of_ble_eq_true rfl) (fun q hq => by rw [List.mem_singleton] at hq; subst hq; exact noL_q _) hp2 (fun H2 qs st e f2 g1 g2 g3 => ?_) fun c d H2 n f2 g1 g2 g3 => by rw [hg] at g1; cases g1
    rw [hg] at g2
    cases g2
    have gq : qs = [(i, o)] := by
      cases qs with
      | nil => cases g1
      | cons z zs =>
        cases zs with
        | nil =>
          obtain ⟨zi, zo⟩ := z
          have g3 := (List.cons.inj g1).1
          have g4 : encO o = encO zo := (Prod.mk.inj g3).2
          have g5 : i = zi := PyData.int.inj (Prod.mk.inj g3).1
          subst g5
          cases o <;> cases zo <;> first | rfl | (cases g4; rfl) | cases g4
        | cons _ _ => cases (List.cons.inj g1).2
    subst gq
    refine go_ret (w_op (w_call0 (wa_cons (w_pown_rule PK (w_var rfl ⟨p, _, _, _, _, _, _, rfl, g3, ?_⟩)))))
    refine wa_cons (w_var rfl (wa_cons (w_var (x := .d (.int i)) rfl (wa_cons (w_var (x := .d (encO o)) rfl (wa_nil ?_))))))
    refine CallS.wk (cs_stepped so.r so.st fun H3 e3 => ?_)
    refine w_int (o2_ixT rfl ?_)
    exact rt_fr ((e1.frq.trans f2).trans e3.frq) fun H4 e4 => ⟨(i, o), rfl, hr1, rfl, g3.same (e3.trans e4)⟩
omit G PK in
theorem sc_p_reruled : FnScope ["self", "rule", "found"] ["self", "rule"] (defScope (meth 48 15)) := ⟨rfl, rfl, rfl, by decide +kernel, rfl, by decide +kernel, by decide +kernel⟩
theorem ok_p_reruled   (Ddo : MethOk P w K mg base C 5 "do" ["self", "some"] [] (S_p_do C CRn)) (Mki : MkOk P w K mg base C 7 ["self", "world", "rule", "difference"] (S_p___init__ C))(F : FnP K "reruled" "Pair.reruled" (meth 48 15) [] f fd) : FnOk P w K mg base (L2.CX P w) 9 f fd ["self", "rule"] (sp (S_p_reruled C)) := by
  have sc := sc_p_reruled
  refine ok_pure F sc (fun _ => rfl) fun cdv A outer s H E hr => ⟨_, pss_cons (ps_set (i := 2) sc.nd rfl (.inl rfl) (pe_mkD Mki (hr.mono (by decide)) rfl PK.mgC pass_none (pa_cons (pe_fld (pe_var (i := 0) rfl (.inl rfl)) rfl) (pa_cons (pe_var (i := 1) rfl (.inl rfl)) (pa_cons (pe_fld (pe_var (i := 0) rfl (.inl rfl)) rfl) (pa_nil)))))) (pss_cons (ps_if (pt_cmpR (op_neD hr.units) (pe_ix ix_seq (pe_fld (pe_var (i := 0) rfl (.inl rfl)) rfl) (pe_int) (fun _ _ => rfl)) (pe_tup (pa_nil)) (nomark _)) (pss_one (ps_expr (pe_mD Ddo PK.cls (hr.mono (by decide)) pass_none (pe_var (i := 2) rfl (.inl rfl)) (pa_cons (pe_ix ix_seq (pe_fld (pe_var (i := 0) rfl (.inl rfl)) rfl) (pe_int) (fun _ _ => rfl)) (pa_nil))))) (pss_nil)) (pss_one (ps_ret (pe_var (i := 2) rfl (.inl rfl))))), fun (i : (Addr × PSt) × Rul × Hp) hp => ?_⟩
  obtain ⟨⟨p, s⟩, r, H0⟩ := i
  obtain ⟨hp1, so, hr2, ⟨st, gd⟩, e0⟩ := (show PairAt H p C s ∧ s.ok ∧ r.ok ∧ (∃ st, Good s.w r ⟨0, 0, s.b⟩ s.now.rs st) ∧ Same H0 H from hp)
  obtain ⟨b0, b1⟩ := so.b
  have nr := so.nr
  refine go_seq (go_set (w_pair (wa_cons (w_pown_world PK (w_var rfl ⟨p, _, _, _, _, _, _, rfl, hp1, wa_cons (w_var rfl ?_)⟩)))))
  refine wa_cons (w_pbegin PK (w_var rfl ⟨p, _, _, _, _, _, _, rfl, hp1, wa_nil ⟨s.w, r, s.b, rfl, so.w, hr2, b0, b1, fun q H2 hq e2 hq2 => ?_⟩⟩))
  obtain ⟨fd, hfd, fl⟩ := gd [s.b] 0
  obtain ⟨⟨e, he, el⟩, qs, hqs, _⟩ := gone_fd hfd
  have hfd : gone s.w r ⟨0, 0, s.b⟩ [s.b] 0 (s.now.rs.map Rnd.rd) = (none, s.b :: e, st) := by rw [hfd, he]; rfl
  have hp2 := hp1.same e2
  refine go_seq (go_if (wt_test (w_op (w_op (w_pnow PK (w_var rfl ⟨p, _, _, _, _, _, _, rfl, hp2, w_int (o2_ixT rfl ?_)⟩))))))
  refine w_tup (wa_nil ⟨[], rfl, Nat.le_of_ble_eq_true rfl, ?_⟩)
  refine o2_neD (rds_shp _).ok (by decide +kernel) ⟨_, rfl, ?_⟩
  by_cases hn : s.now.rs = []
  · refine both_f (by rw [hn]; simp [PyData.eqv, PyData.eqvAll]) ?_
    refine go_next (go_ret (w_var rfl ?_))
    refine rt_fr e2.frq fun H3 e3 => ⟨q, st, e, rfl, (e0.free hq), hfd, ?_⟩
    have hz := hfd
    rw [hn, List.map_nil, gone] at hz
    have z1 : st = ⟨0, 0, s.b⟩ := by cases hz; rfl
    have z2 : e = [] := by cases hz; rfl
    subst z1
    subst z2
    show PairAt H3 q C ⟨s.w, r, s.b, ⟨s.now.rs, ⟨0, 0, s.b⟩, [s.b]⟩, if s.now.rs = [] then [] else _, []⟩
    rw [if_pos hn, hn]
    exact hq2.same e3
  · have hne : (!PyData.eqv (.tuple (s.now.rs.map rde)) (.tuple [])) = true := by
      cases hrs : s.now.rs with
      | nil => exact absurd hrs hn
      | cons a l => simp [PyData.eqv, PyData.eqvAll]
    refine both_t hne ?_
    refine go_drop (w_mP (m := "do") (by decide) (w_var rfl ⟨q, _, _, _, _, _, _, rfl, hq2, ?_⟩))
    refine wa_cons (w_op (w_pnow PK (w_var rfl ⟨p, _, _, _, _, _, _, rfl, hp2, w_int (o2_ixT rfl (wa_nil ?_))⟩)))
    have ern : s.now.rs.map rde = (s.now.rs.map Rnd.rd).map Rd2.enc := by rw [List.map_map]; rfl
    rw [ern]
    refine cs_do (s := ⟨s.w, r, s.b, ⟨[], ⟨0, 0, s.b⟩, [s.b]⟩, [], []⟩) (rs := s.now.rs.map Rnd.rd) ⟨hr2, so.w, ⟨Int.le_refl 0, by have := hr2.pos; show (0 : Int) < (r.length : Nat); omega⟩, ⟨b0, b1⟩, by simp, by simp, by simp, by simp⟩ (by rw [List.length_map]; exact nr) (fun z hz => by
      obtain ⟨z, _, rfl⟩ := List.mem_map.mp hz
      exact noL_q z) hq2 (fun H3 qs st2 e2' f3 g1 g2 g3 => ?_) fun c d H3 n f3 g1 g2 g3 => by
        have g1 : (gone s.w r ⟨0, 0, s.b⟩ [s.b] 0 (s.now.rs.map Rnd.rd)).1 = some n := g1
        rw [hfd] at g1
        cases g1
    have g2 : gone s.w r ⟨0, 0, s.b⟩ [s.b] 0 (s.now.rs.map Rnd.rd) = (none, s.b :: e2', st2) := g2
    rw [hfd] at g2
    cases g2
    have gq : qs = s.now.rs := (map_rd_inj g1).symm
    subst gq
    refine go_ret (w_var rfl ?_)
    refine rt_fr (frNew hq f3 e2) fun H4 e4 => ⟨q, st, e, rfl, (e0.free hq), hfd, ?_⟩
    show PairAt H4 q C ⟨s.w, r, s.b, ⟨s.now.rs, st, s.b :: e⟩, if s.now.rs = [] then [] else _, []⟩
    rw [if_neg hn]
    exact g3.same e4
end
end K2

set_option Elab.async false
set_option linter.all false
set_option maxRecDepth 100000
set_option maxHeartbeats 2000000
/-! ## defs that are run where no guard stands (repr asks it) -/
namespace K2
open PySem L2 PySem.Spec PyProof.Rows
structure FnOkG (P : Program) (w : World) (K : PySem.W.Frag) (mg : Str → Option Value) (base : Heap) (CX : CXT) (k : Nat) (f : Addr) (fd : FuncData) (ps : List Str) (sp : Sp) : Prop where
  len : ∀ vs H Q E, sp vs H Q E → vs.length = ps.length
  run : ∀ (A : Around) (outer : List Env) (s : Shared) (H : Hp) (args : Args) (us : List Value) (vs : List V) (Q : VK) (E : XK), A.guards = some [] → Room k A → Env0 P w K mg base A outer s H → BindsTo s fd args (ps.zip us) → Vals vs us → sp vs H Q E →
    codeAny (model P w) A (.call (.ref f) args) (CR CX outer P w H s Q E) s
theorem guards_deeper {A : Around} {env : Env} (h : A.guards = some []) : (A.deeper env).guards = some [] := h
section
variable {X : Cx} {CX : CXT} {k : Nat} {f : Addr} {fd : FuncData} {ps : List Str} {sp : Sp} {E : XK} {x : Str} {e : Expr} {es : List Expr} {t : TA} {p pos : Pos}
theorem run_fnG {pins : List (Addr × Obj)} {σ : L2.St} {H : Hp} {s : Shared} {Q : VK} {us : List Value} {vs : List V} (F : FnOkG X.prog X.w X.K X.mg X.base CX k f fd ps sp) (hgd : X.A.guards = some []) (hr : Room k X.A) (hb : Binds X.K fd ps []) (hx : Passes CX X E)
    (I : Inv X pins σ H s) (r : Vals vs us) (h : sp vs H Q E) : wpAny (model X.prog X.w) X.A (call (.ref f) us) (EP X pins σ Q) X.xe s := by
  have hl : (us ++ []).length = ps.length := by rw [List.append_nil, ← r.length]; exact F.len _ _ _ _ h
  have hb' := hb s us I.kIn hl
  rw [List.append_nil] at hb'
  refine wpAny_call (codeAny_mono (F.run X.A X.stack s H ⟨us, []⟩ us vs Q E hgd hr I.env0 hb' r h) fun r s' hq => ?_)
  cases r with
  | error e => exact hx pins σ H s e s' I hq
  | ok fl =>
    cases fl with
    | ret u => exact I.after hq
    | next => exact False.elim hq
    | brk => exact False.elim hq
    | cont => exact False.elim hq
theorem pe_callG (F : FnOkG X.prog X.w X.K X.mg X.base CX k f fd ps sp) (hgd : X.A.guards = some []) (hr : Room k X.A) (hg : Gl X x) (hm : X.mg x = some (.ref f)) (hk : PySem.W.keepIn X.K (.ref f) = true) (hb : Binds X.K fd ps []) (hx : Passes CX X E)
    (ha : PA X (e :: es) t) (hdb : (x == ("__debug__" : Str)) = false := by decide) (he : starEach (e :: es) X.env = (false, eval e X.env) :: starEach es X.env := by rfl) (hpl : (backTo pos (starEach es X.env)).any (·.1) = false := by rfl) :
    PE X (.Call (.Name x p) (e :: es) [] pos) (tCall sp [] E t) := by
  refine ⟨fun pins s σ H Q I h => ?_⟩
  refine wpAny_Call_Name_kw (ld_glob I hg hm ?_ hdb)
  refine PySem.W.callWith_K (h₀ := X.base) I.ok.mod.kin hk (thn (ha.run pos pins s σ H _ I h) fun us s1 ⟨vs, H1, I1, r, q⟩ => ⟨I1.kIn, ?_⟩) he hpl
  have q' : sp (vs ++ []) H1 Q E := q
  rw [List.append_nil] at q'
  exact run_fnG F hgd hr hb hx I1 r q'
end
structure DefOkG (P : Program) (w : World) (K : PySem.W.Frag) (mg : Str → Option Value) (base : Heap) (lvl : Nat) (x : Str) (ps : List Str) (S : Spc) : Prop where
  ex : ∃ f fd, FnOkG P w K mg base (L2.CX P w) lvl f fd ps (sp S) ∧ mg x = some (.ref f) ∧ PySem.W.keepIn K (.ref f) = true ∧ Binds K fd ps []
section
variable {X : Cx} {lvl : Nat} {x : Str} {ps : List Str} {S : Spc} {e : Expr} {es : List Expr} {t : TA} {p pos : Pos} {E : XK}
theorem pe_DG (D : DefOkG X.prog X.w X.K X.mg X.base lvl x ps S) (hgd : X.A.guards = some []) (hr : Room lvl X.A) (hg : Gl X x) (hx : Passes (L2.CX X.prog X.w) X E) (ha : PA X (e :: es) t) (hdb : (x == ("__debug__" : Str)) = false := by decide)
    (he : starEach (e :: es) X.env = (false, eval e X.env) :: starEach es X.env := by rfl) (hpl : (backTo pos (starEach es X.env)).any (·.1) = false := by rfl) : PE X (.Call (.Name x p) (e :: es) [] pos) (tCall (sp S) [] E t) := by
  obtain ⟨f, fd, F, gm, kp, b⟩ := D.ex
  exact pe_callG F hgd hr hg gm kp b hx ha hdb he hpl
end
/-- ok_pure where no guard stands -/
theorem ok_pureG {P : Program} {w : World} {K : PySem.W.Frag} {mg : Str → Option Value} {base : Heap} {x qual : Str} {st : Stmt} {dvs : List V} {f : Addr} {fd : FuncData} {N ps : List Str} {k : Nat} {S : Spc} (F : FnP K x qual st dvs f fd) (sc : FnScope N ps (defScope st)) (hl : ∀ i, (S.args i).length = ps.length)
    (hb : ∀ (cdv : Value) (A : Around) (outer : List Env) (s : Shared) (H : Hp) (E : XK), (A.deeper (envOfC qual (defScope st) s.heap.objs.size f cdv)).guards = some [] → Room k (A.deeper (envOfC qual (defScope st) s.heap.objs.size f cdv)) →
      ∃ t, PSs (cxOf (L2.CX P w) P w K mg base N qual (defScope st) f cdv A outer s H E).nox (defBody st) t ∧ ∀ i, S.pre i H → Go [] t (EB (S.mod i) H (S.post i)) ((S.args i).map some ++ List.replicate (N.length - (S.args i).length) none) H) :
    FnOkG P w K mg base (L2.CX P w) (k + 1) f fd ps (sp S) := by
  obtain ⟨oc, od, dV, kV, doc, pm, an, cdv, ct, osl, rfl, lk, hcd, _, _⟩ := F.ex
  refine ⟨fun vs H Q E h => ?_, fun A outer s H args us vs Q E hgd hr e0 hbd r h => ?_⟩
  · obtain ⟨i, d, _⟩ := h
    rw [d.len, hl]
  · obtain ⟨i, d, p, q, _⟩ := h
    refine LamX.run_ofS lk hcd sc hr e0 hbd r (by rw [d.len, hl]) fun hr' => ?_
    obtain ⟨t, ht, hg⟩ := hb cdv A outer s H E (guards_deeper hgd) hr'
    exact ⟨t, ht.nox, go_run d q (hg i p)⟩
end K2

set_option Elab.async false
set_option linter.all false
set_option maxRecDepth 100000
set_option maxHeartbeats 2000000
/-! ## what a law's def may do with a pair -/
namespace K2
open PySem L2 PySem.Spec PyProof.Rows StX RZ
theorem fnR_of {P : Program} {w : World} {K : PySem.W.Frag} {mg : Str → Option Value} {base : Heap} {CX : CXT} {k : Nat} {f : Addr} {fd : FuncData} {ps : List Str} {sp : Sp} (F : FnOk P w K mg base CX k f fd ps sp) (b : Binds K fd ps []) : FnR P w K mg base CX k f sp :=
  fun A outer s H us vs Q E hr e0 r hs => by
    have KX : K.In s.heap := e0.mod.kin.keeps fun b o e => (e0.bs b o e).1
    have hl : (us ++ []).length = ps.length := by rw [List.append_nil, ← r.length]; exact F.len _ _ _ _ hs
    have hb := b s us KX hl
    rw [List.append_nil] at hb
    exact F.run A outer s H ⟨us, []⟩ us vs Q E hr e0 hb r hs
/-- the class and all its promises -/
structure PF (P : Program) (w : World) (K : PySem.W.Frag) (mg : Str → Option Value) (base : Heap) (C CRd CRn CNb CLf : Addr) : Prop where
  k : PairK K mg C
  mkP : MkOk P w K mg base C 7 ["self", "world", "rule", "difference"] (S_p___init__ C)
  world : PropD P w K mg base C 1 "world" (S_p_world C)
  rule : PropD P w K mg base C 1 "rule" (S_p_rule C)
  stand : PropD P w K mg base C 1 "stand" (S_p_stand C)
  rounds : PropD P w K mg base C 1 "rounds" (S_p_rounds C)
  farthest : PropD P w K mg base C 1 "farthest" (S_p_farthest C)
  len : OwnOk P w K mg base C 1 "__len__" ["self"] (S_p___len__ C)
  has : OwnOk P w K mg base C 2 "__contains__" ["self", "x"] (S_p___contains__ C)
  eq : OwnOk P w K mg base C 1 "__eq__" ["self", "other"] (S_p___eq__ C)
  add : OwnOk P w K mg base C 6 "__iadd__" ["self", "other"] (S_p___iadd__ C CRn)
  call : ∃ g fd, FnOk P w K mg base (L2.CX P w) 6 g fd ["self", "drift", "error"] (sp (S_p___call__ C CRd)) ∧ CallO K C g ∧ Binds K fd ["self", "drift", "error"] [] ∧
    ∃ gf gV gX, KBinds K fd ["self", "drift", "error"] ["error", "drift"] gf gV ∧ GvOk gV gX ∧ ∀ p a b, gX [p] [a, b] = [p, b, a]
  undo : MethOk P w K mg base C 4 "undo" ["self", "many"] [] (S_p_undo C CNb CLf)
  undo0 : ∃ dd, RelV (.int 1) dd ∧ MethOk P w K mg base C 4 "undo" ["self", "many"] [dd] (S_p_undo C CNb CLf)
  redo : MethOk P w K mg base C 4 "redo" ["self", "many"] [] (S_p_redo C CNb CLf)
  redo0 : ∃ dd, RelV (.int 1) dd ∧ MethOk P w K mg base C 4 "redo" ["self", "many"] [dd] (S_p_redo C CNb CLf)
  redoK : ∃ g fd, FnOk P w K mg base (L2.CX P w) 4 g fd ["self", "many"] (sp (S_p_redo C CNb CLf)) ∧ Meth K C "redo" g ∧ ∃ gf gV gX, KBinds K fd ["self", "many"] ["many"] gf gV ∧ GvOk gV gX ∧ ∀ p a, gX [p] [a] = [p, a]
  reruled : MethOk P w K mg base C 9 "reruled" ["self", "rule"] [] (S_p_reruled C)
  reruledK : ∃ g fd, FnOk P w K mg base (L2.CX P w) 9 g fd ["self", "rule"] (sp (S_p_reruled C)) ∧ Meth K C "reruled" g ∧ ∃ gf gV gX, KBinds K fd ["self", "rule"] ["rule"] gf gV ∧ GvOk gV gX ∧ ∀ p a, gX [p] [a] = [p, a]
section
variable {X : Cx} {C : Addr} {lvl : Nat} {m : Str} {ps : List Str} {S : Spc} {e : Expr} {es : List Expr} {ta : TE} {t : TA} {E : XK} {pos : Pos}
theorem pe_pD (D : PropD X.prog X.w X.K X.mg X.base C lvl m S) (c : Cls X.K C) (hr : Room (lvl + 1) X.A) (he : PE X e ta) (hab : attributeBase e m X.env (eval e X.env) = eval e X.env := by rfl) : PE X (.Attribute e m pos) (tProp C (sp S) [] Eno ta) := by
  obtain ⟨p, g, fd, F, hp, b⟩ := D.ex
  exact pe_prop he c hp F hr b .nil pass_none hab
theorem call_lenD (D : OwnOk X.prog X.w X.K X.mg X.base C lvl "__len__" ps S) (hr : Room (lvl + 1) X.A) : CallR X (.builtin "len") (rOwnLen C (sp S) Eno) := by
  obtain ⟨g, fd, F, o, b⟩ := D.ex
  exact call_lenOwn o F hr b pass_none
theorem op_inD (D : OwnOk X.prog X.w X.K X.mg X.base C lvl "__contains__" ps S) (hr : Room lvl X.A) : OpR X (compareOp .In) (rOwnIn C (sp S) Eno) := by
  obtain ⟨g, fd, F, o, b⟩ := D.ex
  exact op_inOwn o F hr b pass_none
theorem op_eqPD (PK : PairK X.K X.mg C) (D : OwnOk X.prog X.w X.K X.mg X.base C lvl "__eq__" ps S) (hr : Room lvl X.A) : OpR X (compareOp .Eq) (rOwnEq X.K C (sp S) Eno) := by
  obtain ⟨g, fd, F, o, b⟩ := D.ex
  exact op_ownEq o PK.nf F hr b pass_none
theorem op_nePD (PK : PairK X.K X.mg C) (D : OwnOk X.prog X.w X.K X.mg X.base C lvl "__eq__" ps S) (hr : Room (lvl + 1) X.A) : OpR X (compareOp .NotEq) (rOwnNe X.K C (sp S) Eno) := by
  obtain ⟨g, fd, F, o, b⟩ := D.ex
  exact op_ownNe o PK.ne PK.ob PK.nf F hr b pass_none
theorem ip_D (PK : PairK X.K X.mg C) (D : OwnOk X.prog X.w X.K X.mg X.base C lvl "__iadd__" ps S) (hr : Room lvl X.A) (hx : Passes (L2.CX X.prog X.w) X E) : PIp X .Add (rOwn2 C (sp S) E) := by
  obtain ⟨g, fd, F, o, b⟩ := D.ex
  exact ip_own PK.sf o F hr b hx
end
section
variable {Γ : List Gh} {ρ : Rho} {H : Hp} {R : PX} {te : TE} {C p : Addr} {s : PSt} {K : PySem.W.Frag}
theorem go_aug {EE : EX} {i : Nat} {r : TIp} {x : Dx} (hv : ρ[i]? = some (some x)) (h : W Γ te ρ H fun y H1 => O2 r x y H1 fun z H2 => EE.nx (ρ.set i (some z)) H2) : Go Γ (tAug i te r) EE ρ H := fun D le σ H' e s => by
  obtain ⟨v, hv2, dv⟩ := s.at_ i x hv
  refine ⟨v, hv2, h σ H' e s _ fun y u H1 H1' k e1 f1 d1 => k v u H1' e1 (ft_dx f1 dv) d1 _ fun z w H2 H2' k2 e2 f2 d2 => ?_⟩
  exact le.nx _ _ _ _ k2 e2 (((s.ft f1).ft f2).set d2)
theorem cs_pworld (h : PairAt H p C s) (k : ∀ H2, Same H H2 → R (.d s.w.enc) H2) : CallS (S_p_world C) [.o (.ref p)] H Eno R := CallS.pure (S := S_p_world C) (p, s) rfl (fun _ e => h.same e) rfl fun x H2 e po => by
  obtain rfl := po
  exact k H2 e
theorem cs_prule (h : PairAt H p C s) (k : ∀ H2, Same H H2 → R (.d (encR s.r)) H2) : CallS (S_p_rule C) [.o (.ref p)] H Eno R := CallS.pure (S := S_p_rule C) (p, s) rfl (fun _ e => h.same e) rfl fun x H2 e po => by
  obtain rfl := po
  exact k H2 e
theorem cs_pstand (h : PairAt H p C s) (k : ∀ H2, Same H H2 → R (.d s.now.st.enc) H2) : CallS (S_p_stand C) [.o (.ref p)] H Eno R := CallS.pure (S := S_p_stand C) (p, s) rfl (fun _ e => h.same e) rfl fun x H2 e po => by
  obtain rfl := po
  exact k H2 e
theorem cs_prounds (h : PairAt H p C s) (k : ∀ H2, Same H H2 → R (.d (.tuple (s.now.rs.map rde))) H2) : CallS (S_p_rounds C) [.o (.ref p)] H Eno R := CallS.pure (S := S_p_rounds C) (p, s) rfl (fun _ e => h.same e) rfl fun x H2 e po => by
  obtain rfl := po
  exact k H2 e
theorem cs_pfar (h : PairAt H p C s) (hl : 0 < s.now.df.length) (k : ∀ H2 (m n : Int), Same H H2 → m ∈ s.now.df → (∀ y ∈ s.now.df, m ≤ y) → n ∈ s.now.df → (∀ y ∈ s.now.df, y ≤ n) → R (.d (.tuple [.int m, .int n])) H2) : CallS (S_p_farthest C) [.o (.ref p)] H Eno R := CallS.pure (S := S_p_farthest C) (p, s) rfl (fun _ e => ⟨h.same e, hl⟩) rfl fun x H2 e po => by
  obtain ⟨m, n, rfl, h1, h2, h3, h4⟩ := po
  exact k H2 m n e h1 h2 h3 h4
/-- p.world, .. -/
theorem w_pr {S : Spc} (h : W Γ te ρ H fun x H1 => ∃ p s, x = .o (.ref p) ∧ PairAt H1 p C s ∧ CallS S [.o (.ref p)] H1 Eno R) : W Γ (tProp C (sp S) [] Eno te) ρ H R := w_prop (h.imp fun x H1 k => by
  obtain ⟨p, s, rfl, hp, k⟩ := k
  obtain ⟨dx, fs, hp⟩ := hp.ins
  exact ⟨p, dx, fs, rfl, hp, k⟩)
theorem oa_plen (h : PairAt H p C s) (hl : s.now.rs.length ≤ 1000) (k : ∀ H2, Same H H2 → R (.d (.int (s.now.rs.length : Nat))) H2) : OA (rOwnLen C (sp (S_p___len__ C)) Eno) [.o (.ref p)] H R :=
  oa_ownLen h.ins (CallS.pure (S := S_p___len__ C) (p, s) rfl (fun _ e => h.same e) rfl fun x H2 e po => by
    obtain rfl := po
    exact ⟨_, rfl, (show (0 : Int) ≤ (s.now.rs.length : Nat) ∧ ((s.now.rs.length : Nat) : Int) < 2 ^ 63 from ⟨by omega, by omega⟩), k H2 e⟩)
theorem o2_pin {d : PyData} (h : PairAt H p C s) (k : ∀ H2, Same H H2 → R (.d (.bool (inP s.now.df d))) H2) : O2 (rOwnIn C (sp (S_p___contains__ C)) Eno) (.d d) (.o (.ref p)) H R :=
  o2_ownIn h.ins (CallS.pure (S := S_p___contains__ C) ((p, s), d) rfl (fun _ e => h.same e) rfl fun x H2 e po => by
    obtain rfl := po
    exact ⟨_, rfl, k H2 e⟩)
theorem o2_peq {q : Addr} {t : PSt} (h : PairAt H p C s) (hq : PairAt H q C t) (k : ∀ H2, Same H H2 → R (.d (.bool (eqP s t))) H2) : O2 (rOwnEq K C (sp (S_p___eq__ C)) Eno) (.o (.ref p)) (.o (.ref q)) H R := by
  obtain ⟨dx, fs, hq'⟩ := hq.ins
  exact o2_ownEq h.ins (.inr ⟨q, dx, fs, rfl, hq'⟩) (CallS.pure (S := S_p___eq__ C) ((p, s), some (q, t)) rfl (fun _ e => ⟨h.same e, fun z hz => by cases hz; exact hq.same e⟩) rfl fun x H2 e po => by
    obtain rfl := po
    exact k H2 e)
theorem o2_peq5 (h : PairAt H p C s) (k : ∀ H2, Same H H2 → R (.d (.bool false)) H2) : O2 (rOwnEq K C (sp (S_p___eq__ C)) Eno) (.o (.ref p)) (.d (.int 5)) H R :=
  o2_ownEq h.ins (.inl ⟨5, rfl⟩) (CallS.pure (S := S_p___eq__ C) ((p, s), none) rfl (fun _ e => ⟨h.same e, fun z hz => by cases hz⟩) rfl fun x H2 e po => by
    obtain rfl := po
    exact k H2 e)
theorem o2_pne {q : Addr} {t : PSt} (h : PairAt H p C s) (hq : PairAt H q C t) (k : ∀ H2, Same H H2 → R (.d (.bool (!eqP s t))) H2) : O2 (rOwnNe K C (sp (S_p___eq__ C)) Eno) (.o (.ref p)) (.o (.ref q)) H R := by
  obtain ⟨dx, fs, hq'⟩ := hq.ins
  exact o2_ownNe h.ins (.inr ⟨q, dx, fs, rfl, hq'⟩) (CallS.pure (S := S_p___eq__ C) ((p, s), some (q, t)) rfl (fun _ e => ⟨h.same e, fun z hz => by cases hz; exact hq.same e⟩) rfl fun x H2 e po => by
    obtain rfl := po
    exact ⟨_, rfl, k H2 e⟩)
end
end K2

set_option Elab.async false
set_option linter.all false
set_option maxRecDepth 100000
set_option maxHeartbeats 2000000
/-! ## the plain law: how great numbers get -/
namespace K2
open PySem L2
theorem taken_abs {d : Deed} (h : d.ok) (e : Int) : (takenBy d e).natAbs ≤ e.natAbs + 60 := by
  cases d with
  | hold => simp [takenBy]
  | shift n =>
    obtain ⟨h1, h2⟩ := h
    show n.natAbs ≤ _
    omega
  | run n =>
    obtain ⟨h1, h2⟩ := h
    simp only [takenBy]
    split <;> split <;> omega
  | jump a b =>
    obtain ⟨h1, h2, h3, h4⟩ := h
    have key : ∀ x : Int, 0 ≤ x → 0 ≤ a * x / b ∧ a * x / b ≤ x := fun x hx => by
      refine ⟨Int.ediv_nonneg (Int.mul_nonneg h3 hx) (by omega), ?_⟩
      have h5 : a * x ≤ b * x := Int.mul_le_mul_of_nonneg_right h4 hx
      have h6 : a * x / b ≤ b * x / b := Int.ediv_le_ediv (by omega) h5
      rw [Int.mul_ediv_cancel_left _ (by omega)] at h6
      exact h6
    simp only [takenBy]
    have k1 := key (if e < 0 then -e else e) (by split <;> omega)
    have k3 : (if e < 0 then -e else e) = (e.natAbs : Nat) := by split <;> omega
    rw [k3] at k1 ⊢
    generalize a * ((e.natAbs : Nat) : Int) / b = z at k1 ⊢
    split <;> omega
theorem stepped_abs {w : Wld} {r : Rul} {s : Std} {q : Rd2} {B : Nat} (hw : w.ok) (hr : r.ok) (hs : s.ok r) (hq : isRound w s.ms q = true) (hB : s.df.natAbs ≤ B) (h2 : 500 ≤ B) :
    (stepped r s (ofI q.1) (ofO q.2)).1.natAbs ≤ 4 * B ∧ (stepped r s (ofI q.1) (ofO q.2)).2.2.2.df.natAbs ≤ 4 * B := by
  obtain ⟨i, o, rfl, e1, e2⟩ := isRound_t hq
  rw [e1, e2]
  have hi : w.lo ≤ i ∧ i ≤ w.hi := by
    simp only [isRound, isWhole, Bool.and_eq_true, decide_eq_true_eq] at hq
    exact hq.1
  have := hw.l1
  have := hw.l3
  have := hw.a2
  have := hw.b2
  have mo := hr.mod _ (modeOf_mem hs.1 hs.2).1
  cases o with
  | none =>
    have t := taken_abs mo.mis.1 0
    simp only [stepped]
    constructor <;> omega
  | some e =>
    have he : 0 - w.e0 ≤ e ∧ e ≤ w.e1 := by
      simp only [isRound, isWhole, encO, Bool.and_eq_true, decide_eq_true_eq] at hq
      exact hq.2
    have t := taken_abs (mo.ent _ (entryAt_mem mo (s.df + i + e)).1).1 (s.df + i + e)
    simp only [stepped]
    constructor <;> omega
theorem gone_abs {w : Wld} {r : Rul} (hw : w.ok) (hr : r.ok) : ∀ {rs : List Rd2} {s s' : Std} {fd fd' : List Int} {n B : Nat}, s.ok r → gone w r s fd n rs = (none, fd', s') → s.df.natAbs ≤ B → 500 ≤ B → (∀ y ∈ fd, y.natAbs ≤ B) → (∀ y ∈ fd', y.natAbs ≤ 4 ^ rs.length * B) ∧ s'.df.natAbs ≤ 4 ^ rs.length * B
  | [], s, s', fd, fd', n, B, hs, h, h1, h2, h3 => by
    simp only [gone, Prod.mk.injEq] at h
    obtain ⟨_, rfl, rfl⟩ := h
    exact ⟨fun y hy => by simpa using h3 y hy, by simpa using h1⟩
  | q :: qs, s, s', fd, fd', n, B, hs, h, h1, h2, h3 => by
    simp only [gone] at h
    split at h
    · rename_i hq
      obtain ⟨a1, a2⟩ := stepped_abs hw hr hs hq h1 h2
      have ih := gone_abs hw hr (B := 4 * B) (stepped_ok hr hs).1 h a2 (by omega) (fun y hy => by
        rcases List.mem_append.mp hy with hy | hy
        · have := h3 y hy
          omega
        · rcases List.mem_cons.mp hy with rfl | hy
          · exact a1
          · rw [List.mem_singleton] at hy
            subst hy
            exact a2)
      have e : 4 ^ (q :: qs).length * B = 4 ^ qs.length * (4 * B) := by
        rw [List.length_cons, Nat.pow_succ, Nat.mul_assoc]
      rw [e]
      exact ih
    · cases h
theorem log_lt {i : Int} {k : Nat} (h : i.natAbs ≤ 4 ^ k * 512) (hk : k ≤ 500) : i.natAbs.log2 < 1920 := by
  by_cases h0 : i.natAbs = 0
  · rw [h0]
    decide
  rw [Nat.log2_lt h0]
  have e1 : (4 : Nat) ^ k * 512 = 2 ^ (2 * k + 9) := by
    rw [Nat.pow_add, Nat.pow_mul]
  have e2 : (2 : Nat) ^ (2 * k + 9) < 2 ^ 1920 := Nat.pow_lt_pow_right (by decide) (by omega)
  omega
end K2

set_option Elab.async false
set_option linter.all false
set_option maxRecDepth 100000
set_option maxHeartbeats 2000000
/-! ## the plain law: what is shown is not great -/
namespace K2
open PySem L2
def Sho (n : Nat) (d : PyData) : Prop := okD d = true ∧ szD d ≤ n
theorem Sho.mono {n m : Nat} {d : PyData} (h : Sho n d) (hn : n ≤ m) : Sho m d := ⟨h.1, Nat.le_trans h.2 hn⟩
theorem shoI {i : Int} {k : Nat} (h : i.natAbs ≤ 4 ^ k * 512) (hk : k ≤ 500) : Sho 2000 (.int i) := ⟨by simp only [okD, decide_eq_true_eq]; exact log_lt h hk, Nat.le_refl _⟩
theorem shoS {i : Int} (h : i.natAbs ≤ 512) : Sho 2000 (.int i) := shoI (k := 0) (by simpa using h) (by decide)
theorem shoB {b : Bool} : Sho 10 (.bool b) := ⟨rfl, Nat.le_refl _⟩
theorem shoN : Sho 10 .none := ⟨rfl, Nat.le_refl _⟩
theorem shos {n : Nat} : ∀ {ds : List PyData}, (∀ d ∈ ds, Sho n d) → okDs ds = true ∧ szDs ds ≤ ds.length * (n + 2)
  | [], _ => ⟨rfl, Nat.zero_le _⟩
  | d :: ds, h => by
    obtain ⟨a1, a2⟩ := h d List.mem_cons_self
    obtain ⟨b1, b2⟩ := shos (ds := ds) fun x hx => h x (List.mem_cons_of_mem _ hx)
    refine ⟨by simp [okDs, a1, b1], ?_⟩
    simp only [szDs, List.length_cons]
    have : (ds.length + 1) * (n + 2) = ds.length * (n + 2) + (n + 2) := by rw [Nat.add_mul, Nat.one_mul]
    omega
theorem shoT {n k : Nat} {ds : List PyData} (h : ∀ d ∈ ds, Sho n d) (hk : ds.length ≤ k) : Sho (10 + k * (n + 2)) (.tuple ds) := by
  obtain ⟨h1, h2⟩ := shos h
  refine ⟨h1, ?_⟩
  have := Nat.mul_le_mul_right (n + 2) hk
  show 10 + szDs ds ≤ _
  omega
theorem shoL {n k : Nat} {ds : List PyData} (h : ∀ d ∈ ds, Sho n d) (hk : ds.length ≤ k) : Sho (10 + k * (n + 2)) (.list ds) := by
  obtain ⟨h1, h2⟩ := shos h
  refine ⟨h1, ?_⟩
  have := Nat.mul_le_mul_right (n + 2) hk
  show 10 + szDs ds ≤ _
  omega
theorem sho_W {w : Wld} (h : w.ok) : Sho 11000 w.enc := by
  have := h.l1; have := h.l2; have := h.l3; have := h.a1; have := h.a2; have := h.b1; have := h.b2; have := h.c1; have := h.c2
  exact (shoT (n := 2000) (k := 5) (all_cons (shoS (by omega)) (all_cons (shoS (by omega)) (all_cons (shoS (by omega)) (all_cons (shoS (by omega)) (all_cons (shoS (by omega)) all_nil))))) (Nat.le_of_ble_eq_true rfl)).mono (by decide)
theorem sho_str {x : Str} (h : (reprText x).length ≤ 100) : Sho 100 (.str x) := ⟨by simp [okD, h], Nat.le_refl _⟩
theorem sho_D {d : Deed} (h : d.ok) : Sho 6100 d.enc := by
  cases d with
  | hold => exact (shoT (n := 2000) (k := 3) (all_cons ((sho_str (by decide +kernel)).mono (by decide)) all_nil) (Nat.le_of_ble_eq_true rfl)).mono (by decide)
  | shift n =>
    obtain ⟨h1, h2⟩ := h
    exact (shoT (n := 2000) (k := 3) (all_cons ((sho_str (by decide +kernel)).mono (by decide)) (all_cons (shoS (by omega)) all_nil)) (Nat.le_of_ble_eq_true rfl)).mono (by decide)
  | run n =>
    obtain ⟨h1, h2⟩ := h
    exact (shoT (n := 2000) (k := 3) (all_cons ((sho_str (by decide +kernel)).mono (by decide)) (all_cons (shoS (by omega)) all_nil)) (Nat.le_of_ble_eq_true rfl)).mono (by decide)
  | jump a b =>
    obtain ⟨h1, h2, h3, h4⟩ := h
    exact (shoT (n := 2000) (k := 3) (all_cons ((sho_str (by decide +kernel)).mono (by decide)) (all_cons (shoS (by omega)) (all_cons (shoS (by omega)) all_nil))) (Nat.le_of_ble_eq_true rfl)).mono (by decide)
theorem sho_E {e : Ent} {k : Int} (h : e.ok k) (hk : k ≤ 3) : Sho 12300 e.enc := by
  obtain ⟨h1, h2, h3⟩ := h
  exact (shoT (n := 6100) (k := 2) (all_cons (sho_D h1) (all_cons ((shoS (by omega)).mono (by decide)) all_nil)) (Nat.le_of_ble_eq_true rfl)).mono (by decide)
theorem sho_M {m : Mod} {k : Int} (h : m.ok k) (hk : k ≤ 3) : Sho 200000 m.enc := by
  have hf := h.few
  have hl := h.len
  refine (shoT (n := 62000) (k := 3) (all_cons ?_ (all_cons ?_ (all_cons ((sho_E h.mis hk).mono (by decide)) all_nil))) (Nat.le_of_ble_eq_true rfl)).mono (by decide)
  · exact (shoT (n := 2000) (k := 4) (all_map fun c hc => shoS (by have := h.big c hc; omega)) (by rw [List.length_map]; exact hf)).mono (by decide)
  · exact (shoT (n := 12300) (k := 5) (all_map fun e he => sho_E (h.ent e he) hk) (by rw [List.length_map]; omega)).mono (by decide)
theorem sho_R {r : Rul} (h : r.ok) : Sho 610000 (encR r) := by
  have hf := h.few
  exact (shoT (n := 200000) (k := 3) (all_map fun m hm => sho_M (h.mod m hm) (by omega)) (by rw [List.length_map]; exact hf)).mono (by decide)
theorem sho_rde {w : Wld} {ms : Int} {q : Rnd} (h : isRound w ms q.rd = true) (hw : w.ok) : Sho 4100 (rde q) := by
  obtain ⟨i, o⟩ := q
  have := hw.l1; have := hw.l3; have := hw.a2; have := hw.b2
  have hi : w.lo ≤ i ∧ i ≤ w.hi := by
    simp only [isRound, Rnd.rd, isWhole, Bool.and_eq_true, decide_eq_true_eq] at h
    exact h.1
  cases o with
  | none => exact (shoT (n := 2000) (k := 2) (all_cons (shoS (by omega)) (all_cons (shoN.mono (by decide)) all_nil)) (Nat.le_of_ble_eq_true rfl)).mono (by decide)
  | some e =>
    have he : 0 - w.e0 ≤ e ∧ e ≤ w.e1 := by
      simp only [isRound, Rnd.rd, isWhole, encO, Bool.and_eq_true, decide_eq_true_eq] at h
      exact h.2
    exact (shoT (n := 2000) (k := 2) (all_cons (shoS (by omega)) (all_cons (shoS (by omega)) all_nil)) (Nat.le_of_ble_eq_true rfl)).mono (by decide)
/-- every round of a run can be done somewhere -/
theorem gone_each {w : Wld} {r : Rul} : ∀ {rs : List Rd2} {s s' : Std} {fd fd' : List Int} {n : Nat}, gone w r s fd n rs = (none, fd', s') → ∀ q ∈ rs, ∃ ms, isRound w ms q = true
  | [], _, _, _, _, _, _, q, hq => by cases hq
  | p :: ps, s, s', fd, fd', n, h, q, hq => by
    simp only [gone] at h
    split at h
    · rename_i hp
      rcases List.mem_cons.mp hq with rfl | hq
      · exact ⟨_, hp⟩
      · exact gone_each h q hq
    · cases h
theorem sho_Rs {w : Wld} {r : Rul} {rs : List Rnd} {s s' : Std} {fd fd' : List Int} {n : Nat} (hw : w.ok) (h : gone w r s fd n (rs.map Rnd.rd) = (none, fd', s')) (hl : rs.length ≤ 500) : Sho 2100000 (.tuple (rs.map rde)) :=
  (shoT (n := 4100) (k := 500) (all_map fun q hq => by
    obtain ⟨ms, hm⟩ := gone_each h q.rd (List.mem_map_of_mem hq)
    exact sho_rde hm hw) (by rw [List.length_map]; exact hl)).mono (by decide)
theorem gone_ms {w : Wld} {r : Rul} : ∀ {rs : List Rd2} {s s' : Std} {fd fd' : List Int} {n : Nat}, gone w r s fd n rs = (none, fd', s') → (s.ms ≤ w.ls ∧ 0 ≤ s.ms) → 0 ≤ w.ls → s'.ms ≤ w.ls ∧ 0 ≤ s'.ms
  | [], _, _, _, _, _, h, h1, _ => by
    simp only [gone, Prod.mk.injEq] at h
    obtain ⟨_, _, rfl⟩ := h
    exact h1
  | p :: ps, s, s', fd, fd', n, h, h1, h2 => by
    simp only [gone] at h
    split at h
    · rename_i hp
      refine gone_ms h ?_ h2
      obtain ⟨i, o, rfl, e1, e2⟩ := isRound_t hp
      rw [e1, e2]
      cases o with
      | none =>
        have : s.ms < w.ls := by
          simp only [isRound, isWhole, encO, Bool.and_eq_true, decide_eq_true_eq] at hp
          exact hp.2
        simp only [stepped]
        omega
      | some e =>
        simp only [stepped]
        omega
    · cases h
end K2

set_option Elab.async false
set_option linter.all false
set_option maxRecDepth 100000
set_option pp.deepTerms false
set_option pp.deepTerms.threshold 10
set_option maxHeartbeats 4000000
namespace K2
open PySem L2 PySem.Spec PyProof.Rows StX RZ
local macro_rules | `(tactic| walk_at "k2") => `(tactic| first
  | with_reducible refine w_var rfl ?_
  | with_reducible refine w_int ?_
  | with_reducible refine w_bl ?_
  | with_reducible refine w_non ?_
  | with_reducible refine w_str ?_
  | with_reducible refine w_o ?_
  | with_reducible refine wa_cons ?_
  | with_reducible refine wa_nil ?_
  | with_reducible refine w_op ?_
  | with_reducible refine w_un ?_
  | with_reducible refine w_cb ?_
  | with_reducible refine w_call0 ?_
  | with_reducible refine w_chain ?_
  | with_reducible refine w_tup ?_
  | with_reducible refine w_lst ?_
  | with_reducible refine w_andV ?_
  | with_reducible refine w_orV ?_
  | with_reducible refine w_notV ?_
  | with_reducible refine w_if ?_
  | with_reducible refine wt_test ?_
  | with_reducible refine wt_B ?_
  | with_reducible refine wt_and ?_
  | with_reducible refine wt_or ?_
  | with_reducible refine wt_not ?_
  | with_reducible refine go_seq ?_
  | with_reducible refine go_ret ?_
  | with_reducible refine go_retN ?_
  | with_reducible refine go_set ?_
  | with_reducible refine go_par ?_
  | with_reducible refine go_par3 ?_
  | with_reducible refine go_asg ?_
  | with_reducible refine go_next ?_
  | with_reducible refine go_if ?_
  | with_reducible refine o2_ii ?_
  | with_reducible refine o2_ib ?_
  | with_reducible refine o1_i ?_
  | with_reducible refine o2_isN ?_
  | with_reducible refine o2_notN ?_
  | with_reducible refine oa_isiI ?_
  | with_reducible refine oa_isiB ?_
  | with_reducible refine oa_isiT ?_
  | with_reducible refine oa_isiS ?_
  | with_reducible refine oa_abs ?_
  | with_reducible refine oa_max ?_
  | with_reducible refine oa_min ?_
  | with_reducible refine oa_len ?_
  | with_reducible refine oa_lenL ?_
  | with_reducible refine oa_intB ?_
  | refine ⟨[_, _], rfl, Nat.le_of_ble_eq_true rfl, ?_⟩
  | refine ⟨[_, _, _], rfl, Nat.le_of_ble_eq_true rfl, ?_⟩
  | refine ⟨[_, _, _, _], rfl, Nat.le_of_ble_eq_true rfl, ?_⟩
  | refine ⟨[_], rfl, Nat.le_of_ble_eq_true rfl, ?_⟩
  | refine ⟨[], rfl, Nat.le_of_ble_eq_true rfl, ?_⟩)

local macro_rules | `(tactic| walk_at "k2") => `(tactic| first
  | with_reducible refine ex_b ?_
  | refine both_t rfl ?_
  | refine both_f rfl ?_
  | refine both_f2 rfl ?_
  | refine both_t2 rfl ?_
  | with_reducible refine cs_is_integer fun _ _ => ?_
  | with_reducible refine cs_is_whole fun _ _ => ?_
  | refine oa_len ?_
  | refine oa_lenL ?_
  | refine o2_ixT rfl ?_
  | refine o2_ixL rfl ?_
  | refine o2_in rfl rfl ?_
  | refine o2_eqI ?_
  | refine o2_neI ?_
  | refine o2_eqS (by decide +kernel) (by decide +kernel) ?_
  | refine o2_neS (by decide +kernel) (by decide +kernel) ?_
  | refine o2_eqD (Deed.shp _).ok rfl ?_
  | refine both_t (by decide +kernel) ?_
  | refine both_f (by decide +kernel) ?_
  | refine both_f2 (by decide +kernel) ?_
  | refine both_t2 (by decide +kernel) ?_
  | with_reducible refine w_slT ?_
  | with_reducible refine wg_name ?_
  | with_reducible refine wgs_cons ?_
  | with_reducible refine wgs_nil ?_
  | refine o2_ii ?_
  | refine o2_ib ?_
  | refine o2_isN ?_
  | refine o2_notN ?_
  | refine wg_tup rfl ?_
  | refine wgs_cons ?_
  | refine wgs_nil ?_
  | with_reducible refine w_slL ?_
  | with_reducible refine wo_no ?_
  | with_reducible refine wo_some ?_
  | with_reducible refine ⟨_, _, rfl, rfl, ?_⟩
  | with_reducible refine ⟨_, rfl, ?_⟩
  | with_reducible refine ⟨_, _, rfl, ?_⟩
  | with_reducible refine ⟨_, _, _, rfl, ?_⟩)
local macro_rules | `(tactic| walk_at "same") => `(tactic| ((repeat (first | exact Same.refl _ | assumption | refine Same.trans ?_ (by assumption)))))

local macro_rules | `(tactic| walk_at "k3") => `(tactic| first
  | walk_at "k2"
  | refine both_t (by first | (simp; done) | (simp; omega)) ?_
  | refine both_f (by first | (simp; done) | (simp; omega)) ?_
  | refine both_f2 (by first | (simp; done) | (simp; omega)) ?_
  | refine both_t2 (by first | (simp; done) | (simp; omega)) ?_
  | refine go_next ?_
  | refine go_drop ?_)
theorem _root_.L2.Room.un100 {k : Nat} {A : Around} (r : Room k A) : A.units + 100 < cLine := by have := r.un; omega
section
variable {H : Hp} {R : PX}
theorem o2_eqSS {a b : Str} (k : R (.d (.bool (decide (a = b)))) H) : O2 rEq (.d (.str a)) (.d (.str b)) H R := fun v u H' e d1 d2 Q q => by
  cases d1
  cases d2
  have e2 : decide (V.str a = V.str b) = decide (a = b) := by simp
  exact ⟨rfl, by rw [e2]; exact q _ _ H H' k e (Ft.refl _) (Dq.bl _)⟩
theorem o2_neSS {a b : Str} (k : R (.d (.bool (!decide (a = b)))) H) : O2 rNe (.d (.str a)) (.d (.str b)) H R := fun v u H' e d1 d2 Q q => by
  cases d1
  cases d2
  have e2 : decide (V.str a = V.str b) = decide (a = b) := by simp
  exact ⟨rfl, by rw [e2]; exact q _ _ H H' k e (Ft.refl _) (Dq.bl _)⟩
end
/-- a pair that stands as its rounds say -/
structure PSt.good (s : PSt) : Prop where
  ok : s.ok
  run : gone s.w s.r ⟨0, 0, s.b⟩ [s.b] 0 (s.now.rs.map Rnd.rd) = (none, s.now.df, s.now.st)
theorem oa_lenE {K : PySem.W.Frag} {H : Hp} {R : PX} {ds : List PyData} {n : Int} (h : ((ds.length : Nat) : Int) = n) (k : R (.d (.int n)) H) : OA (fun xs H Q => ∃ p ys, xs = [.ref p] ∧ (SqL K H p ys ∨ SqT K H p ys) ∧ Q (.int ys.length) H) [.d (.tuple ds)] H R := by
  subst h
  exact oa_len k
theorem o2_catLE {K : PySem.W.Frag} {H : Hp} {R : PX} {xs ys zs : List PyData} (h : xs ++ ys = zs) (hz : xs.length + ys.length ≤ 100000) (k : R (.d (.list zs)) H) : O2 rCat (.d (.list xs)) (.d (.list ys)) H R := by
  subst h
  exact o2_catL hz k
def S__law_is_so (C : Addr) : Spc where
  ι := Addr × PSt
  args i := [.o (.ref i.1), .d i.2.w.enc, .d (encR i.2.r), .d (.int i.2.b), .d (.tuple (i.2.now.rs.map rde))]
  pre i H := PairAt H i.1 C i.2 ∧ i.2.good
  mod _ := []
  post i x _ := x = .d (.bool true)
theorem lcs_walked {w : Wld} {r : Rul} {b : Int} {rs : List Rnd} {df : List Int} {st : Std} (hw : w.ok) (hr : r.ok) (hl : rs.length ≤ 1000) (hg : gone w r ⟨0, 0, b⟩ [b] 0 (rs.map Rnd.rd) = (none, df, st)) {H : Hp} {R : PX} (k : ∀ H2, Same H H2 → R (.d (.tuple [.list (df.map .int), st.enc])) H2) :
    CallS S__law_walked [.d w.enc, .d (encR r), .d (.tuple [.int b, .tuple (rs.map rde)])] H Eno R := CallS.pure (S := S__law_walked) (w, r, b, rs) rfl (fun _ _ => ⟨hw, hr, hl, by show (gone w r ⟨0, 0, b⟩ [b] 0 (rs.map Rnd.rd)).1 = none; rw [hg], hl⟩) rfl fun x H2 e po => by
  have po : x = .d (.tuple [.list ((gone w r ⟨0, 0, b⟩ [b] 0 (rs.map Rnd.rd)).2.1.map .int), (gone w r ⟨0, 0, b⟩ [b] 0 (rs.map Rnd.rd)).2.2.enc]) := po
  rw [hg] at po
  subst po
  exact k H2 e
section
variable {P : Program} {w : World} {K : PySem.W.Frag} {mg : Str → Option Value} {base : Heap} {f C CRd CRn CNb CLf : Addr} {fd : FuncData} (G : GF mg) (Pf : PF P w K mg base C CRd CRn CNb CLf)
include G Pf
omit G Pf in
theorem sc__law_is_so : FnScope ["_law_pair", "_law_world_here", "_law_manner", "_law_begin_here", "_law_rounds_here", "_law_walked_here", "_law_told", "_law_some", "_law_due", "_law_ins", "_law_k"] ["_law_pair", "_law_world_here", "_law_manner", "_law_begin_here", "_law_rounds_here"] (defScope (top 65)) := ⟨rfl, rfl, rfl, by decide +kernel, rfl, by decide +kernel, by decide +kernel⟩
theorem ok__law_is_so (D__law_walked : DefOk P w K mg base 3 "_law_walked" ["_law_world_here", "_law_manner", "_law_run"] (S__law_walked)) (F : FnP K "_law_is_so" "_law_is_so" (top 65) [] f fd) : FnOkG P w K mg base (L2.CX P w) 12 f fd ["_law_pair", "_law_world_here", "_law_manner", "_law_begin_here", "_law_rounds_here"] (sp (S__law_is_so C)) := by
  have sc := sc__law_is_so
  refine ok_pureG F sc (fun _ => rfl) fun cdv A outer s H E hgd hr => ⟨_, pss_cons (ps_set (i := 5) sc.nd rfl (.inl rfl) (pe_D D__law_walked (hr.mono (by decide)) rfl pass_none (pa_cons (pe_var (i := 1) rfl (.inl rfl)) (pa_cons (pe_var (i := 2) rfl (.inl rfl)) (pa_cons (pe_tup (pa_cons (pe_var (i := 3) rfl (.inl rfl)) (pa_cons (pe_var (i := 4) rfl (.inl rfl)) (pa_nil)))) (pa_nil)))))) (pss_cons (ps_set (i := 6) sc.nd rfl (.inl rfl) (pe_lst (pa_cons (pe_pD Pf.world Pf.k.cls (hr.mono (by decide)) (pe_var (i := 0) rfl (.inr (.inl rfl)))) (pa_cons (pe_pD Pf.rule Pf.k.cls (hr.mono (by decide)) (pe_var (i := 0) rfl (.inr (.inl rfl)))) (pa_cons (pe_pD Pf.stand Pf.k.cls (hr.mono (by decide)) (pe_var (i := 0) rfl (.inr (.inl rfl)))) (pa_cons (pe_pD Pf.rounds Pf.k.cls (hr.mono (by decide)) (pe_var (i := 0) rfl (.inr (.inl rfl)))) (pa_cons (pe_pD Pf.farthest Pf.k.cls (hr.mono (by decide)) (pe_var (i := 0) rfl (.inr (.inl rfl)))) (pa_nil)))))))) (pss_cons (ps_set (i := 6) sc.nd rfl (.inl rfl) (pe_op op_cat (pe_var (i := 6) rfl (.inl rfl)) (pe_lst (pa_cons (pe_callB (call_lenD Pf.len (hr.mono (by decide))) rfl (G.gfree "len" (by decide +kernel)) (by decide +kernel) (pa_cons (pe_var (i := 0) rfl (.inr (.inl rfl))) (pa_nil))) (pa_cons (pe_cmpR (op_eqPD Pf.k Pf.eq (hr.mono (by decide))) (pe_var (i := 0) rfl (.inr (.inl rfl))) (pe_mkD Pf.mkP (hr.mono (by decide)) rfl Pf.k.mgC pass_none (pa_cons (pe_var (i := 1) rfl (.inl rfl)) (pa_cons (pe_var (i := 2) rfl (.inl rfl)) (pa_cons (pe_var (i := 3) rfl (.inl rfl)) (pa_nil))))) (nomark _)) (pa_nil)))))) (pss_cons (ps_set (i := 7) sc.nd rfl (.inl rfl) (pe_ix ix_seq (pe_var (i := 5) rfl (.inl rfl)) (pe_int) (fun _ _ => rfl))) (pss_cons (ps_set (i := 8) sc.nd rfl (.inl rfl) (pe_lst (pa_cons (pe_var (i := 1) rfl (.inl rfl)) (pa_cons (pe_var (i := 2) rfl (.inl rfl)) (pa_cons (pe_ix ix_seq (pe_var (i := 5) rfl (.inl rfl)) (pe_int) (fun _ _ => rfl)) (pa_cons (pe_var (i := 4) rfl (.inl rfl)) (pa_cons (pe_tup (pa_cons (pe_callB (cr_min rfl) rfl (G.gfree "min" (by decide +kernel)) (by decide +kernel) (pa_cons (pe_var (i := 7) rfl (.inl rfl)) (pa_nil))) (pa_cons (pe_callB (cr_max rfl) rfl (G.gfree "max" (by decide +kernel)) (by decide +kernel) (pa_cons (pe_var (i := 7) rfl (.inl rfl)) (pa_nil))) (pa_nil)))) (pa_cons (pe_callB call_len_seq rfl (G.gfree "len" (by decide +kernel)) (by decide +kernel) (pa_cons (pe_var (i := 4) rfl (.inl rfl)) (pa_nil))) (pa_cons (pe_cmpR (op_eqD hr.units) (pe_var (i := 4) rfl (.inl rfl)) (pe_tup (pa_nil)) (nomark _)) (pa_nil)))))))))) (pss_cons (ps_setLc (i := 9) (own := [("_law_k", 10)]) (g := gName 10) (tt := tYes) rfl sc.nd rfl rfl (sw_true rfl rfl rfl (by decide +kernel)) (pi_tup (pe_tup (pa_cons (pe_ix ix_seq (pe_var (i := 7) rfl (.inl rfl)) (pe_int) (fun _ _ => rfl)) (pa_cons (pe_ix ix_seq (pe_var (i := 7) rfl (.inl rfl)) (pe_un un_neg (pe_int)) (fun _ _ => rfl)) (pa_cons (pe_op op_add (pe_callB (cr_max rfl) rfl (G.gfree "max" (by decide +kernel)) (by decide +kernel) (pa_cons (pe_var (i := 7) rfl (.inl rfl)) (pa_nil))) (pe_int)) (pa_cons (pe_non) (pa_cons (pe_bl) (pa_cons (pe_str) (pa_cons (pe_tup (pa_cons (pe_int) (pa_nil))) (pa_cons (pe_lst (pa_nil)) (pa_nil))))))))))) (blkOk_by (own := [("_law_k", 10)]) (N := ["_law_pair", "_law_world_here", "_law_manner", "_law_begin_here", "_law_rounds_here", "_law_walked_here", "_law_told", "_law_some", "_law_due", "_law_ins", "_law_k"]) (sc := defScope (top 65)) (by decide +kernel)) (fun _ _ _ _ _ => pg_name (i := 10) sc.nd rfl (.inl rfl)) (fun _ _ _ _ _ => pts_nil) (fun _ _ _ _ _ => pe_cmpR (op_inD Pf.has (hr.mono (by decide))) (pe_var (i := 10) rfl (.inl rfl)) (pe_var (i := 0) rfl (.inr (.inl rfl))) (by rfl))) (pss_one (ps_ret (pe_and (pe_cmpR op_eq (pe_callB (call_repr hgd hr.un100) rfl (G.gfree "repr" (by decide +kernel)) (by decide +kernel) (pa_cons (pe_var (i := 6) rfl (.inl rfl)) (pa_nil))) (pe_callB (call_repr hgd hr.un100) rfl (G.gfree "repr" (by decide +kernel)) (by decide +kernel) (pa_cons (pe_var (i := 8) rfl (.inl rfl)) (pa_nil))) (nomark _)) (pe_one (pe_cmpR (op_eqD hr.units) (pe_var (i := 9) rfl (.inl rfl)) (pe_op op_cat (pe_lst (pa_cons (pe_bl) (pa_cons (pe_bl) (pa_cons (pe_bl) (pa_nil))))) (pe_lst (pa_cons (pe_bl) (pa_cons (pe_bl) (pa_cons (pe_bl) (pa_cons (pe_bl) (pa_cons (pe_bl) (pa_nil)))))))) (nomark _))))))))))), fun (i : Addr × PSt) hp => ?_⟩
  obtain ⟨p, s⟩ := i
  obtain ⟨hp1, so, hg⟩ := (show PairAt H p C s ∧ s.good from hp)
  have nr := so.nr
  refine go_seq (go_set ?_)
  repeat walk_at "k2"
  refine lcs_walked so.w so.r (by omega) hg fun H1 e1 => ?_
  have hp1 := hp1.same e1
  refine go_seq (go_set (w_lst (wa_cons (w_pr (w_var rfl ⟨p, s, rfl, hp1, cs_pworld hp1 fun H2 e2 => ?_⟩)))))
  have hp1 := hp1.same e2
  refine wa_cons (w_pr (w_var rfl ⟨p, s, rfl, hp1, cs_prule hp1 fun H3 e3 => ?_⟩))
  have hp1 := hp1.same e3
  refine wa_cons (w_pr (w_var rfl ⟨p, s, rfl, hp1, cs_pstand hp1 fun H4 e4 => ?_⟩))
  have hp1 := hp1.same e4
  refine wa_cons (w_pr (w_var rfl ⟨p, s, rfl, hp1, cs_prounds hp1 fun H5 e5 => ?_⟩))
  have hp1 := hp1.same e5
  have dl : 0 < s.now.df.length := by
    obtain ⟨e, he, _⟩ := (gone_fd hg).1
    rw [he]
    simp
  refine wa_cons (w_pr (w_var rfl ⟨p, s, rfl, hp1, cs_pfar hp1 dl fun H6 m n e6 m1 m2 n1 n2 => ?_⟩))
  have hp1 := hp1.same e6
  refine wa_nil ⟨[_, _, _, _, _], rfl, Nat.le_of_ble_eq_true rfl, ?_⟩
  refine go_seq (go_set (w_op (w_var rfl (w_lst (wa_cons (w_cb (wa_cons (w_var rfl ?_))))))))
  refine wa_nil (oa_plen hp1 (by omega) fun H7 e7 => ?_)
  have hp1 := hp1.same e7
  refine wa_cons (w_op (w_var rfl (w_pair ?_)))
  refine wa_cons (w_var rfl (wa_cons (w_var rfl (wa_cons (w_var rfl ?_)))))
  refine wa_nil ⟨s.w, s.r, s.b, rfl, so.w, so.r, so.b.1, so.b.2, fun q H8 hq e8 hq8 => ?_⟩
  have hp1 := hp1.same e8
  refine o2_peq hp1 hq8 fun H9 e9 => ?_
  have hp1 := hp1.same e9
  have eb : eqP s ⟨s.w, s.r, s.b, ⟨[], ⟨0, 0, s.b⟩, [s.b]⟩, [], []⟩ = PyData.eqv (.tuple (s.now.rs.map rde)) (.tuple []) := by
    simp only [eqP, s.w.shp.self, (encR_shp s.r).self, decide_true, Bool.true_and]
    rfl
  rw [eb]
  refine wa_nil ⟨[_, _], rfl, Nat.le_of_ble_eq_true rfl, ?_⟩
  refine o2_catLE (K := K) (zs := [_, _, _, _, _, _, _]) rfl (Nat.le_of_ble_eq_true rfl) ?_
  refine go_seq (go_set (w_op (w_var rfl (w_int (o2_ixT rfl ?_)))))
  refine go_seq (go_set (w_lst ?_))
  refine wa_cons (w_var rfl (wa_cons (w_var rfl (wa_cons (w_op (w_var rfl (w_int ?_)))))))
  refine o2_ixT rfl ?_
  refine wa_cons (w_var rfl ?_)
  refine wa_cons (w_tup (wa_cons (w_cb (wa_cons (w_var rfl ?_)))))
  refine wa_nil ?_
  have dl' : 0 < s.now.df.length := dl
  refine oa_minL dl fun m' m1' m2' => ?_
  refine wa_cons (w_cb (wa_cons (w_var rfl (wa_nil ?_))))
  refine oa_maxL dl fun n' n1' n2' => ?_
  obtain rfl : m' = m := Int.le_antisymm (m2' _ m1) (m2 _ m1')
  obtain rfl : n' = n := Int.le_antisymm (n2 _ n1') (n2' _ n1)
  refine wa_nil ⟨[_, _], rfl, Nat.le_of_ble_eq_true rfl, ?_⟩
  refine wa_cons (w_cb (wa_cons (w_var rfl (wa_nil (oa_lenE (n := (s.now.rs.length : Nat)) (by rw [List.length_map]) ?_)))))
  refine wa_cons (w_op (w_var rfl (w_tup (wa_nil ⟨[], rfl, Nat.le_of_ble_eq_true rfl, ?_⟩))))
  refine o2_eqD (rds_shp _).ok (by decide +kernel) ?_
  refine wa_nil ⟨[_, _, _, _, _, _, _], rfl, Nat.le_of_ble_eq_true rfl, ?_⟩
  obtain ⟨e, he, el⟩ := (gone_fd hg).1
  have he : s.now.df = s.b :: e := he
  have hmx : ∃ l0 z, s.now.df = l0 ++ [z] := ⟨s.now.df.dropLast, s.now.df.getLast (by rw [he]; simp), (List.dropLast_concat_getLast _).symm⟩
  obtain ⟨l0, z, hz⟩ := hmx
  refine go_seq (go_set (w_lcTm (f := fun d => .bool (inP s.now.df d)) ?_))
  refine w_tup (wa_cons (w_op (w_var rfl (w_int ?_))))
  refine o2_ixL (d := .int s.b) (atI_nat (j := 0) (by rw [he]; rfl)) ?_
  refine wa_cons (w_op (w_var rfl (w_un (w_int (o1_i ?_)))))
  refine o2_ixL (d := .int z) (by rw [hz, List.map_append]; exact atI_last _ _) ?_
  refine wa_cons (w_op (w_cb (wa_cons (w_var rfl (wa_nil ?_)))))
  refine oa_maxL dl fun n'' n1'' n2'' => ?_
  obtain rfl : n' = n'' := Int.le_antisymm (n2'' _ n1) (n2 _ n1'')
  repeat walk_at "k2"
  refine ⟨[_, _, _, _, _, _, _, _], rfl, Nat.le_of_ble_eq_true rfl, ?_⟩
  refine ⟨_, rfl, Nat.le_of_ble_eq_true rfl, fun d hd => ⟨rfl, fun H10 e10 => tw1 (w_op (w_var rfl (w_var rfl (o2_pin (hp1.same e10) fun H11 e11 => ⟨rfl, e10.trans e11⟩))))⟩, fun H10 e10 => ?_⟩
  have ei : ([PyData.int s.b, .int z, .int (n' + 1), .none, .bool true, .str "0", .tuple [.int 0], .list []].map fun d => PyData.bool (inP s.now.df d)) = [.bool true, .bool true, .bool false, .bool false, .bool false, .bool false, .bool false, .bool false] := by
    have a1 : decide (s.b ∈ s.now.df) = true := decide_eq_true (by rw [he]; exact List.mem_cons_self)
    have a2 : decide (z ∈ s.now.df) = true := decide_eq_true (by rw [hz]; simp)
    have a3 : decide (n' + 1 ∈ s.now.df) = false := decide_eq_false fun h => by have := n2 _ h; omega
    simp only [List.map_cons, List.map_nil, inP, a1, a2, a3]
  rw [ei]
  have B := gone_abs so.w so.r (B := 512) (s := ⟨0, 0, s.b⟩) (fd := [s.b]) ⟨Int.le_refl 0, by have := so.r.pos; show (0 : Int) < (s.r.length : Nat); omega⟩ hg (by have := so.b; show s.b.natAbs ≤ 512; omega) (by decide) (fun y hy => by rw [List.mem_singleton] at hy; subst hy; have := so.b; omega)
  rw [List.length_map] at B
  have MS := gone_ms hg ⟨so.w.c1, Int.le_refl 0⟩ so.w.c1
  have shT : ∀ bb : Bool, Sho 16000000 (.list [s.w.enc, encR s.r, s.now.st.enc, .tuple (s.now.rs.map rde), .tuple [.int m', .int n'], .int (s.now.rs.length : Nat), .bool bb]) ∧ (PyData.list [s.w.enc, encR s.r, s.now.st.enc, .tuple (s.now.rs.map rde), .tuple [.int m', .int n'], .int (s.now.rs.length : Nat), .bool bb]).depth ≤ 50 := fun bb => by
    have rl := so.r.few
    have wl := so.w.c2
    have st := so.st
    refine ⟨(shoL (n := 2100000) (k := 7) (all_cons ((sho_W so.w).mono (by decide)) (all_cons ((sho_R so.r).mono (by decide)) (all_cons ((shoT (n := 2000) (k := 3) (all_cons (shoS (by have := st.1; have := st.2; omega)) (all_cons (shoS (by have := MS.1; have := MS.2; omega)) (all_cons (shoI B.2 nr) all_nil))) (Nat.le_of_ble_eq_true rfl)).mono (by decide)) (all_cons ((sho_Rs so.w hg nr).mono (by decide)) (all_cons ((shoT (n := 2000) (k := 2) (all_cons (shoI (B.1 _ m1) nr) (all_cons (shoI (B.1 _ n1) nr) all_nil)) (Nat.le_of_ble_eq_true rfl)).mono (by decide)) (all_cons ((shoS (by omega)).mono (by decide)) (all_cons (shoB.mono (by decide)) all_nil))))))) (Nat.le_of_ble_eq_true rfl)).mono (by decide), ?_⟩
    exact Nat.le_trans (shp_l (n := 5) (all_cons (s.w.shp.mono (by decide)) (all_cons (encR_shp _) (all_cons (s.now.st.shp.mono (by decide)) (all_cons ((rds_shp _).mono (by decide)) (all_cons ((shp_ints [m', n']).mono (by decide)) (all_cons shp_i (all_cons shp_b all_nil)))))))).2 (by decide)
  refine go_ret (w_andV (w_op (w_cb (wa_cons (w_var rfl (wa_nil ?_))))))
  refine oa_repr (.inr rfl) (shT (PyData.eqv (.tuple (s.now.rs.map rde)) (.tuple []))).1.1 (shT _).2 (shT _).1.2 ?_
  refine w_cb (wa_cons (w_var rfl (wa_nil ?_)))
  refine oa_repr (.inr rfl) (shT (PyData.eqv (.tuple (s.now.rs.map rde)) (.tuple []))).1.1 (shT _).2 (shT _).1.2 ?_
  refine o2_eqSS ?_
  refine ⟨_, rfl, fun _ => ?_, fun hh => absurd (hh.symm.trans (decide_eq_true rfl)) (by decide)⟩
  repeat walk_at "k2"
  refine ⟨[_, _, _, _, _], rfl, Nat.le_of_ble_eq_true rfl, ?_⟩
  refine o2_catL (Nat.le_of_ble_eq_true rfl) ?_
  refine o2_eqD (by decide +kernel) (by decide +kernel) ?_
  refine rt_pure (by walk_at "same") fun _ => ?_
  have ee : PyData.eqv (.list [.bool true, .bool true, .bool false, .bool false, .bool false, .bool false, .bool false, .bool false]) (.list ([.bool true, .bool true, .bool false] ++ [.bool false, .bool false, .bool false, .bool false, .bool false])) = true := by decide +kernel
  show _ = Dx.d (.bool true)
  rw [ee]
end
end K2

set_option Elab.async false
set_option linter.all false
set_option maxRecDepth 100000
set_option pp.deepTerms false
set_option pp.deepTerms.threshold 10
set_option maxHeartbeats 4000000
namespace K2
open PySem L2 PySem.Spec PyProof.Rows StX RZ
local macro_rules | `(tactic| walk_at "k2") => `(tactic| first
  | with_reducible refine w_var rfl ?_
  | with_reducible refine w_int ?_
  | with_reducible refine w_bl ?_
  | with_reducible refine w_non ?_
  | with_reducible refine w_str ?_
  | with_reducible refine w_o ?_
  | with_reducible refine wa_cons ?_
  | with_reducible refine wa_nil ?_
  | with_reducible refine w_op ?_
  | with_reducible refine w_un ?_
  | with_reducible refine w_cb ?_
  | with_reducible refine w_call0 ?_
  | with_reducible refine w_chain ?_
  | with_reducible refine w_tup ?_
  | with_reducible refine w_lst ?_
  | with_reducible refine w_andV ?_
  | with_reducible refine w_orV ?_
  | with_reducible refine w_notV ?_
  | with_reducible refine w_if ?_
  | with_reducible refine wt_test ?_
  | with_reducible refine wt_B ?_
  | with_reducible refine wt_and ?_
  | with_reducible refine wt_or ?_
  | with_reducible refine wt_not ?_
  | with_reducible refine go_seq ?_
  | with_reducible refine go_ret ?_
  | with_reducible refine go_retN ?_
  | with_reducible refine go_set ?_
  | with_reducible refine go_par ?_
  | with_reducible refine go_par3 ?_
  | with_reducible refine go_asg ?_
  | with_reducible refine go_next ?_
  | with_reducible refine go_if ?_
  | with_reducible refine o2_ii ?_
  | with_reducible refine o2_ib ?_
  | with_reducible refine o1_i ?_
  | with_reducible refine o2_isN ?_
  | with_reducible refine o2_notN ?_
  | with_reducible refine oa_isiI ?_
  | with_reducible refine oa_isiB ?_
  | with_reducible refine oa_isiT ?_
  | with_reducible refine oa_isiS ?_
  | with_reducible refine oa_abs ?_
  | with_reducible refine oa_max ?_
  | with_reducible refine oa_min ?_
  | with_reducible refine oa_len ?_
  | with_reducible refine oa_lenL ?_
  | with_reducible refine oa_intB ?_
  | refine ⟨[_, _], rfl, Nat.le_of_ble_eq_true rfl, ?_⟩
  | refine ⟨[_, _, _], rfl, Nat.le_of_ble_eq_true rfl, ?_⟩
  | refine ⟨[_, _, _, _], rfl, Nat.le_of_ble_eq_true rfl, ?_⟩
  | refine ⟨[_], rfl, Nat.le_of_ble_eq_true rfl, ?_⟩
  | refine ⟨[], rfl, Nat.le_of_ble_eq_true rfl, ?_⟩)

local macro_rules | `(tactic| walk_at "k2") => `(tactic| first
  | with_reducible refine ex_b ?_
  | refine both_t rfl ?_
  | refine both_f rfl ?_
  | refine both_f2 rfl ?_
  | refine both_t2 rfl ?_
  | with_reducible refine cs_is_integer fun _ _ => ?_
  | with_reducible refine cs_is_whole fun _ _ => ?_
  | refine oa_len ?_
  | refine oa_lenL ?_
  | refine o2_ixT rfl ?_
  | refine o2_ixL rfl ?_
  | refine o2_in rfl rfl ?_
  | refine o2_eqI ?_
  | refine o2_neI ?_
  | refine o2_eqS (by decide +kernel) (by decide +kernel) ?_
  | refine o2_neS (by decide +kernel) (by decide +kernel) ?_
  | refine o2_eqD (Deed.shp _).ok rfl ?_
  | refine both_t (by decide +kernel) ?_
  | refine both_f (by decide +kernel) ?_
  | refine both_f2 (by decide +kernel) ?_
  | refine both_t2 (by decide +kernel) ?_
  | with_reducible refine w_slT ?_
  | with_reducible refine wg_name ?_
  | with_reducible refine wgs_cons ?_
  | with_reducible refine wgs_nil ?_
  | refine o2_ii ?_
  | refine o2_ib ?_
  | refine o2_isN ?_
  | refine o2_notN ?_
  | refine wg_tup rfl ?_
  | refine wgs_cons ?_
  | refine wgs_nil ?_
  | with_reducible refine w_slL ?_
  | with_reducible refine wo_no ?_
  | with_reducible refine wo_some ?_
  | with_reducible refine ⟨_, _, rfl, rfl, ?_⟩
  | with_reducible refine ⟨_, rfl, ?_⟩
  | with_reducible refine ⟨_, _, rfl, ?_⟩
  | with_reducible refine ⟨_, _, _, rfl, ?_⟩)
local macro_rules | `(tactic| walk_at "same") => `(tactic| ((repeat (first | exact Same.refl _ | assumption | refine Same.trans ?_ (by assumption)))))

local macro_rules | `(tactic| walk_at "k3") => `(tactic| first
  | walk_at "k2"
  | refine both_t (by first | (simp; done) | (simp; omega)) ?_
  | refine both_f (by first | (simp; done) | (simp; omega)) ?_
  | refine both_f2 (by first | (simp; done) | (simp; omega)) ?_
  | refine both_t2 (by first | (simp; done) | (simp; omega)) ?_
  | refine go_next ?_
  | refine go_drop ?_)
theorem gone_shift {w : Wld} {r : Rul} : ∀ {rs : List Rd2} {s s' : Std} {fd e : List Int} {n : Nat}, gone w r s fd n rs = (none, fd ++ e, s') → ∀ fd2 n2, gone w r s fd2 n2 rs = (none, fd2 ++ e, s')
  | [], s, s', fd, e, n, h, fd2, n2 => by
    simp only [gone, Prod.mk.injEq] at h ⊢
    obtain ⟨_, h1, rfl⟩ := h
    have : e = [] := by
      have := congrArg List.length h1
      rw [List.length_append] at this
      exact List.eq_nil_of_length_eq_zero (by omega)
    subst this
    simp
  | q :: qs, s, s', fd, e, n, h, fd2, n2 => by
    simp only [gone] at h ⊢
    split at h
    · rename_i hq
      rw [if_pos hq]
      obtain ⟨⟨e2, he, _⟩, _⟩ := gone_fd h
      have e3 : e = [(stepped r s (ofI q.1) (ofO q.2)).1, (stepped r s (ofI q.1) (ofO q.2)).2.2.2.df] ++ e2 := by
        rw [List.append_assoc] at he
        exact List.append_cancel_left he
      have h' := h
      rw [he] at h'
      rw [gone_shift h' (fd2 ++ [(stepped r s (ofI q.1) (ofO q.2)).1, (stepped r s (ofI q.1) (ofO q.2)).2.2.2.df]) (n2 + 1), e3, List.append_assoc]
    · cases h
theorem PSt.good.did {s : PSt} (h : s.good) {qs : List Rnd} {st : Std} {e : List Int} (hg : gone s.w s.r s.now.st [s.now.st.df] 0 (qs.map Rnd.rd) = (none, s.now.st.df :: e, st)) (h1 : s.now.rs.length + qs.length ≤ 500) (h2 : s.past.length + 1 ≤ 500) : (s.did qs st e).good := by
  have run : gone s.w s.r ⟨0, 0, s.b⟩ [s.b] 0 ((s.now.rs ++ qs).map Rnd.rd) = (none, s.now.df ++ e, st) := by
    rw [List.map_append, gone_app h.run]
    exact gone_shift (fd := [s.now.st.df]) hg _ _
  have dl := (gone_fd run).1
  obtain ⟨z, hz, zl⟩ := dl
  have z2 : (s.now.df ++ e).length ≤ 2000 := by
    rw [hz]
    simp only [List.length_append, List.length_map] at zl ⊢
    simp
    omega
  exact ⟨⟨h.ok.r, h.ok.w, gone_ok h.ok.r h.ok.st hg, h.ok.b, by show (s.now.rs ++ qs).length ≤ 500; rw [List.length_append]; exact h1, z2, by show (s.past ++ [s.now]).length ≤ 500; rw [List.length_append]; exact h2, by show ([] : List Nw).length ≤ 500; decide⟩, run⟩
theorem cs_isso {C p : Addr} {s : PSt} {H : Hp} {R : PX} (hp : PairAt H p C s) (hg : s.good) (k : ∀ H2, Same H H2 → R (.d (.bool true)) H2) : CallS (S__law_is_so C) [.o (.ref p), .d s.w.enc, .d (encR s.r), .d (.int s.b), .d (.tuple (s.now.rs.map rde))] H Eno R :=
  CallS.pure (S := S__law_is_so C) (p, s) rfl (fun _ e => ⟨hp.same e, hg⟩) rfl fun x H2 e po => by
    obtain rfl := po
    exact k H2 e
theorem cs_iadd {C CR p : Addr} {s : PSt} {qs : List Rnd} {st : Std} {e : List Int} (so : s.ok) (hl : qs.length ≤ 500) (hg : gone s.w s.r s.now.st [s.now.st.df] 0 (qs.map Rnd.rd) = (none, s.now.st.df :: e, st)) {H : Hp} {R : PX} (hp : PairAt H p C s)
    (k : ∀ H2, Fr [p] H H2 → PairAt H2 p C (s.did qs st e) → R (.o (.ref p)) H2) : CallS (S_p___iadd__ C CR) [.o (.ref p), .d (.tuple (qs.map rde))] H Eno R := by
  refine ⟨((p, s), .inr (qs.map Rnd.rd)), ?_, fun H' e => ⟨hp.same e, so, ?_, ?_⟩, fun x H2 f po => ?_, fun c d H2 f po => ?_⟩
  · show _ = [Dx.o (.ref p), .d (.tuple ((qs.map Rnd.rd).map Rd2.enc))]
    rw [List.map_map]
    rfl
  · intro d hd
    cases hd
  · intro rs hrs
    cases hrs
    exact ⟨by rw [List.length_map]; exact hl, fun q hq => by
      obtain ⟨z, _, rfl⟩ := List.mem_map.mp hq
      exact noL_q z⟩
  · obtain ⟨rfl, qs2, st2, e2, h1, h2, h3⟩ := po
    have h1 : qs.map Rnd.rd = Rnd.rd <$> qs2 := Sum.inr.inj h1
    obtain rfl := map_rd_inj h1
    have h2 : gone s.w s.r s.now.st [s.now.st.df] 0 (qs.map Rnd.rd) = (none, s.now.st.df :: e2, st2) := h2
    rw [hg] at h2
    cases h2
    exact k H2 f h3
  · obtain ⟨_, h | ⟨rs, n, h1, h2, _⟩⟩ := po
    · obtain ⟨v, h, _⟩ := h
      cases h
    · cases h1
      have h2 : (gone s.w s.r s.now.st [s.now.st.df] 0 (qs.map Rnd.rd)).1 = some n := h2
      rw [hg] at h2
      cases h2
theorem cs_pcall {C CR p : Addr} {s : PSt} {q : Rnd} (so : s.ok) (hq : isRound s.w s.now.st.ms q.rd = true) {H : Hp} {R : PX} (hp : PairAt H p C s)
    (k : ∀ H2, Fr [p] H H2 → PairAt H2 p C (s.did [q] (stepped s.r s.now.st q.1 q.2).2.2.2 [(stepped s.r s.now.st q.1 q.2).1, (stepped s.r s.now.st q.1 q.2).2.2.2.df]) → R (.d (.int (stepped s.r s.now.st q.1 q.2).2.2.1)) H2) : CallS (S_p___call__ C CR) [.o (.ref p), .d (.int q.1), .d (encO q.2)] H Eno R := by
  refine ⟨((p, s), q.rd), rfl, fun H' e => ⟨hp.same e, so, noL_q q⟩, fun x H2 f po => ?_, fun c d H2 f po => ?_⟩
  · obtain ⟨q2, h1, h2, rfl, h3⟩ := po
    have e1 : q = q2 := by
      have := map_rd_inj (as := [q]) (bs := [q2]) (by show [q.rd] = [q2.rd]; rw [show q.rd = q2.rd from h1])
      exact (List.cons.inj this).1
    subst e1
    exact k H2 f h3
  · obtain ⟨h1, _⟩ := po
    have h1 : isRound s.w s.now.st.ms q.rd = false := h1
    rw [hq] at h1
    cases h1
section
variable {X : Cx} {C CRd CRn CNb CLf : Addr} {fe e : Expr} {es : List Expr} {tf : TE} {t : TA} {E : XK} {pos : Pos}
theorem pe_cP (Pf : PF X.prog X.w X.K X.mg X.base C CRd CRn CNb CLf) (hr : Room 6 X.A) (hx : Passes (L2.CX X.prog X.w) X E) (hf : PE X fe tf) (ha : PA X (e :: es) t)
    (ht : eval (.Call fe (e :: es) [] pos) X.env = (do callWith pos (← eval fe X.env) [] (backTo pos (starEach (e :: es) X.env)) (backToKw pos (keywordEach [] X.env))) := by rfl)
    (he : starEach (e :: es) X.env = (false, eval e X.env) :: starEach es X.env := by rfl) (hpl : (backTo pos (starEach es X.env)).any (·.1) = false := by rfl) : PE X (.Call fe (e :: es) [] pos) (tCallO X C (sp (S_p___call__ C CRd)) E tf t) := by
  obtain ⟨g, fd, F, c, b, _⟩ := Pf.call
  exact pe_callO hf c (fnR_of F b) hr hx ha ht he hpl
end
def S__law_done_more (C : Addr) : Spc where
  ι := (Addr × Addr) × Nat × Addr × PSt
  args i := [.o (.ref i.1.1), .o (.ref i.2.2.1), .d i.2.2.2.w.enc, .d (encR i.2.2.2.r), .d (.int i.2.2.2.b), .d (.tuple (i.2.2.2.now.rs.map rde))]
  pre i H := DrawAt H i.1 i.2.1 ∧ i.2.1 ≤ 500000000 ∧ PairAt H i.2.2.1 C i.2.2.2 ∧ i.2.2.2.good ∧ i.2.2.2.now.rs.length ≤ 400 ∧ i.2.2.2.past.length ≤ 400
  mod i := [i.1.1, i.2.2.1]
  post i x H := ∃ qs st e, x = .d (.tuple ((i.2.2.2.now.rs ++ qs).map rde)) ∧ qs.length ≤ 3 ∧ DrawAt H i.1 (i.2.1 + 5) ∧ PairAt H i.2.2.1 C (i.2.2.2.did qs st e) ∧ (i.2.2.2.did qs st e).good
theorem Fr.one {a b : Addr} {H H' : Hp} (f : Fr [a] H H') : Fr [a, b] H H' := f.mono fun c hc => by simp at hc; simp [hc]
theorem Fr.two {a b : Addr} {H H' : Hp} (f : Fr [b] H H') : Fr [a, b] H H' := f.mono fun c hc => by simp at hc; simp [hc]
theorem draw_ne_pair {H : Hp} {dr : Addr × Addr} {b : Nat} {p C : Addr} {d1 d2 d3 d4 d5 d6 : PyData} (h : DrawAt H dr b) (k : PairD H p C d1 d2 d3 d4 d5 d6) : p ≠ dr.1 := fun e => by
  obtain ⟨ns, at_, lf, us, hd, _⟩ := h
  obtain ⟨dx, fs, hk⟩ := k.ins
  rw [e, hd.d] at hk
  cases hk
section
variable {P : Program} {w : World} {K : PySem.W.Frag} {mg : Str → Option Value} {base : Heap} {f C CRd CRn CNb CLf : Addr} {fd : FuncData} (G : GF mg) (Pf : PF P w K mg base C CRd CRn CNb CLf)
include G Pf
omit G Pf in
theorem sc__law_done_more : FnScope ["_law_draw", "_law_pair", "_law_world_here", "_law_manner", "_law_begin_here", "_law_rounds_here", "_law_stand", "_law_one", "_law_told", "_law_some"] ["_law_draw", "_law_pair", "_law_world_here", "_law_manner", "_law_begin_here", "_law_rounds_here"] (defScope (top 69)) := ⟨rfl, rfl, rfl, by decide +kernel, rfl, by decide +kernel, by decide +kernel⟩
theorem ok__law_done_more (D__law_walked : DefOk P w K mg base 3 "_law_walked" ["_law_world_here", "_law_manner", "_law_run"] (S__law_walked)) (D__law_next : DefOk P w K mg base 1 "_law_next" ["_law_draw", "_law_total"] (S__law_next)) (D__law_pick : DefOk P w K mg base 2 "_law_pick" ["_law_draw", "_law_some"] (S__law_pick)) (D__law_rounds : DefOk P w K mg base 1 "_law_rounds" ["_law_world_here", "_law_missed"] (S__law_rounds)) (D__law_done : DefOk P w K mg base 2 "_law_done" ["_law_manner", "_law_stand", "_law_one"] (S__law_done)) (D__law_row : DefOk P w K mg base 3 "_law_row" ["_law_draw", "_law_world_here", "_law_stand", "_law_manner", "_law_total"] (S__law_row)) (F : FnP K "_law_done_more" "_law_done_more" (top 69) [] f fd) : FnOkG P w K mg base (L2.CX P w) 13 f fd ["_law_draw", "_law_pair", "_law_world_here", "_law_manner", "_law_begin_here", "_law_rounds_here"] (sp (S__law_done_more C)) := by
  have sc := sc__law_done_more
  refine ok_pureG F sc (fun _ => rfl) fun cdv A outer s H E hgd hr => ⟨_, pss_cons (ps_set (i := 6) sc.nd rfl (.inl rfl) (pe_ix ix_seq (pe_D D__law_walked (hr.mono (by decide)) rfl pass_none (pa_cons (pe_var (i := 2) rfl (.inl rfl)) (pa_cons (pe_var (i := 3) rfl (.inl rfl)) (pa_cons (pe_tup (pa_cons (pe_var (i := 4) rfl (.inl rfl)) (pa_cons (pe_var (i := 5) rfl (.inl rfl)) (pa_nil)))) (pa_nil))))) (pe_int) (fun _ _ => rfl))) (pss_cons (ps_if (pt_cmpR (op_eqD hr.units) (pe_D D__law_next (hr.mono (by decide)) rfl pass_none (pa_cons (pe_var (i := 0) rfl (.inl rfl)) (pa_cons (pe_int) (pa_nil)))) (pe_int) (nomark _)) (pss_cons (ps_set (i := 7) sc.nd rfl (.inl rfl) (pe_D D__law_pick (hr.mono (by decide)) rfl pass_none (pa_cons (pe_var (i := 0) rfl (.inl rfl)) (pa_cons (pe_D D__law_rounds (hr.mono (by decide)) rfl pass_none (pa_cons (pe_var (i := 2) rfl (.inl rfl)) (pa_cons (pe_ix ix_seq (pe_var (i := 6) rfl (.inl rfl)) (pe_int) (fun _ _ => rfl)) (pa_nil)))) (pa_nil))))) (pss_cons (ps_set (i := 8) sc.nd rfl (.inl rfl) (pe_cP Pf (hr.mono (by decide)) pass_none (pe_var (i := 1) rfl (.inl rfl)) (pa_cons (pe_ix ix_seq (pe_var (i := 7) rfl (.inl rfl)) (pe_int) (fun _ _ => rfl)) (pa_cons (pe_ix ix_seq (pe_var (i := 7) rfl (.inl rfl)) (pe_int) (fun _ _ => rfl)) (pa_nil))))) (pss_one (ps_ret (pe_ifExp (pt_cmpR op_eq (pe_callB (call_repr hgd hr.un100) rfl (G.gfree "repr" (by decide +kernel)) (by decide +kernel) (pa_cons (pe_var (i := 8) rfl (.inl rfl)) (pa_nil))) (pe_callB (call_repr hgd hr.un100) rfl (G.gfree "repr" (by decide +kernel)) (by decide +kernel) (pa_cons (pe_ix ix_seq (pe_D D__law_done (hr.mono (by decide)) rfl pass_none (pa_cons (pe_var (i := 3) rfl (.inl rfl)) (pa_cons (pe_var (i := 6) rfl (.inl rfl)) (pa_cons (pe_var (i := 7) rfl (.inl rfl)) (pa_nil))))) (pe_int) (fun _ _ => rfl)) (pa_nil))) (nomark _)) (pe_op op_catA (pe_var (i := 5) rfl (.inl rfl)) (pe_tup (pa_cons (pe_var (i := 7) rfl (.inl rfl)) (pa_nil)))) (pe_non)))))) (pss_nil)) (pss_cons (ps_set (i := 9) sc.nd rfl (.inl rfl) (pe_D D__law_row (hr.mono (by decide)) rfl pass_none (pa_cons (pe_var (i := 0) rfl (.inl rfl)) (pa_cons (pe_var (i := 2) rfl (.inl rfl)) (pa_cons (pe_var (i := 6) rfl (.inl rfl)) (pa_cons (pe_var (i := 3) rfl (.inl rfl)) (pa_cons (pe_D D__law_next (hr.mono (by decide)) rfl pass_none (pa_cons (pe_var (i := 0) rfl (.inl rfl)) (pa_cons (pe_int) (pa_nil)))) (pa_nil)))))))) (pss_cons (ps_aug (i := 1) sc.nd rfl (.inl rfl) (pe_var (i := 9) rfl (.inl rfl)) (ip_D Pf.k Pf.add (hr.mono (by decide)) pass_none)) (pss_one (ps_ret (pe_op op_catA (pe_var (i := 5) rfl (.inl rfl)) (pe_var (i := 9) rfl (.inl rfl)))))))), fun (i : (Addr × Addr) × Nat × Addr × PSt) hp => ?_⟩
  obtain ⟨dr, bd, p, s⟩ := i
  obtain ⟨hd, hb, hp1, sg, nr, np⟩ := (show DrawAt H dr bd ∧ bd ≤ 500000000 ∧ PairAt H p C s ∧ s.good ∧ s.now.rs.length ≤ 400 ∧ s.past.length ≤ 400 from hp)
  have so := sg.ok
  have hne := draw_ne_pair hd hp1
  refine go_seq (go_set (w_op ?_))
  repeat walk_at "k2"
  refine lcs_walked so.w so.r (by omega) sg.run fun H1 e1 => ?_
  refine w_int (o2_ixT rfl ?_)
  refine go_seq (go_if (wt_test (w_op ?_)))
  repeat walk_at "k2"
  refine cs_next (hd.same e1) (by omega) (by decide) (by decide) fun n H2 f2 d2 n0 n1 => ?_
  have hp2 := (hp1.same e1).fr f2 hne
  repeat walk_at "k2"
  refine ⟨fun hz => ?_, fun hz => ?_⟩
  · refine go_seq (go_set ?_)
    repeat walk_at "k2"
    refine lcs_rounds so.w fun H3 e3 => ?_
    repeat walk_at "k2"
    refine cs_pick (d2.same e3) (by omega) (by rw [List.length_map]; exact roundsOf_pos so.w) (by rw [List.length_map]; exact Nat.le_trans (roundsOf_len _ _ so.w) (by decide)) fun z H4 f4 d4 hz => ?_
    obtain ⟨q, hq, rfl⟩ := List.mem_map.mp hz
    have hq := roundsOf_mem hq
    have hp4 := (hp2.same e3).fr f4 hne
    refine go_seq (go_set (w_callO (w_var rfl ⟨p, rfl, ?_⟩)))
    refine wa_cons (w_op (w_var rfl (w_int (o2_ixT rfl ?_))))
    refine wa_cons (w_op (w_var rfl (w_int (o2_ixT rfl (wa_nil ⟨hp4.ins, ?_⟩)))))
    refine cs_pcall so hq hp4 fun H5 f5 hp5 => ?_
    have d5 := d4.fr hne f5
    have hgq : gone s.w s.r s.now.st [s.now.st.df] 0 ([q].map Rnd.rd) = (none, s.now.st.df :: [(stepped s.r s.now.st q.1 q.2).1, (stepped s.r s.now.st q.1 q.2).2.2.2.df], (stepped s.r s.now.st q.1 q.2).2.2.2) := by
      rw [List.map_cons, gone, if_pos hq, (rd_of q).1, (rd_of q).2]
      rfl
    have sg2 := sg.did hgq (by show s.now.rs.length + 1 ≤ 500; omega) (by omega)
    have B := gone_abs so.w so.r (B := 512) (s := ⟨0, 0, s.b⟩) (fd := [s.b]) ⟨Int.le_refl 0, by have := so.r.pos; show (0 : Int) < (s.r.length : Nat); omega⟩ sg.run (by have := so.b; show s.b.natAbs ≤ 512; omega) (by decide) (fun y hy => by rw [List.mem_singleton] at hy; subst hy; have := so.b; omega)
    rw [List.length_map] at B
    have B2 : 512 ≤ 4 ^ s.now.rs.length * 512 := Nat.le_mul_of_pos_left _ (Nat.pow_pos (by decide))
    have st := stepped_abs so.w so.r so.st hq B.2 (by omega)
    rw [(rd_of q).1, (rd_of q).2] at st
    have sho : Sho 2000 (.int (stepped s.r s.now.st q.1 q.2).2.2.1) := by
      have e1 : (stepped s.r s.now.st q.1 q.2).2.2.1 = (stepped s.r s.now.st q.1 q.2).1 - (stepped s.r s.now.st q.1 q.2).2.2.2.df := by
        obtain ⟨i, o⟩ := q
        cases o <;> (simp only [stepped]; omega)
      refine shoI (k := s.now.rs.length + 2) ?_ (by omega)
      have e2 : 4 ^ (s.now.rs.length + 2) * 512 = 16 * (4 ^ s.now.rs.length * 512) := by rw [Nat.pow_add]; omega
      omega
    refine go_ret (w_if (wt_test (w_op (w_cb (wa_cons (w_var rfl (wa_nil ?_)))))))
    refine oa_repr (.inl ⟨_, rfl⟩) sho.1 (Nat.zero_le _) (Nat.le_trans sho.2 (by decide)) ?_
    refine w_cb (wa_cons (w_op ?_))
    repeat walk_at "k2"
    refine lcs_done so.r so.st fun H6 e6 => ?_
    refine w_int (o2_ixT rfl (wa_nil ?_))
    refine oa_repr (.inl ⟨_, rfl⟩) sho.1 (Nat.zero_le _) (Nat.le_trans sho.2 (by decide)) ?_
    refine o2_eqSS ⟨_, rfl, fun _ => ?_, fun hh => absurd (hh.symm.trans (decide_eq_true rfl)) (by decide)⟩
    refine w_op (w_var rfl (w_tup (wa_cons (w_var rfl (wa_nil ⟨[_], rfl, Nat.le_of_ble_eq_true rfl, ?_⟩)))))
    refine o2_catT (by simp; omega) ?_
    have er : s.now.rs.map rde ++ [rde q] = (s.now.rs ++ [q]).map rde := by rw [List.map_append]; rfl
    rw [er]
    exact rt_fr (((((e1.frq.trans f2.one).trans e3.frq).trans f4.one).trans f5.two).trans e6.frq) fun H7 e7 => ⟨[q], _, _, rfl, Nat.le_of_ble_eq_true rfl, (d5.same (e6.trans e7)).mono (by show bd + 1 + 1 ≤ bd + 5; omega), hp5.same (e6.trans e7), sg2⟩
  · refine go_next (go_seq (go_set ?_))
    repeat walk_at "k2"
    refine cs_next d2 (by omega) (by decide) (by decide) fun n2 H3 f3 d3 n20 n21 => ?_
    have hp3 := hp2.fr f3 hne
    obtain ⟨k, rfl⟩ := Int.eq_ofNat_of_zero_le n20
    refine wa_nil ?_
    refine cs_row (n := k) d3 (by omega) so.w so.r so.st (by have q : (k : Int) < 4 := n21; omega) fun rs s' H4 f4 d4 hl g hs' => ?_
    have hp4 := hp3.fr f4 hne
    obtain ⟨fd, hfd, _⟩ := g [s.now.st.df] 0
    obtain ⟨⟨e, he, _⟩, _⟩ := gone_fd hfd
    subst he
    have hk : rs.length ≤ 3 := by have q : (k : Int) < 4 := n21; omega
    have sg2 := sg.did hfd (by omega) (by omega)
    refine go_seq (go_aug (x := .o (.ref p)) rfl (w_var rfl (o2_ownAdd hp4.ins ?_)))
    refine cs_iadd so (by omega) hfd hp4 fun H5 f5 hp5 => ?_
    have d5 := d4.fr hne f5
    refine go_ret (w_op (w_var rfl (w_var rfl (o2_catT (by simp; omega) ?_))))
    have er : s.now.rs.map rde ++ rs.map rde = (s.now.rs ++ rs).map rde := by rw [List.map_append]
    rw [er]
    exact rt_fr ((((e1.frq.trans f2.one).trans f3.one).trans f4.one).trans f5.two) fun H7 e7 => ⟨rs, _, _, rfl, hk, (d5.same e7).mono (by show bd + 1 + 1 + 3 ≤ bd + 5; omega), hp5.same e7, sg2⟩
end
end K2

set_option Elab.async false
set_option linter.all false
set_option maxRecDepth 100000
set_option maxHeartbeats 2000000
/-! ## the plain law: steps done, taken back and done again -/
namespace K2
open PySem L2
structure NwOk (w : Wld) (r : Rul) (b : Int) (k : Nat) (n : Nw) : Prop where
  len : n.rs.length ≤ k
  run : gone w r ⟨0, 0, b⟩ [b] 0 (n.rs.map Rnd.rd) = (none, n.df, n.st)
theorem NwOk.mono {w : Wld} {r : Rul} {b : Int} {k m : Nat} {n : Nw} (h : NwOk w r b k n) (hk : k ≤ m) : NwOk w r b m n := ⟨Nat.le_trans h.len hk, h.run⟩
structure StepInv (w : Wld) (r : Rul) (b : Int) (s : PSt) (rows und : List (List Rnd)) (j : Nat) : Prop where
  hw : s.w = w
  hr : s.r = r
  hb : s.b = b
  wok : w.ok
  rok : r.ok
  bb : -500 ≤ b ∧ b ≤ 500
  rows : rows = (s.past ++ [s.now]).map (·.rs)
  und : und = s.coming.map (·.rs)
  pa : ∀ n ∈ s.past, NwOk w r b (3 * j) n
  no : NwOk w r b (3 * j) s.now
  co : ∀ n ∈ s.coming, NwOk w r b (3 * j) n
  num : s.past.length + s.coming.length ≤ j
theorem StepInv.good {w : Wld} {r : Rul} {b : Int} {s : PSt} {rows und : List (List Rnd)} {j : Nat} (h : StepInv w r b s rows und j) (hj : j ≤ 100) : s.good := by
  obtain ⟨rfl, rfl, rfl, wok, rok, bb, _, _, pa, no, co, num⟩ := h
  have nl := no.len
  obtain ⟨e, he, el⟩ := (gone_fd no.run).1
  refine ⟨⟨rok, wok, gone_ok rok ⟨Int.le_refl 0, by have := rok.pos; show (0 : Int) < (s.r.length : Nat); omega⟩ no.run, bb, by omega, ?_, by omega, by omega⟩, no.run⟩
  rw [he]
  rw [List.length_map] at el
  simp
  omega
theorem StepInv.start {w : Wld} {r : Rul} {b : Int} (wok : w.ok) (rok : r.ok) (bb : -500 ≤ b ∧ b ≤ 500) : StepInv w r b ⟨w, r, b, ⟨[], ⟨0, 0, b⟩, [b]⟩, [], []⟩ [[]] [] 0 :=
  ⟨rfl, rfl, rfl, wok, rok, bb, rfl, rfl, by simp, ⟨Nat.le_refl _, rfl⟩, by simp, by simp⟩
theorem StepInv.did {w : Wld} {r : Rul} {b : Int} {s : PSt} {rows und : List (List Rnd)} {j : Nat} (h : StepInv w r b s rows und j) {qs : List Rnd} {st : Std} {e : List Int} (hq : qs.length ≤ 3) (hg : (s.did qs st e).good) : StepInv w r b (s.did qs st e) (rows ++ [s.now.rs ++ qs]) [] (j + 1) := by
  obtain ⟨rfl, rfl, rfl, wok, rok, bb, rfl, rfl, pa, no, co, num⟩ := h
  have nl := no.len
  refine ⟨rfl, rfl, rfl, wok, rok, bb, ?_, rfl, ?_, ⟨?_, hg.run⟩, by simp [PSt.did], ?_⟩
  · simp [PSt.did]
  · intro n hn
    rcases List.mem_append.mp hn with hn | hn
    · exact (pa n hn).mono (by omega)
    · rw [List.mem_singleton] at hn
      subst hn
      exact no.mono (by omega)
  · show (s.now.rs ++ qs).length ≤ _
    rw [List.length_append]
    omega
  · simp [PSt.did]
    omega
theorem StepInv.undo {w : Wld} {r : Rul} {b : Int} {s : PSt} {rows und : List (List Rnd)} {j n : Nat} (h : StepInv w r b s rows und j) (h1 : 1 ≤ n) (h2 : n ≤ s.past.length) : StepInv w r b (s.undo n) (rows.take (rows.length - n)) (und ++ (rows.drop (rows.length - n)).reverse) j := by
  obtain ⟨rfl, rfl, rfl, wok, rok, bb, rfl, rfl, pa, no, co, num⟩ := h
  have hlt : s.past.length - n < s.past.length := by omega
  have eg : s.past.getD (s.past.length - n) s.now = s.past[s.past.length - n] := by
    rw [List.getD_eq_getElem?_getD, List.getElem?_eq_getElem hlt]
    rfl
  have el : ((s.past ++ [s.now]).map (·.rs)).length - n = s.past.length - n + 1 := by
    rw [List.length_map, List.length_append]
    simp
    omega
  have et : s.past.take (s.past.length - n) ++ [s.past[s.past.length - n]] = s.past.take (s.past.length - n + 1) := by
    rw [List.take_add_one, List.getElem?_eq_getElem hlt]
    rfl
  refine ⟨rfl, rfl, rfl, wok, rok, bb, ?_, ?_, ?_, ?_, ?_, ?_⟩
  · rw [el, ← List.map_take, List.take_append_of_le_length (by omega)]
    show _ = List.map _ (s.past.take (s.past.length - n) ++ [s.past.getD (s.past.length - n) s.now])
    rw [eg, et]
  · rw [el, ← List.map_drop, ← List.map_reverse, ← List.map_append]
    show _ = List.map _ (s.coming ++ [s.now] ++ (s.past.drop (s.past.length - n + 1)).reverse)
    rw [List.drop_append_of_le_length (by omega), List.reverse_append]
    simp
  · exact fun m hm => pa m (List.mem_of_mem_take hm)
  · show NwOk s.w s.r s.b (3 * j) (s.past.getD (s.past.length - n) s.now)
    rw [eg]
    exact pa _ (List.getElem_mem hlt)
  · intro m hm
    have hm : m ∈ s.coming ++ [s.now] ++ (s.past.drop (s.past.length - n + 1)).reverse := hm
    rcases List.mem_append.mp hm with hm | hm
    · rcases List.mem_append.mp hm with hm | hm
      · exact co m hm
      · rw [List.mem_singleton] at hm
        subst hm
        exact no
    · exact pa m (List.mem_of_mem_drop (List.mem_reverse.mp hm))
  · show (s.past.take (s.past.length - n)).length + (s.coming ++ [s.now] ++ (s.past.drop (s.past.length - n + 1)).reverse).length ≤ j
    simp
    omega
theorem StepInv.redo {w : Wld} {r : Rul} {b : Int} {s : PSt} {rows und : List (List Rnd)} {j n : Nat} (h : StepInv w r b s rows und j) (h1 : 1 ≤ n) (h2 : n ≤ s.coming.length) : StepInv w r b (s.redo n) (rows ++ (und.drop (und.length - n)).reverse) (und.take (und.length - n)) j := by
  obtain ⟨rfl, rfl, rfl, wok, rok, bb, rfl, rfl, pa, no, co, num⟩ := h
  have hlt : s.coming.length - n < s.coming.length := by omega
  have eg : s.coming.getD (s.coming.length - n) s.now = s.coming[s.coming.length - n] := by
    rw [List.getD_eq_getElem?_getD, List.getElem?_eq_getElem hlt]
    rfl
  have ed : s.coming.drop (s.coming.length - n) = s.coming[s.coming.length - n] :: s.coming.drop (s.coming.length - n + 1) := List.drop_eq_getElem_cons hlt
  refine ⟨rfl, rfl, rfl, wok, rok, bb, ?_, ?_, ?_, ?_, ?_, ?_⟩
  · rw [List.length_map, ← List.map_drop, ← List.map_reverse, ← List.map_append]
    show _ = List.map _ (s.past ++ [s.now] ++ (s.coming.drop (s.coming.length - n + 1)).reverse ++ [s.coming.getD (s.coming.length - n) s.now])
    rw [eg, ed, List.reverse_cons]
    simp
  · rw [List.length_map, ← List.map_take]
    rfl
  · intro m hm
    have hm : m ∈ s.past ++ [s.now] ++ (s.coming.drop (s.coming.length - n + 1)).reverse := hm
    rcases List.mem_append.mp hm with hm | hm
    · rcases List.mem_append.mp hm with hm | hm
      · exact pa m hm
      · rw [List.mem_singleton] at hm
        subst hm
        exact no
    · exact co m (List.mem_of_mem_drop (List.mem_reverse.mp hm))
  · show NwOk s.w s.r s.b (3 * j) (s.coming.getD (s.coming.length - n) s.now)
    rw [eg]
    exact co _ (List.getElem_mem hlt)
  · exact fun m hm => co m (List.mem_of_mem_take hm)
  · show (s.past ++ [s.now] ++ (s.coming.drop (s.coming.length - n + 1)).reverse).length + (s.coming.take (s.coming.length - n)).length ≤ j
    simp
    omega
theorem StepInv.last {w : Wld} {r : Rul} {b : Int} {s : PSt} {rows und : List (List Rnd)} {j : Nat} (h : StepInv w r b s rows und j) : ∃ rs0, rows = rs0 ++ [s.now.rs] ∧ rows.length = s.past.length + 1 := by
  refine ⟨s.past.map (·.rs), ?_, ?_⟩
  · rw [h.rows, List.map_append]
    rfl
  · rw [h.rows]
    simp
theorem StepInv.mono {w : Wld} {r : Rul} {b : Int} {s : PSt} {rows und : List (List Rnd)} {j k : Nat} (h : StepInv w r b s rows und j) (hk : j ≤ k) : StepInv w r b s rows und k := by
  obtain ⟨a1, a2, a3, wok, rok, bb, a4, a5, pa, no, co, num⟩ := h
  exact ⟨a1, a2, a3, wok, rok, bb, a4, a5, fun n hn => (pa n hn).mono (by omega), no.mono (by omega), fun n hn => (co n hn).mono (by omega), by omega⟩
end K2

set_option Elab.async false
set_option linter.all false
set_option maxRecDepth 100000
set_option maxHeartbeats 2000000
/-! ## xs[:k:-1], also where k names the place ahead of all -/
namespace K2
open PySem L2 PySem.Spec PyProof.Rows
theorem pick_all (items : Array Value) (hi : Int) (h : hiAt items.size hi = -1) : slicePick items none (some hi) (some (-1)) = items.toList.reverse.toArray := by
  unfold slicePick
  have b : sliceBounds none (some hi) (some (-1)) items.size = ((items.size : Int) - 1, -1, -1) := by
    unfold sliceBounds
    have h1 : ¬ ((-1 : Int) > 0) := by decide
    simp only [Option.getD_some, h1, if_false]
    have e : max (-1) (min (if hi < 0 then hi + (items.size : Int) else hi) ((items.size : Int) - 1)) = -1 := by
      unfold hiAt at h
      rw [h]
      omega
    exact Prod.ext rfl (Prod.ext e rfl)
  rw [b]
  have r : sliceRange ((items.size : Int) - 1) (-1) (-1) = (List.range items.size).map fun k => items.size - 1 - k := by
    unfold sliceRange
    have h1 : ¬ ((-1 : Int) > 0) := by decide
    rw [if_neg h1]
    by_cases hc : ((items.size : Int) - 1) > -1
    · rw [if_pos hc]
      have e : (((items.size : Int) - 1 - (-1) - -1 - 1) / (- -1)).toNat = items.size := by
        rw [show (- -1 : Int) = 1 by decide, Int.ediv_one]
        omega
      simp only [e]
      apply List.map_congr_left
      intro k hk
      have := List.mem_range.mp hk
      omega
    · rw [if_neg hc]
      have e : items.size = 0 := by omega
      rw [e]
      rfl
  show ((sliceRange ((items.size : Int) - 1) (-1) (-1)).filterMap (items[·]?)).toArray = _
  rw [r, List.filterMap_map]
  have e := rev_pick items.toList items.size (by rw [Array.length_toList]; exact Nat.le_refl _)
  rw [Array.length_toList, Nat.sub_self, List.drop_zero] at e
  rw [← e]
  congr 1
  refine fm_congr fun m _ => ?_
  show items[items.size - 1 - m]? = items.toList[items.size - 1 - m]?
  simp
theorem pick_down2 (items : Array Value) (j : Nat) (hi : Int) (h : hiAt items.size hi = (j : Int) - 1) (hj : j ≤ items.size) : slicePick items none (some hi) (some (-1)) = (items.toList.drop j).reverse.toArray := by
  cases j with
  | zero =>
    rw [List.drop_zero]
    exact pick_all items hi (by rw [h]; rfl)
  | succ j => exact pick_down items j hi (by rw [h]; omega) hj
def rDnL2 (K : PySem.W.Frag) : V → Int → Hp → VK → Prop := fun x hi H Q => ∃ a xs j, x = .ref a ∧ SqL K H a xs ∧ hiAt xs.length hi = ((j : Nat) : Int) - 1 ∧ j ≤ xs.length ∧ ∀ p, H p = none → Q (.ref p) (upd H p (.lst (xs.drop j).reverse))
section
variable {X : Cx} {e h : Expr} {te : TE} {th : TO} {k : Nat} {p1 p2 p3 pos : Pos}
theorem pe_dnL2 (he : PE X e te) (hh : PO X (some h) th) : PE X (.Subscript e (.Slice none (some h) (some (.UnaryOp .USub (.Constant (.int 1) k p1) p2)) p3) pos) (tDn (rDnL2 X.K) te th) := by
  refine ⟨fun pins s σ H Q I h0 => ?_⟩
  refine Subscript_ (thn (he.run pins s σ H _ I h0) fun v s1 ⟨x, H1, I1, r1, q1⟩ => ?_)
  have hst : PO X (some (.UnaryOp .USub (.Constant (.int 1) k p1) p2)) (tPart (tUn (rU fun i => .int (-i)) (tC (.int 1)))) := po_some (pe_un un_neg pe_int)
  refine wpAny_Slice (thn (po_none.run pins s1 σ H1 (fun o H2 => o = none ∧ H2 = H1) I1 ⟨rfl, rfl⟩) fun vl s2 ⟨l, H2, I2, pl, el, e2⟩ => ?_)
  subst el e2
  refine thn (hh.run pins s2 σ H2 _ I2 q1) fun vu s3 ⟨u, H3, I3, pu, hi, eu, a, xs, j, ex, hx, hj, hlt, q⟩ => ?_
  subst eu ex
  cases r1
  refine thn (hst.run pins s3 σ H3 (fun o H4 => o = some (-1) ∧ H4 = H3) I3 ⟨1, rfl, -1, rfl, rfl, rfl⟩) fun vs s4 ⟨o, H4, I4, ps, eo, e4⟩ => ?_
  subst eo e4
  have I5 : Inv X pins σ H4 { s4 with heap := s4.heap.push { cls := .type "slice", data := .fields #[vl, vu, vs] } } := I4.kept (t' := s4.toks) fun b ob q => Heap.get?_push_of_some _ q
  obtain ⟨its, r, ht, hz⟩ := I5.list hx
  have hlen : its.toArray.size = xs.length := by rw [List.size_toArray]; exact r.length.symm
  show wpAny (model X.prog X.w) X.A (subscriptTail e (.Slice none (some h) (some (.UnaryOp .USub (.Constant (.int 1) k p1) p2)) p3) (.ref a) (.ref s4.heap.objs.size)) (EP X pins σ Q) X.xe { s4 with heap := s4.heap.push { cls := .type "slice", data := .fields #[vl, vu, vs] } }
  refine tail_any (ops := [.ref a, .ref s4.heap.objs.size]) ht.isList.typeIs (PySem.slot_list_getitem.lookup) ?_ (by with_unfolding_all rfl)
  refine wpAny_getItem_list_slice ht.isList (Heap.IsSliceOf.new _ vl vu vs) pl pu ps (by decide) ?_ (by rw [hlen]; exact hz)
  rw [pick_down2 its.toArray j hi (by rw [hlen]; exact hj) (by rw [hlen]; exact hlt)]
  refine ⟨.ref _, _, I5.laid (t' := s4.toks) (o := .lst (xs.drop j).reverse) (fun b ob q => Heap.get?_push_of_some _ q) (Nat.le_refl _) ?_, rfl, q _ (I5.hok.fresh (Nat.le_refl _))⟩
  exact ⟨by rw [List.length_reverse, List.length_drop]; omega, _, 0, (r.drop j).reverse, Heap.get?_push_size _ rfl⟩
end
section
variable {Γ : List Gh} {ρ : Rho} {H : Hp} {R : PX} {te : TE} {th : TO} {K : PySem.W.Frag}
theorem w_dnL2 (h : W Γ te ρ H fun x H1 => ∃ ds, x = .d (.list ds) ∧ WO Γ th ρ H1 fun o H2 => ∃ hi j, o = some hi ∧ hiAt ds.length hi = ((j : Nat) : Int) - 1 ∧ j ≤ ds.length ∧ R (.d (.list (ds.drop j).reverse)) H2) : W Γ (tDn (rDnL2 K) te th) ρ H R := fun σ H' e s Q q =>
  h σ H' e s _ fun x v H1 H1' k e1 f1 d1 => by
    obtain ⟨ds, rfl, k⟩ := k
    refine k σ H1' e1 (s.ft f1) _ fun o H2 H2' k2 e2 f2 => ?_
    obtain ⟨hi, j, rfl, hj, hlt, k2⟩ := k2
    cases d1 with
    | @lst a vs _ ha hd =>
      refine ⟨hi, rfl, a, vs, j, rfl, SqL.of (f2.sq _ _ ha rfl), by rw [hd.len]; exact hj, by rw [hd.len]; exact hlt, fun p hp => ?_⟩
      have sm : Same H2' (upd H2' p (.lst (vs.drop j).reverse)) := Same.new hp
      exact q _ _ H2 _ k2 (e2.trans sm) ((f1.trans f2).trans sm.ftq) (.lst upd_same ((ft_dps sm.ftq _ _ (ft_dps f2 _ _ hd)).drop j).reverse)
end
end K2

set_option Elab.async false
set_option linter.all false
set_option maxRecDepth 100000
set_option pp.deepTerms false
set_option pp.deepTerms.threshold 10
set_option maxHeartbeats 4000000
namespace K2
open PySem L2 PySem.Spec PyProof.Rows StX RZ
local macro_rules | `(tactic| walk_at "k2") => `(tactic| first
  | with_reducible refine w_var rfl ?_
  | with_reducible refine w_int ?_
  | with_reducible refine w_bl ?_
  | with_reducible refine w_non ?_
  | with_reducible refine w_str ?_
  | with_reducible refine w_o ?_
  | with_reducible refine wa_cons ?_
  | with_reducible refine wa_nil ?_
  | with_reducible refine w_op ?_
  | with_reducible refine w_un ?_
  | with_reducible refine w_cb ?_
  | with_reducible refine w_call0 ?_
  | with_reducible refine w_chain ?_
  | with_reducible refine w_tup ?_
  | with_reducible refine w_lst ?_
  | with_reducible refine w_andV ?_
  | with_reducible refine w_orV ?_
  | with_reducible refine w_notV ?_
  | with_reducible refine w_if ?_
  | with_reducible refine wt_test ?_
  | with_reducible refine wt_B ?_
  | with_reducible refine wt_and ?_
  | with_reducible refine wt_or ?_
  | with_reducible refine wt_not ?_
  | with_reducible refine go_seq ?_
  | with_reducible refine go_ret ?_
  | with_reducible refine go_retN ?_
  | with_reducible refine go_set ?_
  | with_reducible refine go_par ?_
  | with_reducible refine go_par3 ?_
  | with_reducible refine go_asg ?_
  | with_reducible refine go_next ?_
  | with_reducible refine go_if ?_
  | with_reducible refine o2_ii ?_
  | with_reducible refine o2_ib ?_
  | with_reducible refine o1_i ?_
  | with_reducible refine o2_isN ?_
  | with_reducible refine o2_notN ?_
  | with_reducible refine oa_isiI ?_
  | with_reducible refine oa_isiB ?_
  | with_reducible refine oa_isiT ?_
  | with_reducible refine oa_isiS ?_
  | with_reducible refine oa_abs ?_
  | with_reducible refine oa_max ?_
  | with_reducible refine oa_min ?_
  | with_reducible refine oa_len ?_
  | with_reducible refine oa_lenL ?_
  | with_reducible refine oa_intB ?_
  | refine ⟨[_, _], rfl, Nat.le_of_ble_eq_true rfl, ?_⟩
  | refine ⟨[_, _, _], rfl, Nat.le_of_ble_eq_true rfl, ?_⟩
  | refine ⟨[_, _, _, _], rfl, Nat.le_of_ble_eq_true rfl, ?_⟩
  | refine ⟨[_], rfl, Nat.le_of_ble_eq_true rfl, ?_⟩
  | refine ⟨[], rfl, Nat.le_of_ble_eq_true rfl, ?_⟩)

local macro_rules | `(tactic| walk_at "k2") => `(tactic| first
  | with_reducible refine ex_b ?_
  | refine both_t rfl ?_
  | refine both_f rfl ?_
  | refine both_f2 rfl ?_
  | refine both_t2 rfl ?_
  | with_reducible refine cs_is_integer fun _ _ => ?_
  | with_reducible refine cs_is_whole fun _ _ => ?_
  | refine oa_len ?_
  | refine oa_lenL ?_
  | refine o2_ixT rfl ?_
  | refine o2_ixL rfl ?_
  | refine o2_in rfl rfl ?_
  | refine o2_eqI ?_
  | refine o2_neI ?_
  | refine o2_eqS (by decide +kernel) (by decide +kernel) ?_
  | refine o2_neS (by decide +kernel) (by decide +kernel) ?_
  | refine o2_eqD (Deed.shp _).ok rfl ?_
  | refine both_t (by decide +kernel) ?_
  | refine both_f (by decide +kernel) ?_
  | refine both_f2 (by decide +kernel) ?_
  | refine both_t2 (by decide +kernel) ?_
  | with_reducible refine w_slT ?_
  | with_reducible refine wg_name ?_
  | with_reducible refine wgs_cons ?_
  | with_reducible refine wgs_nil ?_
  | refine o2_ii ?_
  | refine o2_ib ?_
  | refine o2_isN ?_
  | refine o2_notN ?_
  | refine wg_tup rfl ?_
  | refine wgs_cons ?_
  | refine wgs_nil ?_
  | with_reducible refine w_slL ?_
  | with_reducible refine wo_no ?_
  | with_reducible refine wo_some ?_
  | with_reducible refine ⟨_, _, rfl, rfl, ?_⟩
  | with_reducible refine ⟨_, rfl, ?_⟩
  | with_reducible refine ⟨_, _, rfl, ?_⟩
  | with_reducible refine ⟨_, _, _, rfl, ?_⟩)
local macro_rules | `(tactic| walk_at "same") => `(tactic| ((repeat (first | exact Same.refl _ | assumption | refine Same.trans ?_ (by assumption)))))

local macro_rules | `(tactic| walk_at "k3") => `(tactic| first
  | walk_at "k2"
  | refine both_t (by first | (simp; done) | (simp; omega)) ?_
  | refine both_f (by first | (simp; done) | (simp; omega)) ?_
  | refine both_f2 (by first | (simp; done) | (simp; omega)) ?_
  | refine both_t2 (by first | (simp; done) | (simp; omega)) ?_
  | refine go_next ?_
  | refine go_drop ?_)
theorem go_seqM {Γ : List Gh} {t u : TS} {E : EX} {ρ : Rho} {H : Hp} (Mid : Rho → Hp → Prop) (h : Go Γ t { E with nx := Mid } ρ H) (k : ∀ ρ' H', Mid ρ' H' → Go Γ u E ρ' H') : Go Γ (tSeq t u) E ρ H :=
  go_seq fun D le σ H' e s => h D ⟨fun ρ1 H1 σ1 H2 m e1 s1 => le.nx ρ1 H1 σ1 H2 (k ρ1 H1 m) e1 s1, le.rt, le.bk, le.ct⟩ σ H' e s
def encRow (rs : List Rnd) : PyData := .tuple (rs.map rde)
def S__law_steps_right (C : Addr) : Spc where
  ι := (Addr × Addr) × Nat × Addr × Wld × Rul × Int
  args i := [.o (.ref i.1.1), .o (.ref i.2.2.1), .d i.2.2.2.1.enc, .d (encR i.2.2.2.2.1), .d (.int i.2.2.2.2.2)]
  pre i H := DrawAt H i.1 i.2.1 ∧ i.2.1 ≤ 400000000 ∧ PairAt H i.2.2.1 C ⟨i.2.2.2.1, i.2.2.2.2.1, i.2.2.2.2.2, ⟨[], ⟨0, 0, i.2.2.2.2.2⟩, [i.2.2.2.2.2]⟩, [], []⟩ ∧ i.2.2.2.1.ok ∧ i.2.2.2.2.1.ok ∧ -500 ≤ i.2.2.2.2.2 ∧ i.2.2.2.2.2 ≤ 500
  mod i := [i.1.1, i.2.2.1]
  post i x H := ∃ s rows und, x = .d (.list [encRow s.now.rs]) ∧ DrawAt H i.1 (i.2.1 + 100) ∧ PairAt H i.2.2.1 C s ∧ StepInv i.2.2.2.1 i.2.2.2.2.1 i.2.2.2.2.2 s rows und 12
theorem cs_more {C p : Addr} {dr : Addr × Addr} {bd : Nat} {s : PSt} {H : Hp} {R : PX} (hd : DrawAt H dr bd) (hb : bd ≤ 500000000) (hp : PairAt H p C s) (hg : s.good) (h1 : s.now.rs.length ≤ 400) (h2 : s.past.length ≤ 400)
    (k : ∀ H2 qs st e, Fr [dr.1, p] H H2 → qs.length ≤ 3 → DrawAt H2 dr (bd + 5) → PairAt H2 p C (s.did qs st e) → (s.did qs st e).good → R (.d (.tuple ((s.now.rs ++ qs).map rde))) H2) : CallS (S__law_done_more C) [.o (.ref dr.1), .o (.ref p), .d s.w.enc, .d (encR s.r), .d (.int s.b), .d (.tuple (s.now.rs.map rde))] H Eno R :=
  CallS.mk (S := S__law_done_more C) (dr, bd, p, s) rfl (fun _ e => ⟨hd.same e, hb, hp.same e, hg, h1, h2⟩) (fun x H2 f po => by
    obtain ⟨qs, st, e, rfl, a1, a2, a3, a4⟩ := po
    exact k H2 qs st e f a1 a2 a3 a4) fun _ _ _ h => h
theorem cs_undo {C CB CN p : Addr} {s : PSt} {n : Nat} {H : Hp} {R : PX} (hp : PairAt H p C s) (so : s.ok) (h1 : 1 ≤ n) (h2 : n ≤ s.past.length) (k : ∀ H2, Fr [p] H H2 → PairAt H2 p C (s.undo n) → R (.d .none) H2) : CallS (S_p_undo C CB CN) [.o (.ref p), .d (.int (n : Nat))] H Eno R := by
  refine ⟨((p, s), .int (n : Nat)), rfl, fun H' e => ⟨hp.same e, so⟩, fun x H2 f po => ?_, fun c d H2 f po => ?_⟩
  · obtain ⟨rfl, m, e, a1, a2, a3⟩ := po
    have e : ((n : Nat) : Int) = (m : Nat) := PyData.int.inj e
    have e : n = m := by omega
    subst e
    exact k H2 f a3
  · obtain ⟨_, ⟨h, _⟩ | ⟨m, h, _, h3, _⟩⟩ := po
    · have := h (n : Nat) rfl
      omega
    · have e : ((n : Nat) : Int) = m := PyData.int.inj h
      have h3 : ((s.past.length : Nat) : Int) < m := h3
      omega
theorem cs_redo {C CB CN p : Addr} {s : PSt} {n : Nat} {H : Hp} {R : PX} (hp : PairAt H p C s) (so : s.ok) (h1 : 1 ≤ n) (h2 : n ≤ s.coming.length) (k : ∀ H2, Fr [p] H H2 → PairAt H2 p C (s.redo n) → R (.d .none) H2) : CallS (S_p_redo C CB CN) [.o (.ref p), .d (.int (n : Nat))] H Eno R := by
  refine ⟨((p, s), .int (n : Nat)), rfl, fun H' e => ⟨hp.same e, so⟩, fun x H2 f po => ?_, fun c d H2 f po => ?_⟩
  · obtain ⟨rfl, m, e, a1, a2, a3⟩ := po
    have e : ((n : Nat) : Int) = (m : Nat) := PyData.int.inj e
    have e : n = m := by omega
    subst e
    exact k H2 f a3
  · obtain ⟨_, ⟨h, _⟩ | ⟨m, h, _, h3, _⟩⟩ := po
    · have := h (n : Nat) rfl
      omega
    · have e : ((n : Nat) : Int) = m := PyData.int.inj h
      have h3 : ((s.coming.length : Nat) : Int) < m := h3
      omega
section
variable {P : Program} {w : World} {K : PySem.W.Frag} {mg : Str → Option Value} {base : Heap} {f C CRd CRn CNb CLf : Addr} {fd : FuncData} (G : GF mg) (Pf : PF P w K mg base C CRd CRn CNb CLf)
include G Pf
omit G Pf in
theorem sc__law_steps_right : FnScope ["_law_draw", "_law_pair", "_law_world_here", "_law_manner", "_law_begin_here", "_law_rows", "_law_undone", "_law_count", "_law_way", "_law_rounds_here", "_law_kept", "_law_more", "_law_total"] ["_law_draw", "_law_pair", "_law_world_here", "_law_manner", "_law_begin_here"] (defScope (top 70)) := ⟨rfl, rfl, rfl, by decide +kernel, rfl, by decide +kernel, by decide +kernel⟩
theorem ok__law_steps_right (D__law_next : DefOk P w K mg base 1 "_law_next" ["_law_draw", "_law_total"] (S__law_next)) (D__law_done_more : DefOkG P w K mg base 13 "_law_done_more" ["_law_draw", "_law_pair", "_law_world_here", "_law_manner", "_law_begin_here", "_law_rounds_here"] (S__law_done_more C)) (D__law_is_so : DefOkG P w K mg base 12 "_law_is_so" ["_law_pair", "_law_world_here", "_law_manner", "_law_begin_here", "_law_rounds_here"] (S__law_is_so C)) (F : FnP K "_law_steps_right" "_law_steps_right" (top 70) [] f fd) : FnOkG P w K mg base (L2.CX P w) 14 f fd ["_law_draw", "_law_pair", "_law_world_here", "_law_manner", "_law_begin_here"] (sp (S__law_steps_right C)) := by
  have sc := sc__law_steps_right
  refine ok_pureG F sc (fun _ => rfl) fun cdv A outer s H E hgd hr => ⟨_, pss_cons (ps_par (i := 5) (j := 6) rfl sc.nd rfl rfl (by decide) rfl rfl (pa_cons (pe_lst (pa_cons (pe_tup (pa_nil)) (pa_nil))) (pa_cons (pe_lst (pa_nil)) (pa_nil))) (by rfl)) (pss_cons (ps_for PassesOwn.never rfl (pi_range1 rfl (G.gfree "range" (by decide +kernel)) (pa_cons (pe_D D__law_next (hr.mono (by decide)) rfl pass_none (pa_cons (pe_var (i := 0) rfl (.inl rfl)) (pa_cons (pe_int) (pa_nil)))) (pa_nil))) (pg_name (i := 7) sc.nd rfl (.inl rfl)) (pss_cons (ps_par3 (i := 8) (j := 9) (l := 10) rfl sc.nd rfl rfl rfl (by decide) (by decide) (by decide) rfl rfl rfl (pa_cons (pe_D D__law_next (hr.mono (by decide)) rfl pass_none (pa_cons (pe_var (i := 0) rfl (.inl rfl)) (pa_cons (pe_int) (pa_nil)))) (pa_cons (pe_ix ix_seq (pe_var (i := 5) rfl (.inl rfl)) (pe_un un_neg (pe_int)) (fun _ _ => rfl)) (pa_cons (pe_pD Pf.rounds Pf.k.cls (hr.mono (by decide)) (pe_var (i := 1) rfl (.inl rfl))) (pa_nil)))) (by rfl)) (pss_cons (ps_if (pt_cmpR op_lt (pe_var (i := 8) rfl (.inl rfl)) (pe_int) (nomark _)) (pss_cons (ps_set (i := 11) sc.nd rfl (.inl rfl) (pe_DG D__law_done_more hgd (hr.mono (by decide)) rfl pass_none (pa_cons (pe_var (i := 0) rfl (.inl rfl)) (pa_cons (pe_var (i := 1) rfl (.inl rfl)) (pa_cons (pe_var (i := 2) rfl (.inl rfl)) (pa_cons (pe_var (i := 3) rfl (.inl rfl)) (pa_cons (pe_var (i := 4) rfl (.inl rfl)) (pa_cons (pe_var (i := 9) rfl (.inl rfl)) (pa_nil))))))))) (pss_cons (ps_if (pt_cmpR op_isN (pe_var (i := 11) rfl (.inl rfl)) (pe_non) (nomark _)) (pss_one (ps_ret (pe_lst (pa_nil)))) (pss_nil)) (pss_one (ps_par (i := 5) (j := 6) rfl sc.nd rfl rfl (by decide) rfl rfl (pa_cons (pe_op op_cat (pe_var (i := 5) rfl (.inl rfl)) (pe_lst (pa_cons (pe_var (i := 11) rfl (.inl rfl)) (pa_nil)))) (pa_cons (pe_lst (pa_nil)) (pa_nil))) (by rfl))))) (pss_one (ps_if (PW.pt (pw_and (pt_cmpR (op_eqD hr.units) (pe_var (i := 8) rfl (.inl rfl)) (pe_int) (nomark _)) (pw_and1 (pt_cmpR op_gt (pe_callB call_len_seq rfl (G.gfree "len" (by decide +kernel)) (by decide +kernel) (pa_cons (pe_var (i := 5) rfl (.inl rfl)) (pa_nil))) (pe_int) (nomark _))))) (pss_cons (ps_set (i := 12) sc.nd rfl (.inl rfl) (pe_op op_add (pe_int) (pe_D D__law_next (hr.mono (by decide)) rfl pass_none (pa_cons (pe_var (i := 0) rfl (.inl rfl)) (pa_cons (pe_op op_sub (pe_callB call_len_seq rfl (G.gfree "len" (by decide +kernel)) (by decide +kernel) (pa_cons (pe_var (i := 5) rfl (.inl rfl)) (pa_nil))) (pe_int)) (pa_nil)))))) (pss_cons (ps_expr (pe_mD Pf.undo Pf.k.cls (hr.mono (by decide)) pass_none (pe_var (i := 1) rfl (.inl rfl)) (pa_cons (pe_var (i := 12) rfl (.inl rfl)) (pa_nil)))) (pss_one (ps_par (i := 6) (j := 5) rfl sc.nd rfl rfl (by decide) rfl rfl (pa_cons (pe_op op_cat (pe_var (i := 6) rfl (.inl rfl)) (pe_dnL2 (pe_var (i := 5) rfl (.inl rfl)) (po_some (pe_op op_sub (pe_un un_neg (pe_var (i := 12) rfl (.inl rfl))) (pe_int))))) (pa_cons (pe_slice sl_list (pe_var (i := 5) rfl (.inl rfl)) (po_none) (po_some (pe_un un_neg (pe_var (i := 12) rfl (.inl rfl))))) (pa_nil))) (by rfl))))) (pss_one (ps_if (PW.pt (pw_and (pt_cmpR (op_eqD hr.units) (pe_var (i := 8) rfl (.inl rfl)) (pe_int) (nomark _)) (pw_and1 (pt_cmpR (op_neD hr.units) (pe_var (i := 6) rfl (.inl rfl)) (pe_lst (pa_nil)) (nomark _))))) (pss_cons (ps_set (i := 12) sc.nd rfl (.inl rfl) (pe_op op_add (pe_int) (pe_D D__law_next (hr.mono (by decide)) rfl pass_none (pa_cons (pe_var (i := 0) rfl (.inl rfl)) (pa_cons (pe_callB call_len_seq rfl (G.gfree "len" (by decide +kernel)) (by decide +kernel) (pa_cons (pe_var (i := 6) rfl (.inl rfl)) (pa_nil))) (pa_nil)))))) (pss_cons (ps_expr (pe_mD Pf.redo Pf.k.cls (hr.mono (by decide)) pass_none (pe_var (i := 1) rfl (.inl rfl)) (pa_cons (pe_var (i := 12) rfl (.inl rfl)) (pa_nil)))) (pss_one (ps_par (i := 5) (j := 6) rfl sc.nd rfl rfl (by decide) rfl rfl (pa_cons (pe_op op_cat (pe_var (i := 5) rfl (.inl rfl)) (pe_dnL2 (pe_var (i := 6) rfl (.inl rfl)) (po_some (pe_op op_sub (pe_un un_neg (pe_var (i := 12) rfl (.inl rfl))) (pe_int))))) (pa_cons (pe_slice sl_list (pe_var (i := 6) rfl (.inl rfl)) (po_none) (po_some (pe_un un_neg (pe_var (i := 12) rfl (.inl rfl))))) (pa_nil))) (by rfl))))) (pss_nil)))))) (pss_one (ps_if (PW.pt (pw_or (pt_cmpR (op_neD hr.units) (pe_var (i := 10) rfl (.inl rfl)) (pe_var (i := 9) rfl (.inl rfl)) (nomark _)) (pw_or1 (pt_not (pt_val (pe_DG D__law_is_so hgd (hr.mono (by decide)) rfl pass_none (pa_cons (pe_var (i := 1) rfl (.inl rfl)) (pa_cons (pe_var (i := 2) rfl (.inl rfl)) (pa_cons (pe_var (i := 3) rfl (.inl rfl)) (pa_cons (pe_var (i := 4) rfl (.inl rfl)) (pa_cons (pe_ix ix_seq (pe_var (i := 5) rfl (.inl rfl)) (pe_un un_neg (pe_int)) (fun _ _ => rfl)) (pa_nil)))))))))))) (pss_one (ps_ret (pe_lst (pa_nil)))) (pss_nil)))))) (pss_one (ps_ret (pe_lst (pa_cons (pe_ix ix_seq (pe_var (i := 5) rfl (.inl rfl)) (pe_un un_neg (pe_int)) (fun _ _ => rfl)) (pa_nil)))))), fun (i : (Addr × Addr) × Nat × Addr × Wld × Rul × Int) hp => ?_⟩
  obtain ⟨dr, bd, p, w0, r, b⟩ := i
  obtain ⟨hd, hb, hp1, wok, rok, b0, b1⟩ := (show DrawAt H dr bd ∧ bd ≤ 400000000 ∧ PairAt H p C ⟨w0, r, b, ⟨[], ⟨0, 0, b⟩, [b]⟩, [], []⟩ ∧ w0.ok ∧ r.ok ∧ -500 ≤ b ∧ b ≤ 500 from hp)
  have hne := draw_ne_pair hd hp1
  refine go_seq (go_par ?_)
  repeat walk_at "k2"
  refine go_seq (go_forR1 ?_)
  repeat walk_at "k2"
  refine cs_next hd (by omega) (by decide) (by decide) fun n1 H1 f1 d1 n10 n11 => ?_
  have hp1 := hp1.fr f1 hne
  repeat walk_at "k2"
  refine ⟨⟨by omega, by omega⟩, fun j ρ H3 => Fr [dr.1, p] H H3 ∧ DrawAt H3 dr (bd + 1 + 6 * j) ∧ ∃ s rows und, PairAt H3 p C s ∧ StepInv w0 r b s rows und j ∧ ∃ a1 a2 a3 a4 a5 a6, ρ = [some (.o (.ref dr.1)), some (.o (.ref p)), some (.d w0.enc), some (.d (encR r)), some (.d (.int b)), some (.d (.list (rows.map encRow))), some (.d (.list (und.map encRow))), a1, a2, a3, a4, a5, a6],
    ⟨f1.one, d1, _, _, _, hp1, StepInv.start wok rok ⟨b0, b1⟩, none, none, none, none, none, none, rfl⟩, fun j ρ2 H3 hj hJ => ?_, fun ρ2 H3 hJ => ?_⟩
  · obtain ⟨f3, d3, s, rows, und, hp3, iv, a1, a2, a3, a4, a5, a6, rfl⟩ := hJ
    have hj' : j < 11 := by have q : j < n1.toNat := hj; omega
    obtain ⟨rs0, hrs0, hrl⟩ := iv.last
    have sg := iv.good (by omega)
    obtain ⟨rfl, rfl, rfl⟩ := (⟨iv.hw.symm, iv.hr.symm, iv.hb.symm⟩ : w0 = s.w ∧ r = s.r ∧ b = s.b)
    have nl := iv.no.len
    have ul : und.length = s.coming.length := by rw [iv.und, List.length_map]
    have num := iv.num
    have lastI : atI (rows.map encRow) (-1) = some (encRow s.now.rs) := by rw [hrs0, List.map_append]; exact atI_last _ _
    refine wg_name (go_seq (go_par3 ?_))
    repeat walk_at "k2"
    refine cs_next d3 (by omega) (by decide) (by decide) fun wy H4 f4 d4 wy0 wy1 => ?_
    have hp4 := hp3.fr f4 hne
    repeat walk_at "k2"
    refine o2_ixL lastI ?_
    refine wa_cons (w_pr (w_var rfl ⟨p, s, rfl, hp4, cs_prounds hp4 fun H5 e5 => ?_⟩))
    have hp5 := hp4.same e5
    have d5 := d4.same e5
    have f5 : Fr [dr.1, p] H H5 := (f3.trans f4.one).trans e5.frq
    refine wa_nil ⟨_, _, _, rfl, ?_⟩
    refine go_seqM (fun ρ' H' => Fr [dr.1, p] H H' ∧ DrawAt H' dr (bd + 1 + 6 * (j + 1)) ∧ ∃ s' rows' und', PairAt H' p C s' ∧ StepInv s.w s.r s.b s' rows' und' (j + 1) ∧ ∃ (a5 a6 : Option Dx), ρ' = [some (.o (.ref dr.1)), some (.o (.ref p)), some (.d s.w.enc), some (.d (encR s.r)), some (.d (.int s.b)), some (.d (.list (rows'.map encRow))), some (.d (.list (und'.map encRow))), some (.d (.int (0 + (j : Nat)))), some (.d (.int wy)), some (.d (encRow s.now.rs)), some (.d (encRow s.now.rs)), a5, a6]) ?_ fun ρ' H' hM => ?_
    · refine go_if ?_
      repeat walk_at "k2"
      refine ⟨fun hw => ?_, fun hw => ?_⟩
      · refine go_seq (go_set ?_)
        repeat walk_at "k2"
        refine cs_more (s := s) d5 (by omega) hp5 sg (by omega) (by omega) fun H6 qs st e f6 hq d6 hp6 hg6 => ?_
        repeat walk_at "k2"
        have er : rows.map encRow ++ [.tuple ((s.now.rs ++ qs).map rde)] = (rows ++ [s.now.rs ++ qs]).map encRow := by simp [encRow]
        refine o2_catLE (K := K) er (by simp; omega) ?_
        repeat walk_at "k2"
        exact ⟨f5.trans f6, d6.mono (by omega), s.did qs st e, _, [], hp6, iv.did hq hg6, _, _, rfl⟩
      · refine go_if (WT.imp (R := fun bb H1 => H1 = H5 ∧ (bb = true → 1 < rows.length)) ?_ fun bb H1 e1 => ?_)
        · repeat walk_at "k2"
          refine ⟨fun _ => ?_, fun _ => ⟨rfl, fun z => by cases z⟩⟩
          repeat walk_at "k2"
          refine ⟨rfl, fun z => ?_⟩
          have z := of_decide_eq_true z
          rw [List.length_map] at z
          omega
        obtain ⟨rfl, e2⟩ := e1
        refine ⟨fun hb2 => ?_, fun hb2 => ?_⟩
        · have h1 := e2 hb2
          refine go_seq (go_set ?_)
          repeat walk_at "k2"
          refine cs_next d5 (by omega) (by rw [List.length_map]; omega) (by rw [List.length_map]; omega) fun n2 H6 f6 d6 n20 n21 => ?_
          have hp6 := hp5.fr f6 hne
          rw [List.length_map] at n21
          obtain ⟨k, rfl⟩ := Int.eq_ofNat_of_zero_le n20
          have n21 : (k : Int) < (rows.length : Nat) - 1 := n21
          refine o2_iiE (z := ((k + 1 : Nat) : Int)) (by show 1 + (k : Int) = _; omega) ?_
          refine go_seq (go_drop (w_mP (m := "undo") (by decide) (w_var rfl ⟨p, _, _, _, _, _, _, rfl, hp6, wa_cons (w_var rfl (wa_nil ?_))⟩)))
          refine cs_undo hp6 sg.ok (by omega) (by omega) fun H7 f7 hp7 => ?_
          have dn : ∀ {R : PX} {ρ : Rho}, ρ[5]? = some (some (.d (.list (rows.map encRow)))) → ρ[12]? = some (some (.d (.int ((k + 1 : Nat) : Int)))) → R (.d (.list ((rows.drop (rows.length - (k + 1))).reverse.map encRow))) H7 → W [] (tDn (rDnL2 K) (tVar 5) (tPart (tOp (rI0 fun i j => .int (i - j)) (tUn (rU fun i => .int (-i)) (tVar 12)) (tC (.int 1))))) ρ H7 R := fun h1 h2 k3 => by
            refine w_dnL2 (w_var h1 ⟨_, rfl, wo_some (w_op (w_un (w_var h2 (o1_i (w_int (o2_ii ⟨_, rfl, _, rows.length - (k + 1), rfl, ?_, ?_, ?_⟩))))))⟩)
            · unfold hiAt
              rw [if_pos (by omega), List.length_map]
              omega
            · rw [List.length_map]
              omega
            · rw [← List.map_drop, ← List.map_reverse]
              exact k3
          have up : ∀ {R : PX} {ρ : Rho}, ρ[5]? = some (some (.d (.list (rows.map encRow)))) → ρ[12]? = some (some (.d (.int ((k + 1 : Nat) : Int)))) → R (.d (.list ((rows.take (rows.length - (k + 1))).map encRow))) H7 → W [] (tSl (rSlL K) (tVar 5) tNoPart (tPart (tUn (rU fun i => .int (-i)) (tVar 12)))) ρ H7 R := fun h1 h2 k3 => by
            refine w_slL (w_var h1 ⟨_, rfl, wo_no (wo_some (w_un (w_var h2 (o1_i ⟨_, rfl, ?_⟩))))⟩)
            rw [cutD_minus _ (k + 1) (by rw [List.length_map]; omega) (by omega), List.length_map, ← List.map_take]
            exact k3
          have ec : und.map encRow ++ (rows.drop (rows.length - (k + 1))).reverse.map encRow = (und ++ (rows.drop (rows.length - (k + 1))).reverse).map encRow := by rw [List.map_append]
          refine go_par (wa_cons (w_op (w_var rfl (dn rfl rfl (o2_catLE (K := K) ec ?_ (wa_cons (up rfl rfl (wa_nil ⟨_, _, rfl, ?_⟩))))))))
          · simp
            omega
          · exact ⟨f5.trans (f6.one.trans f7.two), (d6.fr hne f7).mono (by omega), s.undo (k + 1), _, _, hp7, (iv.undo (n := k + 1) (by omega) (by omega)).mono (by omega), _, _, rfl⟩
        · refine go_if (WT.imp (R := fun bb Hz => Hz = H1 ∧ (bb = true → 0 < und.length)) ?_ fun bb2 Hz e1 => ?_)
          · repeat walk_at "k2"
            refine ⟨fun _ => ?_, fun _ => ⟨rfl, fun z => by cases z⟩⟩
            refine wt_test (w_op (w_var rfl (w_lst (wa_nil ⟨[], rfl, Nat.le_of_ble_eq_true rfl, ?_⟩))))
            refine o2_neD (shp_l (n := 3) (all_map fun z _ => (rds_shp z).mono (by decide))).ok (by decide +kernel) ⟨_, rfl, rfl, fun z => ?_⟩
            cases hu : und with
            | nil => rw [hu] at z; simp [PyData.eqv, PyData.eqvAll] at z
            | cons _ _ => simp
          obtain ⟨rfl, e2⟩ := e1
          refine ⟨fun hb3 => ?_, fun hb3 => ?_⟩
          · have h1 := e2 hb3
            refine go_seq (go_set ?_)
            repeat walk_at "k2"
            refine cs_next d5 (by omega) (by rw [List.length_map]; omega) (by rw [List.length_map]; omega) fun n2 H6 f6 d6 n20 n21 => ?_
            have hp6 := hp5.fr f6 hne
            rw [List.length_map] at n21
            obtain ⟨k, rfl⟩ := Int.eq_ofNat_of_zero_le n20
            have n21 : (k : Int) < (und.length : Nat) := n21
            refine o2_iiE (z := ((k + 1 : Nat) : Int)) (by show 1 + (k : Int) = _; omega) ?_
            refine go_seq (go_drop (w_mP (m := "redo") (by decide) (w_var rfl ⟨p, _, _, _, _, _, _, rfl, hp6, wa_cons (w_var rfl (wa_nil ?_))⟩)))
            refine cs_redo hp6 sg.ok (by omega) (by omega) fun H7 f7 hp7 => ?_
            have dn : ∀ {R : PX} {ρ : Rho}, ρ[6]? = some (some (.d (.list (und.map encRow)))) → ρ[12]? = some (some (.d (.int ((k + 1 : Nat) : Int)))) → R (.d (.list ((und.drop (und.length - (k + 1))).reverse.map encRow))) H7 → W [] (tDn (rDnL2 K) (tVar 6) (tPart (tOp (rI0 fun i j => .int (i - j)) (tUn (rU fun i => .int (-i)) (tVar 12)) (tC (.int 1))))) ρ H7 R := fun h1 h2 k3 => by
              refine w_dnL2 (w_var h1 ⟨_, rfl, wo_some (w_op (w_un (w_var h2 (o1_i (w_int (o2_ii ⟨_, rfl, _, und.length - (k + 1), rfl, ?_, ?_, ?_⟩))))))⟩)
              · unfold hiAt
                rw [if_pos (by omega), List.length_map]
                omega
              · rw [List.length_map]
                omega
              · rw [← List.map_drop, ← List.map_reverse]
                exact k3
            have up : ∀ {R : PX} {ρ : Rho}, ρ[6]? = some (some (.d (.list (und.map encRow)))) → ρ[12]? = some (some (.d (.int ((k + 1 : Nat) : Int)))) → R (.d (.list ((und.take (und.length - (k + 1))).map encRow))) H7 → W [] (tSl (rSlL K) (tVar 6) tNoPart (tPart (tUn (rU fun i => .int (-i)) (tVar 12)))) ρ H7 R := fun h1 h2 k3 => by
              refine w_slL (w_var h1 ⟨_, rfl, wo_no (wo_some (w_un (w_var h2 (o1_i ⟨_, rfl, ?_⟩))))⟩)
              rw [cutD_minus _ (k + 1) (by rw [List.length_map]; omega) (by omega), List.length_map, ← List.map_take]
              exact k3
            have ec : rows.map encRow ++ (und.drop (und.length - (k + 1))).reverse.map encRow = (rows ++ (und.drop (und.length - (k + 1))).reverse).map encRow := by rw [List.map_append]
            refine go_par (wa_cons (w_op (w_var rfl (dn rfl rfl (o2_catLE (K := K) ec ?_ (wa_cons (up rfl rfl (wa_nil ⟨_, _, rfl, ?_⟩))))))))
            · simp
              omega
            · exact ⟨f5.trans (f6.one.trans f7.two), (d6.fr hne f7).mono (by omega), s.redo (k + 1), _, _, hp7, (iv.redo (n := k + 1) (by omega) (by omega)).mono (by omega), _, _, rfl⟩
          · refine go_next ?_
            exact ⟨f5, d5.mono (by omega), s, rows, und, hp5, iv.mono (by omega), _, _, rfl⟩
    · obtain ⟨f6, d6, s', rows', und', hp6, iv', a5, a6, rfl⟩ := hM
      obtain ⟨rs1, hrs1, _⟩ := iv'.last
      refine go_if (wt_or (wt_test (w_op (w_var rfl (w_var rfl (o2_neD (rds_shp _).ok (rds_shp _).ok ?_))))))
      refine ⟨_, rfl, both_f2 (by rw [show PyData.eqv (encRow s.now.rs) (encRow s.now.rs) = true from (rds_shp _).self]; rfl) ?_⟩
      have c : ∀ {R : PX}, (∀ H2, Same H' H2 → R (.d (.bool true)) H2) → CallS (S__law_is_so C) [.o (.ref p), .d s.w.enc, .d (encR s.r), .d (.int s.b), .d (encRow s'.now.rs)] H' Eno R := fun k => by
        have c := cs_isso hp6 (iv'.good (by omega)) k
        rw [iv'.hw, iv'.hr, iv'.hb] at c
        exact c
      refine wt_not (wt_B (w_call0 (wa_cons (w_var rfl (wa_cons (w_var rfl (wa_cons (w_var rfl (wa_cons (w_var rfl ?_))))))))))
      refine wa_cons (w_op (w_var rfl (w_un (w_int (o1_i ?_)))))
      refine o2_ixL (d := encRow s'.now.rs) (by rw [hrs1, List.map_append]; exact atI_last _ _) ?_
      refine wa_nil (c fun H7 e7 => ?_)
      refine ⟨_, rfl, both_f rfl ?_⟩
      refine go_next ?_
      exact ⟨f6.trans e7.frq, d6.same e7, s', rows', und', hp6.same e7, iv', _, _, _, _, _, _, rfl⟩
  · obtain ⟨f3, d3, s, rows, und, hp3, iv, a1, a2, a3, a4, a5, a6, rfl⟩ := hJ
    obtain ⟨rs0, hrs0, _⟩ := iv.last
    refine go_next (go_ret (w_lst (wa_cons (w_op (w_var rfl (w_un (w_int (o1_i ?_))))))))
    refine o2_ixL (d := encRow s.now.rs) (by rw [hrs0, List.map_append]; exact atI_last _ _) ?_
    refine wa_nil ⟨[_], rfl, Nat.le_of_ble_eq_true rfl, ?_⟩
    exact rt_fr f3 fun H4 e4 => ⟨s, rows, und, rfl, (d3.same e4).mono (by show bd + 1 + 6 * n1.toNat ≤ bd + 100; omega), hp3.same e4, iv.mono (by omega)⟩
end
end K2

set_option Elab.async false
set_option linter.all false
set_option maxRecDepth 100000
set_option pp.deepTerms false
set_option pp.deepTerms.threshold 10
set_option maxHeartbeats 4000000
namespace K2
open PySem L2 PySem.Spec PyProof.Rows StX RZ
local macro_rules | `(tactic| walk_at "k2") => `(tactic| first
  | with_reducible refine w_var rfl ?_
  | with_reducible refine w_int ?_
  | with_reducible refine w_bl ?_
  | with_reducible refine w_non ?_
  | with_reducible refine w_str ?_
  | with_reducible refine w_o ?_
  | with_reducible refine wa_cons ?_
  | with_reducible refine wa_nil ?_
  | with_reducible refine w_op ?_
  | with_reducible refine w_un ?_
  | with_reducible refine w_cb ?_
  | with_reducible refine w_call0 ?_
  | with_reducible refine w_chain ?_
  | with_reducible refine w_tup ?_
  | with_reducible refine w_lst ?_
  | with_reducible refine w_andV ?_
  | with_reducible refine w_orV ?_
  | with_reducible refine w_notV ?_
  | with_reducible refine w_if ?_
  | with_reducible refine wt_test ?_
  | with_reducible refine wt_B ?_
  | with_reducible refine wt_and ?_
  | with_reducible refine wt_or ?_
  | with_reducible refine wt_not ?_
  | with_reducible refine go_seq ?_
  | with_reducible refine go_ret ?_
  | with_reducible refine go_retN ?_
  | with_reducible refine go_set ?_
  | with_reducible refine go_par ?_
  | with_reducible refine go_par3 ?_
  | with_reducible refine go_asg ?_
  | with_reducible refine go_next ?_
  | with_reducible refine go_if ?_
  | with_reducible refine o2_ii ?_
  | with_reducible refine o2_ib ?_
  | with_reducible refine o1_i ?_
  | with_reducible refine o2_isN ?_
  | with_reducible refine o2_notN ?_
  | with_reducible refine oa_isiI ?_
  | with_reducible refine oa_isiB ?_
  | with_reducible refine oa_isiT ?_
  | with_reducible refine oa_isiS ?_
  | with_reducible refine oa_abs ?_
  | with_reducible refine oa_max ?_
  | with_reducible refine oa_min ?_
  | with_reducible refine oa_len ?_
  | with_reducible refine oa_lenL ?_
  | with_reducible refine oa_intB ?_
  | refine ⟨[_, _], rfl, Nat.le_of_ble_eq_true rfl, ?_⟩
  | refine ⟨[_, _, _], rfl, Nat.le_of_ble_eq_true rfl, ?_⟩
  | refine ⟨[_, _, _, _], rfl, Nat.le_of_ble_eq_true rfl, ?_⟩
  | refine ⟨[_], rfl, Nat.le_of_ble_eq_true rfl, ?_⟩
  | refine ⟨[], rfl, Nat.le_of_ble_eq_true rfl, ?_⟩)

local macro_rules | `(tactic| walk_at "k2") => `(tactic| first
  | with_reducible refine ex_b ?_
  | refine both_t rfl ?_
  | refine both_f rfl ?_
  | refine both_f2 rfl ?_
  | refine both_t2 rfl ?_
  | with_reducible refine cs_is_integer fun _ _ => ?_
  | with_reducible refine cs_is_whole fun _ _ => ?_
  | refine oa_len ?_
  | refine oa_lenL ?_
  | refine o2_ixT rfl ?_
  | refine o2_ixL rfl ?_
  | refine o2_in rfl rfl ?_
  | refine o2_eqI ?_
  | refine o2_neI ?_
  | refine o2_eqS (by decide +kernel) (by decide +kernel) ?_
  | refine o2_neS (by decide +kernel) (by decide +kernel) ?_
  | refine o2_eqD (Deed.shp _).ok rfl ?_
  | refine both_t (by decide +kernel) ?_
  | refine both_f (by decide +kernel) ?_
  | refine both_f2 (by decide +kernel) ?_
  | refine both_t2 (by decide +kernel) ?_
  | with_reducible refine w_slT ?_
  | with_reducible refine wg_name ?_
  | with_reducible refine wgs_cons ?_
  | with_reducible refine wgs_nil ?_
  | refine o2_ii ?_
  | refine o2_ib ?_
  | refine o2_isN ?_
  | refine o2_notN ?_
  | refine wg_tup rfl ?_
  | refine wgs_cons ?_
  | refine wgs_nil ?_
  | with_reducible refine w_slL ?_
  | with_reducible refine wo_no ?_
  | with_reducible refine wo_some ?_
  | with_reducible refine ⟨_, _, rfl, rfl, ?_⟩
  | with_reducible refine ⟨_, rfl, ?_⟩
  | with_reducible refine ⟨_, _, rfl, ?_⟩
  | with_reducible refine ⟨_, _, _, rfl, ?_⟩)
local macro_rules | `(tactic| walk_at "same") => `(tactic| ((repeat (first | exact Same.refl _ | assumption | refine Same.trans ?_ (by assumption)))))

local macro_rules | `(tactic| walk_at "k3") => `(tactic| first
  | walk_at "k2"
  | refine both_t (by first | (simp; done) | (simp; omega)) ?_
  | refine both_f (by first | (simp; done) | (simp; omega)) ?_
  | refine both_f2 (by first | (simp; done) | (simp; omega)) ?_
  | refine both_t2 (by first | (simp; done) | (simp; omega)) ?_
  | refine go_next ?_
  | refine go_drop ?_)
section
variable {P : Program} {w : World} {K : PySem.W.Frag} {mg : Str → Option Value} {base : Heap} {f C CRd CRn CNb CLf : Addr} {fd : FuncData} (G : GF mg) (Pf : PF P w K mg base C CRd CRn CNb CLf)
include G Pf
omit G Pf in
theorem sc__law_added : FnScope ["_law_pair", "_law_some"] ["_law_pair", "_law_some"] (defScope (top 67)) := ⟨rfl, rfl, rfl, by decide +kernel, rfl, by decide +kernel, by decide +kernel⟩
theorem ok__law_added (F : FnP K "_law_added" "_law_added" (top 67) [] f fd) : FnOk P w K mg base (L2.CX P w) 7 f fd ["_law_pair", "_law_some"] (sp (S_p___iadd__ C CRn)) := by
  have sc := sc__law_added
  refine ok_exc F sc (fun _ => rfl) fun cdv A outer s H E hr => ⟨_, pss_cons (ps_aug (i := 0) sc.nd rfl (.inl rfl) (pe_var (i := 1) rfl (.inl rfl)) (ip_D Pf.k Pf.add (hr.mono (by decide)) passE)) (pss_one (ps_ret (pe_var (i := 0) rfl (.inl rfl)))), fun (i : (Addr × PSt) × (PyData ⊕ List Rd2)) hp hx => ?_⟩
  obtain ⟨⟨p, s⟩, y⟩ := i
  have hp0 : PairAt H p C s := hp.1
  refine go_seq (go_aug (x := .o (.ref p)) rfl (w_var rfl (o2_ownAdd hp0.ins ?_)))
  refine ⟨((p, s), y), rfl, fun H' e => ⟨hp.1.same e, hp.2⟩, fun x H2 f2 po => ?_, fun c d H2 f2 po => hx c d H2 f2 po⟩
  obtain ⟨rfl, qs, st, e, h1, h2, h3⟩ := po
  refine go_ret (w_var rfl ?_)
  exact rt_fr f2 fun H3 e3 => ⟨rfl, qs, st, e, h1, h2, h3.same e3⟩
end
end K2

set_option Elab.async false
set_option linter.all false
set_option maxRecDepth 100000
set_option maxHeartbeats 2000000
/-! ## what is asked of a kept exception -/
namespace K2
open PySem L2 PySem.Spec PyProof.Rows
section
variable {Γ : List Gh} {ρ : Rho} {H : Hp} {R : PX} {te : TE} {K : PySem.W.Frag}
theorem oa_isK {a D c : Addr} {f : Str} {w : V} {b : Bool} (h : Kept H a D f w) (x : ExcC K D) (hk : PySem.W.kitOne K (.ref D) (.ref c) = some b) (k : R (.d (.bool b)) H) : OA (rIsK K) [.o (.ref a), .o (.ref c)] H R := fun vs H' e d Q q => by
  cases d with
  | cons d1 d2 =>
    cases d2 with
    | cons d2 d3 =>
      cases d3
      cases d1
      cases d2
      exact ⟨a, D, f, w, c, b, rfl, h.same e, x, hk, q _ _ H H' k e (Ft.refl _) (Dq.bl _)⟩
theorem w_xk {n : Str} (h : W Γ te ρ H fun x H1 => ∃ a D w y, x = .o (.ref a) ∧ Kept H1 a D n w ∧ XfC K D ∧ PySem.W.findIn K (.ref D) n = some none ∧ DxR H1 w y ∧ R y H1) : W Γ (tXk K n te) ρ H R := fun σ H' e s Q q =>
  h σ H' e s _ fun x v H1 H1' k e1 f1 d1 => by
    obtain ⟨a, D, w, y, rfl, h, x, hf, dy, k⟩ := k
    cases d1
    exact ⟨a, D, w, rfl, h.same e1, x, hf, q y w H1 H1' k e1 f1 (ft_dx e1.ftq dy)⟩
end
end K2

set_option Elab.async false
set_option linter.all false
set_option maxRecDepth 100000
set_option pp.deepTerms false
set_option pp.deepTerms.threshold 10
set_option maxHeartbeats 4000000
namespace K2
open PySem L2 PySem.Spec PyProof.Rows StX RZ
local macro_rules | `(tactic| walk_at "k2") => `(tactic| first
  | with_reducible refine w_var rfl ?_
  | with_reducible refine w_int ?_
  | with_reducible refine w_bl ?_
  | with_reducible refine w_non ?_
  | with_reducible refine w_str ?_
  | with_reducible refine w_o ?_
  | with_reducible refine wa_cons ?_
  | with_reducible refine wa_nil ?_
  | with_reducible refine w_op ?_
  | with_reducible refine w_un ?_
  | with_reducible refine w_cb ?_
  | with_reducible refine w_call0 ?_
  | with_reducible refine w_chain ?_
  | with_reducible refine w_tup ?_
  | with_reducible refine w_lst ?_
  | with_reducible refine w_andV ?_
  | with_reducible refine w_orV ?_
  | with_reducible refine w_notV ?_
  | with_reducible refine w_if ?_
  | with_reducible refine wt_test ?_
  | with_reducible refine wt_B ?_
  | with_reducible refine wt_and ?_
  | with_reducible refine wt_or ?_
  | with_reducible refine wt_not ?_
  | with_reducible refine go_seq ?_
  | with_reducible refine go_ret ?_
  | with_reducible refine go_retN ?_
  | with_reducible refine go_set ?_
  | with_reducible refine go_par ?_
  | with_reducible refine go_par3 ?_
  | with_reducible refine go_asg ?_
  | with_reducible refine go_next ?_
  | with_reducible refine go_if ?_
  | with_reducible refine o2_ii ?_
  | with_reducible refine o2_ib ?_
  | with_reducible refine o1_i ?_
  | with_reducible refine o2_isN ?_
  | with_reducible refine o2_notN ?_
  | with_reducible refine oa_isiI ?_
  | with_reducible refine oa_isiB ?_
  | with_reducible refine oa_isiT ?_
  | with_reducible refine oa_isiS ?_
  | with_reducible refine oa_abs ?_
  | with_reducible refine oa_max ?_
  | with_reducible refine oa_min ?_
  | with_reducible refine oa_len ?_
  | with_reducible refine oa_lenL ?_
  | with_reducible refine oa_intB ?_
  | refine ⟨[_, _], rfl, Nat.le_of_ble_eq_true rfl, ?_⟩
  | refine ⟨[_, _, _], rfl, Nat.le_of_ble_eq_true rfl, ?_⟩
  | refine ⟨[_, _, _, _], rfl, Nat.le_of_ble_eq_true rfl, ?_⟩
  | refine ⟨[_], rfl, Nat.le_of_ble_eq_true rfl, ?_⟩
  | refine ⟨[], rfl, Nat.le_of_ble_eq_true rfl, ?_⟩)

local macro_rules | `(tactic| walk_at "k2") => `(tactic| first
  | with_reducible refine ex_b ?_
  | refine both_t rfl ?_
  | refine both_f rfl ?_
  | refine both_f2 rfl ?_
  | refine both_t2 rfl ?_
  | with_reducible refine cs_is_integer fun _ _ => ?_
  | with_reducible refine cs_is_whole fun _ _ => ?_
  | refine oa_len ?_
  | refine oa_lenL ?_
  | refine o2_ixT rfl ?_
  | refine o2_ixL rfl ?_
  | refine o2_in rfl rfl ?_
  | refine o2_eqI ?_
  | refine o2_neI ?_
  | refine o2_eqS (by decide +kernel) (by decide +kernel) ?_
  | refine o2_neS (by decide +kernel) (by decide +kernel) ?_
  | refine o2_eqD (Deed.shp _).ok rfl ?_
  | refine both_t (by decide +kernel) ?_
  | refine both_f (by decide +kernel) ?_
  | refine both_f2 (by decide +kernel) ?_
  | refine both_t2 (by decide +kernel) ?_
  | with_reducible refine w_slT ?_
  | with_reducible refine wg_name ?_
  | with_reducible refine wgs_cons ?_
  | with_reducible refine wgs_nil ?_
  | refine o2_ii ?_
  | refine o2_ib ?_
  | refine o2_isN ?_
  | refine o2_notN ?_
  | refine wg_tup rfl ?_
  | refine wgs_cons ?_
  | refine wgs_nil ?_
  | with_reducible refine w_slL ?_
  | with_reducible refine wo_no ?_
  | with_reducible refine wo_some ?_
  | with_reducible refine ⟨_, _, rfl, rfl, ?_⟩
  | with_reducible refine ⟨_, rfl, ?_⟩
  | with_reducible refine ⟨_, _, rfl, ?_⟩
  | with_reducible refine ⟨_, _, _, rfl, ?_⟩)
local macro_rules | `(tactic| walk_at "same") => `(tactic| ((repeat (first | exact Same.refl _ | assumption | refine Same.trans ?_ (by assumption)))))

local macro_rules | `(tactic| walk_at "k3") => `(tactic| first
  | walk_at "k2"
  | refine both_t (by first | (simp; done) | (simp; omega)) ?_
  | refine both_f (by first | (simp; done) | (simp; omega)) ?_
  | refine both_f2 (by first | (simp; done) | (simp; omega)) ?_
  | refine both_t2 (by first | (simp; done) | (simp; omega)) ?_
  | refine go_next ?_
  | refine go_drop ?_)
structure CAll (K : PySem.W.Frag) (mg : Str → Option Value) (ca : EC → Addr) : Prop where
  m : ∀ x : EC, mg x.nm = some (.ref (ca x))
  k : ∀ (e : EK) (x : EC), PySem.W.kitOne K (.ref (ca e.c)) (.ref (ca x)) = some (e.c.eq x)
  c : ∀ e : EK, ExcC K (ca e.c)
  f : ∀ e : EK, XfC K (ca e.c)
  n : ∀ e : EK, PySem.W.findIn K (.ref (ca e.c)) e.fld = some none
theorem pe_xkK {X : Cx} {e : Expr} {te : TE} {pos : Pos} {n : Str} (K' : PySem.W.Frag) (hK : X.K = K') (he : PE X e te) (hb : attributeBase e n X.env (eval e X.env) = eval e X.env := by rfl) : PE X (.Attribute e n pos) (tXk K' n te) := by
  subst hK
  exact pe_xk he hb
theorem Kept.off {H2 H3 : Hp} {l a D : Addr} {f : Str} {w : V} {ys : List V} (h : Kept H2 a D f w) (hl : H2 l = some (.lst ys)) (k : ∀ b o, b ≠ l → H2 b = some o → H3 b = some o) : Kept H3 a D f w := by
  obtain ⟨oe, d, h1, h2, h3, h4, h5⟩ := h
  refine ⟨oe, d, k _ _ (fun z => ?_) h1, h2, h3, h4, k _ _ (fun z => ?_) h5⟩
  · rw [z, hl] at h1
    unfold exK at h1
    cases h1
  · rw [z, hl] at h5
    cases h5
mutual
theorem off_dp {H2 H3 : Hp} {l : Addr} {ys : List V} (hl : H2 l = some (.lst ys)) (k : ∀ b o, b ≠ l → H2 b = some o → H3 b = some o) : ∀ (d : PyData) (v : V), noL d = true → Dq H2 v d → Dq H3 v d
  | .none, _, _, h => by cases h; exact .non
  | .bool _, _, _, h => by cases h; exact .bl _
  | .int _, _, _, h => by cases h; exact .int _
  | .str _, _, _, h => by cases h; exact .str _
  | .list ds, _, n, _ => by simp [noL] at n
  | .tuple ds, _, n, h => by
    cases h with
    | tup a b => exact .tup (k _ _ (ne_of a hl (by intro z; cases z)) a) (off_dps hl k ds _ (by simpa [noL] using n) b)
  | .dict _, _, _, h => by cases h
theorem off_dps {H2 H3 : Hp} {l : Addr} {ys : List V} (hl : H2 l = some (.lst ys)) (k : ∀ b o, b ≠ l → H2 b = some o → H3 b = some o) : ∀ (ds : List PyData) (vs : List V), noLs ds = true → DqAll H2 vs ds → DqAll H3 vs ds
  | [], _, _, h => by cases h; exact .nil
  | d :: ds, _, n, h => by
    have n' : noL d = true ∧ noLs ds = true := by simpa [noLs] using n
    cases h with
    | cons a b => exact .cons (off_dp hl k d _ n'.1 a) (off_dps hl k ds _ n'.2 b)
end
theorem Fr.off {M : List Addr} {H H2 H3 : Hp} {l : Addr} (s : Fr M H H2) (n : H l = none) (k : ∀ b o, b ≠ l → H2 b = some o → H3 b = some o) (k2 : ∀ b, H3 b = none → H2 b = none) : Fr M H H3 :=
  ⟨fun b o e z => k b o (ne_of_none e n) (s.kp b o e z), fun b e => s.fr b (k2 b e)⟩
section
variable {Γ : List Gh} {ρ : Rho} {H : Hp} {R : PX} {te tl : TE} {tt : TT} {K : PySem.W.Frag} {g : TG} {vs : List Nat}
/-- a list plus a list, the new one told apart -/
theorem o2_catLO {xs ys : List PyData} (hz : xs.length + ys.length ≤ 100000) (k : ∀ p zs H2, Same H H2 → H p = none → H2 p = some (.lst zs) → DqAll H2 zs (xs ++ ys) → R (.o (.ref p)) H2) : O2 rCat (.d (.list xs)) (.d (.list ys)) H R := fun v u H' e d1 d2 Q q => by
  cases d1 with
  | @lst a vs _ ha h1 =>
    cases d2 with
    | @lst b us _ hb h2 =>
      refine ⟨a, b, vs, us, rfl, rfl, ha, hb, by rw [h1.len, h2.len]; exact Nat.le_trans hz (by decide), fun p hp => ?_⟩
      have sm : Same H' (upd H' p (.lst (vs ++ us))) := Same.new hp
      exact q _ _ _ _ (k p (vs ++ us) _ (e.trans sm) (e.free hp) upd_same ((ft_dps sm.ftq _ _ h1).append (ft_dps sm.ftq _ _ h2))) (Same.refl _) sm.ftq rfl
/-- [f(x) for x in l if p(x)], the new list told apart -/
theorem w_lcLfm (p : PyData → Bool) (f : PyData → PyData) (h : W Γ tl ρ H fun x H1 => ∃ ds, x = .d (.list ds) ∧ ds.length ≤ 50000 ∧ (∀ d ∈ ds, ∀ H2, Same H1 H2 → TW Γ g vs (.d d) ρ H2 fun ρ3 H3 => WT Γ tt ρ3 H3 fun b H4 => b = p d ∧ Same H1 H4 ∧ (b = true → W Γ te ρ3 H4 fun y H5 => y = .d (f d) ∧ noL (f d) = true ∧ Same H1 H5)) ∧
    ∀ D us H2, Same H1 H2 → H1 D = none → H2 D = some (.lst us) → DqAll H2 us ((ds.filter p).map f) → R (.o (.ref D)) H2) : W Γ (tLc (iList K tl) g tt te vs) ρ H R := fun σ H' e s Q q =>
  h σ H' e s _ fun x v H1 H1' k e1 f1 d1 => by
    obtain ⟨ds, rfl, hl, hs, hd⟩ := k
    cases d1 with
    | @lst a xs _ ha hds =>
      refine ⟨a, rfl, ⟨xs, SqL.of ha⟩, fun D hD => ?_⟩
      have key := lc_any (tt := tt) (te := te) (g := g) (vs := vs) (Q := fun v H => v = .ref D → Q v H) (walk_list (K := K) (a := a) (xs := xs)) (ghL a xs ds) (atD ds) (fun H h => SqL.of h.1) (fun i Hc x Hc' hi p y => by
          obtain ⟨rfl, y⟩ := y
          obtain ⟨d, h1, h2⟩ := p.2.getV y
          rw [atD_of h1]
          exact ⟨Same.refl _, h2⟩) (by rw [hds.len]; exact hl) (fun i acc H2 => Same H1 H2 ∧ acc = ((ds.take i).filter p).map f) e1 (s.ft f1) ⟨ha, hds⟩ ⟨Same.refl _, by simp⟩ (fun i acc H2 D o n j => ⟨Same.offnew j.1 n, j.2⟩)
        (fun i acc H2 hi hla j => by
          have hi' : i < ds.length := by rw [← hds.len]; exact hi
          have hg := List.getElem?_eq_getElem hi'
          rw [atD_of hg]
          intro v σ H' e' s dd Q q
          refine hs _ (List.getElem_mem hi') H2 j.1 v σ H' e' s dd Q fun ρ1 H3 σ1 H'' k => q ρ1 H3 σ1 H'' (k.imp fun b H4 k => ⟨fun hb => ?_, fun hb => ?_⟩)
          · obtain ⟨e2, e3, k⟩ := k
            refine (k hb).imp fun y H5 z => ⟨_, z.1, z.2.1, z.2.2, ?_⟩
            rw [take_more hg, List.filter_append, List.map_append, ← j.2, List.filter_cons_of_pos (by rw [← e2]; exact hb)]
            rfl
          · obtain ⟨e2, e3, k⟩ := k
            refine ⟨e3, ?_⟩
            rw [take_more hg, List.filter_append, List.map_append, ← j.2, List.filter_cons_of_neg (by rw [← e2, hb]; simp)]
            simp)
        (fun acc H2 H'' D' hla j e2 f2 dq z => by
          obtain rfl : D' = D := by cases z; rfl
          have ea : acc = (ds.filter p).map f := by
            rw [j.2, hds.len, List.take_length]
          rw [ea] at dq
          cases dq with
          | @lst _ us _ hD2 hdd =>
            exact q _ _ H'' H'' (hd D' us H'' (j.1.trans e2) (e1.free hD) hD2 hdd) (Same.refl _) (f1.trans f2) rfl) D hD
      obtain ⟨W, h0, hst⟩ := key
      exact ⟨W, h0, fun i m H w => (hst i m H w).imp (fun z => ⟨z.1, z.2 rfl⟩) id⟩
end
def S__law_fault (ca : EC → Addr) : Spc where
  ι := Addr × EK × V × PyData
  args i := [.o (.ref i.1)]
  pre i H := Kept H i.1 (ca i.2.1.c) i.2.1.fld i.2.2.1 ∧ Dq H i.2.2.1 i.2.2.2 ∧ noL i.2.2.2 = true
  mod _ := []
  post i x _ := x = .d (.tuple [.str i.2.1.word, i.2.2.2])
def isT2 : PyData → Bool
  | .tuple [_, .bool b] => b
  | _ => false
def fst2 (v : PyData) : PyData → PyData
  | .tuple [a, _] => .tuple [a, v]
  | d => d
section
variable {ca : EC → Addr} {P : Program} {w : World} {K : PySem.W.Frag} {mg : Str → Option Value} {base : Heap} {f C CRd CRn CNb CLf : Addr} {fd : FuncData} (G : GF mg) (Pf : PF P w K mg base C CRd CRn CNb CLf)

include G
omit G in
theorem sc__law_fault : FnScope ["_law_fault_so", "_law_some", "_law_found", "_law_word", "_law_is_so_here"] ["_law_fault_so"] (defScope (top 63)) := ⟨rfl, rfl, rfl, by decide +kernel, rfl, by decide +kernel, by decide +kernel⟩
theorem ok__law_fault  (CA : CAll K mg ca) (F : FnP K "_law_fault" "_law_fault" (top 63) [] f fd) : FnOk P w K mg base (L2.CX P w) 1 f fd ["_law_fault_so"] (sp (S__law_fault ca)) := by
  have sc := sc__law_fault
  refine ok_pure F sc (fun _ => rfl) fun cdv A outer s H E hr => ⟨_, pss_cons (ps_set (i := 1) sc.nd rfl (.inl rfl) (pe_lst (pa_cons (pe_tup (pa_cons (pe_str) (pa_cons (pe_callB call_isK rfl (G.gfree "isinstance" (by decide +kernel)) (by decide +kernel) (pa_cons (pe_var (i := 0) rfl (.inr (.inl rfl))) (pa_cons (pe_glob (v := .ref (ca .world)) rfl (CA.m .world) rfl) (pa_nil)))) (pa_nil)))) (pa_cons (pe_tup (pa_cons (pe_str) (pa_cons (pe_callB call_isK rfl (G.gfree "isinstance" (by decide +kernel)) (by decide +kernel) (pa_cons (pe_var (i := 0) rfl (.inr (.inl rfl))) (pa_cons (pe_glob (v := .ref (ca .start)) rfl (CA.m .start) rfl) (pa_nil)))) (pa_nil)))) (pa_nil))))) (pss_cons (ps_set (i := 1) sc.nd rfl (.inl rfl) (pe_op op_cat (pe_var (i := 1) rfl (.inl rfl)) (pe_lst (pa_cons (pe_tup (pa_cons (pe_str) (pa_cons (pe_callB call_isK rfl (G.gfree "isinstance" (by decide +kernel)) (by decide +kernel) (pa_cons (pe_var (i := 0) rfl (.inr (.inl rfl))) (pa_cons (pe_glob (v := .ref (ca .bound)) rfl (CA.m .bound) rfl) (pa_nil)))) (pa_nil)))) (pa_cons (pe_tup (pa_cons (pe_str) (pa_cons (pe_callB call_isK rfl (G.gfree "isinstance" (by decide +kernel)) (by decide +kernel) (pa_cons (pe_var (i := 0) rfl (.inr (.inl rfl))) (pa_cons (pe_glob (v := .ref (ca .stand)) rfl (CA.m .stand) rfl) (pa_nil)))) (pa_nil)))) (pa_nil)))))) (pss_cons (ps_set (i := 1) sc.nd rfl (.inl rfl) (pe_op op_cat (pe_var (i := 1) rfl (.inl rfl)) (pe_lst (pa_cons (pe_tup (pa_cons (pe_str) (pa_cons (pe_callB call_isK rfl (G.gfree "isinstance" (by decide +kernel)) (by decide +kernel) (pa_cons (pe_var (i := 0) rfl (.inr (.inl rfl))) (pa_cons (pe_glob (v := .ref (ca .round)) rfl (CA.m .round) rfl) (pa_nil)))) (pa_nil)))) (pa_cons (pe_tup (pa_cons (pe_str) (pa_cons (pe_callB call_isK rfl (G.gfree "isinstance" (by decide +kernel)) (by decide +kernel) (pa_cons (pe_var (i := 0) rfl (.inr (.inl rfl))) (pa_cons (pe_glob (v := .ref (ca .ranges)) rfl (CA.m .ranges) rfl) (pa_nil)))) (pa_nil)))) (pa_nil)))))) (pss_cons (ps_expr (pe_bm PySem.F.plainAttrs_list PySem.F.slot_list_append PySem.F.type_list_append mt_append (pe_var (i := 1) rfl (.inl rfl)) (pa_cons (pe_tup (pa_cons (pe_str) (pa_cons (pe_callB call_isK rfl (G.gfree "isinstance" (by decide +kernel)) (by decide +kernel) (pa_cons (pe_var (i := 0) rfl (.inr (.inl rfl))) (pa_cons (pe_glob (v := .ref (ca .number)) rfl (CA.m .number) rfl) (pa_nil)))) (pa_nil)))) (pa_nil)))) (pss_cons (ps_setLc (i := 2) (own := [("_law_word", 3), ("_law_is_so_here", 4)]) (g := gTup _ 2 (gCons (gName 3) (gCons (gName 4) (gNil)))) rfl sc.nd rfl rfl (sw_true rfl rfl rfl (by decide +kernel)) (pi_list (pe_var (i := 1) rfl (.inl rfl))) (blkOk_by (own := [("_law_word", 3), ("_law_is_so_here", 4)]) (N := ["_law_fault_so", "_law_some", "_law_found", "_law_word", "_law_is_so_here"]) (sc := defScope (top 63)) (by decide +kernel)) (fun _ _ _ _ _ => pg_tup rfl (pgs_cons (pg_name (i := 3) sc.nd rfl (.inl rfl)) (pgs_cons (pg_name (i := 4) sc.nd rfl (.inl rfl)) (pgs_nil)))) (fun _ _ _ _ _ => pts_one (pt_val (pe_var (i := 4) rfl (.inl rfl)))) (fun _ _ _ _ _ => pe_tup (pa_cons (pe_var (i := 3) rfl (.inl rfl)) (pa_cons (pe_xkK K rfl (pe_var (i := 0) rfl (.inr (.inl rfl)))) (pa_nil))))) (pss_cons (ps_if (pt_val (pe_callB call_isK rfl (G.gfree "isinstance" (by decide +kernel)) (by decide +kernel) (pa_cons (pe_var (i := 0) rfl (.inr (.inl rfl))) (pa_cons (pe_glob (v := .ref (ca .rule)) rfl (CA.m .rule) rfl) (pa_nil))))) (pss_one (ps_expr (pe_bm PySem.F.plainAttrs_list PySem.F.slot_list_append PySem.F.type_list_append mt_append (pe_var (i := 2) rfl (.inl rfl)) (pa_cons (pe_tup (pa_cons (pe_str) (pa_cons (pe_xkK K rfl (pe_var (i := 0) rfl (.inr (.inl rfl)))) (pa_nil)))) (pa_nil))))) (pss_nil)) (pss_cons (ps_if (pt_val (pe_callB call_isK rfl (G.gfree "isinstance" (by decide +kernel)) (by decide +kernel) (pa_cons (pe_var (i := 0) rfl (.inr (.inl rfl))) (pa_cons (pe_glob (v := .ref (ca .run)) rfl (CA.m .run) rfl) (pa_nil))))) (pss_one (ps_expr (pe_bm PySem.F.plainAttrs_list PySem.F.slot_list_append PySem.F.type_list_append mt_append (pe_var (i := 2) rfl (.inl rfl)) (pa_cons (pe_tup (pa_cons (pe_str) (pa_cons (pe_xkK K rfl (pe_var (i := 0) rfl (.inr (.inl rfl)))) (pa_nil)))) (pa_nil))))) (pss_nil)) (pss_cons (ps_if (pt_val (pe_callB call_isK rfl (G.gfree "isinstance" (by decide +kernel)) (by decide +kernel) (pa_cons (pe_var (i := 0) rfl (.inr (.inl rfl))) (pa_cons (pe_glob (v := .ref (ca .paper)) rfl (CA.m .paper) rfl) (pa_nil))))) (pss_one (ps_expr (pe_bm PySem.F.plainAttrs_list PySem.F.slot_list_append PySem.F.type_list_append mt_append (pe_var (i := 2) rfl (.inl rfl)) (pa_cons (pe_tup (pa_cons (pe_str) (pa_cons (pe_xkK K rfl (pe_var (i := 0) rfl (.inr (.inl rfl)))) (pa_nil)))) (pa_nil))))) (pss_nil)) (pss_cons (ps_if (pt_val (pe_callB call_isK rfl (G.gfree "isinstance" (by decide +kernel)) (by decide +kernel) (pa_cons (pe_var (i := 0) rfl (.inr (.inl rfl))) (pa_cons (pe_glob (v := .ref (ca .row)) rfl (CA.m .row) rfl) (pa_nil))))) (pss_one (ps_expr (pe_bm PySem.F.plainAttrs_list PySem.F.slot_list_append PySem.F.type_list_append mt_append (pe_var (i := 2) rfl (.inl rfl)) (pa_cons (pe_tup (pa_cons (pe_str) (pa_cons (pe_xkK K rfl (pe_var (i := 0) rfl (.inr (.inl rfl)))) (pa_nil)))) (pa_nil))))) (pss_nil)) (pss_cons (ps_if (pt_val (pe_callB call_isK rfl (G.gfree "isinstance" (by decide +kernel)) (by decide +kernel) (pa_cons (pe_var (i := 0) rfl (.inr (.inl rfl))) (pa_cons (pe_glob (v := .ref (ca .text)) rfl (CA.m .text) rfl) (pa_nil))))) (pss_one (ps_expr (pe_bm PySem.F.plainAttrs_list PySem.F.slot_list_append PySem.F.type_list_append mt_append (pe_var (i := 2) rfl (.inl rfl)) (pa_cons (pe_tup (pa_cons (pe_str) (pa_cons (pe_xkK K rfl (pe_var (i := 0) rfl (.inr (.inl rfl)))) (pa_nil)))) (pa_nil))))) (pss_nil)) (pss_cons (ps_if (pt_val (pe_callB call_isK rfl (G.gfree "isinstance" (by decide +kernel)) (by decide +kernel) (pa_cons (pe_var (i := 0) rfl (.inr (.inl rfl))) (pa_cons (pe_glob (v := .ref (ca .great)) rfl (CA.m .great) rfl) (pa_nil))))) (pss_one (ps_expr (pe_bm PySem.F.plainAttrs_list PySem.F.slot_list_append PySem.F.type_list_append mt_append (pe_var (i := 2) rfl (.inl rfl)) (pa_cons (pe_tup (pa_cons (pe_str) (pa_cons (pe_xkK K rfl (pe_var (i := 0) rfl (.inr (.inl rfl)))) (pa_nil)))) (pa_nil))))) (pss_nil)) (pss_cons (ps_if (pt_val (pe_callB call_isK rfl (G.gfree "isinstance" (by decide +kernel)) (by decide +kernel) (pa_cons (pe_var (i := 0) rfl (.inr (.inl rfl))) (pa_cons (pe_glob (v := .ref (ca .left)) rfl (CA.m .left) rfl) (pa_nil))))) (pss_one (ps_expr (pe_bm PySem.F.plainAttrs_list PySem.F.slot_list_append PySem.F.type_list_append mt_append (pe_var (i := 2) rfl (.inl rfl)) (pa_cons (pe_tup (pa_cons (pe_str) (pa_cons (pe_xkK K rfl (pe_var (i := 0) rfl (.inr (.inl rfl)))) (pa_nil)))) (pa_nil))))) (pss_nil)) (pss_one (ps_ret (pe_ifExp (pt_cmpR (op_eqD hr.units) (pe_callB call_len_seq rfl (G.gfree "len" (by decide +kernel)) (by decide +kernel) (pa_cons (pe_var (i := 2) rfl (.inl rfl)) (pa_nil))) (pe_int) (nomark _)) (pe_ix ix_seq (pe_var (i := 2) rfl (.inl rfl)) (pe_int) (fun _ _ => rfl)) (pe_tup (pa_cons (pe_str) (pa_cons (pe_callB call_len_seq rfl (G.gfree "len" (by decide +kernel)) (by decide +kernel) (pa_cons (pe_var (i := 2) rfl (.inl rfl)) (pa_nil))) (pa_nil)))))))))))))))))), fun (i : Addr × EK × V × PyData) hp => ?_⟩
  obtain ⟨a, e, w0, v⟩ := i
  obtain ⟨hk, dw, nv⟩ := (show Kept H a (ca e.c) e.fld w0 ∧ Dq H w0 v ∧ noL v = true from hp)
  refine go_seq (go_set (w_lst (wa_cons (w_tup (wa_cons (w_str (wa_cons (w_cb (wa_cons (w_var rfl (wa_cons (w_o (wa_nil (oa_isK hk (CA.c e) (CA.k e .world) (wa_nil ⟨[_, _], rfl, Nat.le_of_ble_eq_true rfl, (wa_cons (w_tup (wa_cons (w_str (wa_cons (w_cb (wa_cons (w_var rfl (wa_cons (w_o (wa_nil (oa_isK hk (CA.c e) (CA.k e .start) (wa_nil ⟨[_, _], rfl, Nat.le_of_ble_eq_true rfl, wa_nil ⟨[_, _], rfl, Nat.le_of_ble_eq_true rfl, ?_⟩⟩)))))))))))))⟩)))))))))))))))
  refine go_seq (go_set (w_op (w_var rfl (w_lst (wa_cons (w_tup (wa_cons (w_str (wa_cons (w_cb (wa_cons (w_var rfl (wa_cons (w_o (wa_nil (oa_isK hk (CA.c e) (CA.k e .bound) (wa_nil ⟨[_, _], rfl, Nat.le_of_ble_eq_true rfl, (wa_cons (w_tup (wa_cons (w_str (wa_cons (w_cb (wa_cons (w_var rfl (wa_cons (w_o (wa_nil (oa_isK hk (CA.c e) (CA.k e .stand) (wa_nil ⟨[_, _], rfl, Nat.le_of_ble_eq_true rfl, wa_nil ⟨[_, _], rfl, Nat.le_of_ble_eq_true rfl, ?_⟩⟩)))))))))))))⟩)))))))))))))))))
  refine o2_catL (Nat.le_of_ble_eq_true rfl) ?_
  refine go_seq (go_set (w_op (w_var rfl (w_lst (wa_cons (w_tup (wa_cons (w_str (wa_cons (w_cb (wa_cons (w_var rfl (wa_cons (w_o (wa_nil (oa_isK hk (CA.c e) (CA.k e .round) (wa_nil ⟨[_, _], rfl, Nat.le_of_ble_eq_true rfl, (wa_cons (w_tup (wa_cons (w_str (wa_cons (w_cb (wa_cons (w_var rfl (wa_cons (w_o (wa_nil (oa_isK hk (CA.c e) (CA.k e .ranges) (wa_nil ⟨[_, _], rfl, Nat.le_of_ble_eq_true rfl, wa_nil ⟨[_, _], rfl, Nat.le_of_ble_eq_true rfl, ?_⟩⟩)))))))))))))⟩)))))))))))))))))
  refine o2_catLO (Nat.le_of_ble_eq_true rfl) fun l zs H1 e1 nl hl hd => ?_
  have hk := hk.same e1
  have dw := ft_dp e1.ftq _ _ dw
  refine go_seq (go_appendD (w_var rfl ⟨l, zs, rfl, hl, hd, rfl, wa_cons (w_tup (wa_cons (w_str (wa_cons (w_cb (wa_cons (w_var rfl (wa_cons (w_o (wa_nil (oa_isK hk (CA.c e) (CA.k e .number) (wa_nil ⟨[_, _], rfl, Nat.le_of_ble_eq_true rfl, ?_⟩))))))))))))⟩))
  refine wa_nil ⟨_, rfl, rfl, Same.refl _, rfl, Nat.le_of_ble_eq_true rfl, fun H2 us k1 k2 hl2 hd2 => ?_⟩
  have f2 : Fr [] H H2 := Fr.off (M := []) e1.frq nl k1 k2
  have dw := off_dp hl k1 _ _ nv dw
  have hk := hk.off hl k1
  refine go_seq (go_set (w_lcLfm isT2 (fst2 v) (w_varL rfl hl2 hd2 ⟨_, rfl, Nat.le_of_ble_eq_true rfl, fun d hdm H3 e3 => ?_, fun D ws H3 e3 nD hD hdD => ?_⟩)))
  · have hkk := hk.same e3
    have dww := ft_dp e3.ftq _ _ dw
    have key : ∀ (word : Str) (x : EC), (e.c.eq x = true → e.fld = "given") → TW [] (gTup K 2 (gCons (gName 3) (gCons (gName 4) gNil))) [3, 4] (.d (.tuple [.str word, .bool (e.c.eq x)])) [some (.o (.ref a)), some (.o (.ref l)), none, none, none] H3 fun ρ3 H3 => WT [] (tB (tVar 4)) ρ3 H3 fun b H4 => b = isT2 (.tuple [.str word, .bool (e.c.eq x)]) ∧ Same H2 H4 ∧ (b = true → W [] (tTup (tCons (tVar 3) (tCons (tXk K "given" (tVar 0)) tNil))) ρ3 H4 fun y H5 => y = .d (fst2 v (.tuple [.str word, .bool (e.c.eq x)])) ∧ noL (fst2 v (.tuple [.str word, .bool (e.c.eq x)])) = true ∧ Same H2 H5) := by
      intro word x hx
      refine tw2 (by decide) (wt_B (w_var rfl ⟨_, rfl, rfl, e3, fun hb => ?_⟩))
      have hf := hx hb
      have h1 := CA.n e
      have h2 := hkk
      rw [hf] at h1 h2
      refine w_tup (wa_cons (w_var rfl (wa_cons (w_xk (w_var rfl ⟨a, _, w0, .d v, rfl, h2, CA.f e, h1, dww, ?_⟩)))))
      refine wa_nil ⟨[_, _], rfl, Nat.le_of_ble_eq_true rfl, rfl, ?_, e3⟩
      simp [fst2, noL, noLs, nv]
    rcases List.mem_cons.mp hdm with rfl | hdm
    · exact key _ .world (by cases e <;> intro z <;> cases z)
    rcases List.mem_cons.mp hdm with rfl | hdm
    · exact key _ .start (by cases e <;> intro z <;> cases z)
    rcases List.mem_cons.mp hdm with rfl | hdm
    · exact key _ .bound (by cases e <;> intro z <;> cases z)
    rcases List.mem_cons.mp hdm with rfl | hdm
    · exact key _ .stand (by cases e <;> intro z <;> cases z)
    rcases List.mem_cons.mp hdm with rfl | hdm
    · exact key _ .round (by cases e <;> intro z <;> first | rfl | cases z)
    rcases List.mem_cons.mp hdm with rfl | hdm
    · exact key _ .ranges (by cases e <;> intro z <;> cases z)
    rcases List.mem_cons.mp hdm with rfl | hdm
    · exact key _ .number (by cases e <;> intro z <;> first | rfl | cases z)
    cases hdm
  have hk := hk.same e3
  have dw := ft_dp e3.ftq _ _ dw
  have f3 := f2.trans e3.frq
  have nD : H D = none := f2.fr _ nD
  cases e
  · have hdD : DqAll H3 ws [.tuple [.str "round", v]] := hdD
    refine go_seq (go_if (wt_B (w_cb (wa_cons (w_var rfl (wa_cons (w_o (wa_nil (oa_isK hk (CA.c .rd) (CA.k .rd .rule) ⟨_, rfl, both_f rfl (go_next ?_)⟩)))))))))
    refine go_seq (go_if (wt_B (w_cb (wa_cons (w_var rfl (wa_cons (w_o (wa_nil (oa_isK hk (CA.c .rd) (CA.k .rd .run) ⟨_, rfl, both_f rfl (go_next ?_)⟩)))))))))
    refine go_seq (go_if (wt_B (w_cb (wa_cons (w_var rfl (wa_cons (w_o (wa_nil (oa_isK hk (CA.c .rd) (CA.k .rd .paper) ⟨_, rfl, both_f rfl (go_next ?_)⟩)))))))))
    refine go_seq (go_if (wt_B (w_cb (wa_cons (w_var rfl (wa_cons (w_o (wa_nil (oa_isK hk (CA.c .rd) (CA.k .rd .row) ⟨_, rfl, both_f rfl (go_next ?_)⟩)))))))))
    refine go_seq (go_if (wt_B (w_cb (wa_cons (w_var rfl (wa_cons (w_o (wa_nil (oa_isK hk (CA.c .rd) (CA.k .rd .text) ⟨_, rfl, both_f rfl (go_next ?_)⟩)))))))))
    refine go_seq (go_if (wt_B (w_cb (wa_cons (w_var rfl (wa_cons (w_o (wa_nil (oa_isK hk (CA.c .rd) (CA.k .rd .great) ⟨_, rfl, both_f rfl (go_next ?_)⟩)))))))))
    refine go_seq (go_if (wt_B (w_cb (wa_cons (w_var rfl (wa_cons (w_o (wa_nil (oa_isK hk (CA.c .rd) (CA.k .rd .left) ⟨_, rfl, both_f rfl (go_next ?_)⟩)))))))))
    refine go_ret (w_if (wt_test (w_op (w_cb (wa_cons (w_var rfl (wa_nil (oa_lenO hD ?_))))))))
    rw [hdD.len]
    refine w_int (o2_eqI ⟨_, rfl, both_t rfl ?_⟩)
    refine w_op (w_varL rfl hD hdD (w_int (o2_ixL rfl ?_)))
    exact rt_fr f3 fun _ _ => rfl
  · have hdD : DqAll H3 ws [] := hdD
    refine go_seq (go_if (wt_B (w_cb (wa_cons (w_var rfl (wa_cons (w_o (wa_nil (oa_isK hk (CA.c .rn) (CA.k .rn .rule) ⟨_, rfl, both_f rfl (go_next ?_)⟩)))))))))
    refine go_seq (go_if (wt_B (w_cb (wa_cons (w_var rfl (wa_cons (w_o (wa_nil (oa_isK hk (CA.c .rn) (CA.k .rn .run) ⟨_, rfl, both_t rfl ?_⟩)))))))))
    refine go_appendD (w_var rfl ⟨D, ws, rfl, hD, hdD, rfl, wa_cons (w_tup (wa_cons (w_str (wa_cons (w_xk (w_var rfl ⟨a, _, w0, .d v, rfl, hk, CA.f .rn, CA.n .rn, dw, wa_nil ⟨[_, _], rfl, Nat.le_of_ble_eq_true rfl, ?_⟩⟩))))))⟩)
    refine wa_nil ⟨_, rfl, by simp [noL, noLs, nv], Same.refl _, rfl, Nat.le_of_ble_eq_true rfl, fun H4 us4 k3 k4 hD4 hdD4 => ?_⟩
    have f3 : Fr [] H H4 := Fr.off f3 nD k3 k4
    have hk := hk.off hD k3
    have hD := hD4
    have hdD : DqAll H4 us4 [.tuple [.str "run", v]] := hdD4
    refine go_seq (go_if (wt_B (w_cb (wa_cons (w_var rfl (wa_cons (w_o (wa_nil (oa_isK hk (CA.c .rn) (CA.k .rn .paper) ⟨_, rfl, both_f rfl (go_next ?_)⟩)))))))))
    refine go_seq (go_if (wt_B (w_cb (wa_cons (w_var rfl (wa_cons (w_o (wa_nil (oa_isK hk (CA.c .rn) (CA.k .rn .row) ⟨_, rfl, both_f rfl (go_next ?_)⟩)))))))))
    refine go_seq (go_if (wt_B (w_cb (wa_cons (w_var rfl (wa_cons (w_o (wa_nil (oa_isK hk (CA.c .rn) (CA.k .rn .text) ⟨_, rfl, both_f rfl (go_next ?_)⟩)))))))))
    refine go_seq (go_if (wt_B (w_cb (wa_cons (w_var rfl (wa_cons (w_o (wa_nil (oa_isK hk (CA.c .rn) (CA.k .rn .great) ⟨_, rfl, both_f rfl (go_next ?_)⟩)))))))))
    refine go_seq (go_if (wt_B (w_cb (wa_cons (w_var rfl (wa_cons (w_o (wa_nil (oa_isK hk (CA.c .rn) (CA.k .rn .left) ⟨_, rfl, both_f rfl (go_next ?_)⟩)))))))))
    refine go_ret (w_if (wt_test (w_op (w_cb (wa_cons (w_var rfl (wa_nil (oa_lenO hD ?_))))))))
    rw [hdD.len]
    refine w_int (o2_eqI ⟨_, rfl, both_t rfl ?_⟩)
    refine w_op (w_varL rfl hD hdD (w_int (o2_ixL rfl ?_)))
    exact rt_fr f3 fun _ _ => rfl
  · have hdD : DqAll H3 ws [.tuple [.str "number", v]] := hdD
    refine go_seq (go_if (wt_B (w_cb (wa_cons (w_var rfl (wa_cons (w_o (wa_nil (oa_isK hk (CA.c .nb) (CA.k .nb .rule) ⟨_, rfl, both_f rfl (go_next ?_)⟩)))))))))
    refine go_seq (go_if (wt_B (w_cb (wa_cons (w_var rfl (wa_cons (w_o (wa_nil (oa_isK hk (CA.c .nb) (CA.k .nb .run) ⟨_, rfl, both_f rfl (go_next ?_)⟩)))))))))
    refine go_seq (go_if (wt_B (w_cb (wa_cons (w_var rfl (wa_cons (w_o (wa_nil (oa_isK hk (CA.c .nb) (CA.k .nb .paper) ⟨_, rfl, both_f rfl (go_next ?_)⟩)))))))))
    refine go_seq (go_if (wt_B (w_cb (wa_cons (w_var rfl (wa_cons (w_o (wa_nil (oa_isK hk (CA.c .nb) (CA.k .nb .row) ⟨_, rfl, both_f rfl (go_next ?_)⟩)))))))))
    refine go_seq (go_if (wt_B (w_cb (wa_cons (w_var rfl (wa_cons (w_o (wa_nil (oa_isK hk (CA.c .nb) (CA.k .nb .text) ⟨_, rfl, both_f rfl (go_next ?_)⟩)))))))))
    refine go_seq (go_if (wt_B (w_cb (wa_cons (w_var rfl (wa_cons (w_o (wa_nil (oa_isK hk (CA.c .nb) (CA.k .nb .great) ⟨_, rfl, both_f rfl (go_next ?_)⟩)))))))))
    refine go_seq (go_if (wt_B (w_cb (wa_cons (w_var rfl (wa_cons (w_o (wa_nil (oa_isK hk (CA.c .nb) (CA.k .nb .left) ⟨_, rfl, both_f rfl (go_next ?_)⟩)))))))))
    refine go_ret (w_if (wt_test (w_op (w_cb (wa_cons (w_var rfl (wa_nil (oa_lenO hD ?_))))))))
    rw [hdD.len]
    refine w_int (o2_eqI ⟨_, rfl, both_t rfl ?_⟩)
    refine w_op (w_varL rfl hD hdD (w_int (o2_ixL rfl ?_)))
    exact rt_fr f3 fun _ _ => rfl
  · have hdD : DqAll H3 ws [] := hdD
    refine go_seq (go_if (wt_B (w_cb (wa_cons (w_var rfl (wa_cons (w_o (wa_nil (oa_isK hk (CA.c .lf) (CA.k .lf .rule) ⟨_, rfl, both_f rfl (go_next ?_)⟩)))))))))
    refine go_seq (go_if (wt_B (w_cb (wa_cons (w_var rfl (wa_cons (w_o (wa_nil (oa_isK hk (CA.c .lf) (CA.k .lf .run) ⟨_, rfl, both_f rfl (go_next ?_)⟩)))))))))
    refine go_seq (go_if (wt_B (w_cb (wa_cons (w_var rfl (wa_cons (w_o (wa_nil (oa_isK hk (CA.c .lf) (CA.k .lf .paper) ⟨_, rfl, both_f rfl (go_next ?_)⟩)))))))))
    refine go_seq (go_if (wt_B (w_cb (wa_cons (w_var rfl (wa_cons (w_o (wa_nil (oa_isK hk (CA.c .lf) (CA.k .lf .row) ⟨_, rfl, both_f rfl (go_next ?_)⟩)))))))))
    refine go_seq (go_if (wt_B (w_cb (wa_cons (w_var rfl (wa_cons (w_o (wa_nil (oa_isK hk (CA.c .lf) (CA.k .lf .text) ⟨_, rfl, both_f rfl (go_next ?_)⟩)))))))))
    refine go_seq (go_if (wt_B (w_cb (wa_cons (w_var rfl (wa_cons (w_o (wa_nil (oa_isK hk (CA.c .lf) (CA.k .lf .great) ⟨_, rfl, both_f rfl (go_next ?_)⟩)))))))))
    refine go_seq (go_if (wt_B (w_cb (wa_cons (w_var rfl (wa_cons (w_o (wa_nil (oa_isK hk (CA.c .lf) (CA.k .lf .left) ⟨_, rfl, both_t rfl ?_⟩)))))))))
    refine go_appendD (w_var rfl ⟨D, ws, rfl, hD, hdD, rfl, wa_cons (w_tup (wa_cons (w_str (wa_cons (w_xk (w_var rfl ⟨a, _, w0, .d v, rfl, hk, CA.f .lf, CA.n .lf, dw, wa_nil ⟨[_, _], rfl, Nat.le_of_ble_eq_true rfl, ?_⟩⟩))))))⟩)
    refine wa_nil ⟨_, rfl, by simp [noL, noLs, nv], Same.refl _, rfl, Nat.le_of_ble_eq_true rfl, fun H4 us4 k3 k4 hD4 hdD4 => ?_⟩
    have f3 : Fr [] H H4 := Fr.off f3 nD k3 k4
    have hk := hk.off hD k3
    have hD := hD4
    have hdD : DqAll H4 us4 [.tuple [.str "left", v]] := hdD4
    refine go_ret (w_if (wt_test (w_op (w_cb (wa_cons (w_var rfl (wa_nil (oa_lenO hD ?_))))))))
    rw [hdD.len]
    refine w_int (o2_eqI ⟨_, rfl, both_t rfl ?_⟩)
    refine w_op (w_varL rfl hD hdD (w_int (o2_ixL rfl ?_)))
    exact rt_fr f3 fun _ _ => rfl

end
end K2

set_option Elab.async false
set_option linter.all false
set_option maxRecDepth 100000
set_option maxHeartbeats 2000000
/-! ## how the law's lambdas bind -/
namespace K2
open PySem L2 PySem.Spec PyProof.Rows LamX PySem.W PySem.Calls
abbrev par0 : Arguments := ⟨[], [], none, [], [], none, []⟩
abbrev par1 (x : Str) (p1 p2 : Pos) (j : Nat) : Arguments := ⟨[], [⟨x, none, p1⟩], none, [], [], none, [.Constant (.int 0) j p2]⟩
theorem bind0 {scope : Scope} : BindEv par0 none scope := by
  intro name q body cl pm cv ctv dV M A Q E s hd h
  have hd : dV = .none := hd
  subst hd
  have e : bindArgs (klf name q par0 body scope cl pm cv ctv .none) ⟨[], []⟩ = pure [] := rfl
  rw [e]
  exact wpAny_pure (h [] (by simp))
theorem defEv0 {env : Env} : DefEv par0 env none := rfl
theorem bind1 {p1 p2 : Pos} {j : Nat} {y : V} {scope : Scope} (hx : scope.names.lookup ("_law_n" : Str) = some .local) : BindEv (par1 "_law_n" p1 p2 j) (some y) scope := by
  intro name q body cl pm cv ctv dV M A Q E s hd h
  obtain ⟨T, v, rv, rfl, hT⟩ := hd
  unfold bindArgs
  dsimp only
  refine wpAny_bind (wpAny_pure ?_)
  refine wpAny_bind (wpAny_seqItems hT rfl ?_)
  refine wpAny_of_eq (a := [(("_law_n" : Str), v)]) (by rfl) ?_
  refine h _ fun y hy => ?_
  rw [List.mem_singleton] at hy
  subst hy
  exact hx
theorem defEv1 {p1 p2 : Pos} {j : Nat} {env : Env} : DefEv (par1 "_law_n" p1 p2 j) env (some (.int 0)) :=
  ⟨eval (.Constant (.int 0) j p2) env, rfl, fun M A Q E s q => wpAny_Constant_int (q _ _ ⟨_, rfl⟩)⟩
end K2

set_option Elab.async false
set_option linter.all false
set_option maxRecDepth 100000
set_option pp.deepTerms false
set_option pp.deepTerms.threshold 10
set_option maxHeartbeats 4000000
namespace K2
open PySem L2 PySem.Spec PyProof.Rows StX RZ
local macro_rules | `(tactic| walk_at "k2") => `(tactic| first
  | with_reducible refine w_var rfl ?_
  | with_reducible refine w_int ?_
  | with_reducible refine w_bl ?_
  | with_reducible refine w_non ?_
  | with_reducible refine w_str ?_
  | with_reducible refine w_o ?_
  | with_reducible refine wa_cons ?_
  | with_reducible refine wa_nil ?_
  | with_reducible refine w_op ?_
  | with_reducible refine w_un ?_
  | with_reducible refine w_cb ?_
  | with_reducible refine w_call0 ?_
  | with_reducible refine w_chain ?_
  | with_reducible refine w_tup ?_
  | with_reducible refine w_lst ?_
  | with_reducible refine w_andV ?_
  | with_reducible refine w_orV ?_
  | with_reducible refine w_notV ?_
  | with_reducible refine w_if ?_
  | with_reducible refine wt_test ?_
  | with_reducible refine wt_B ?_
  | with_reducible refine wt_and ?_
  | with_reducible refine wt_or ?_
  | with_reducible refine wt_not ?_
  | with_reducible refine go_seq ?_
  | with_reducible refine go_ret ?_
  | with_reducible refine go_retN ?_
  | with_reducible refine go_set ?_
  | with_reducible refine go_par ?_
  | with_reducible refine go_par3 ?_
  | with_reducible refine go_asg ?_
  | with_reducible refine go_next ?_
  | with_reducible refine go_if ?_
  | with_reducible refine o2_ii ?_
  | with_reducible refine o2_ib ?_
  | with_reducible refine o1_i ?_
  | with_reducible refine o2_isN ?_
  | with_reducible refine o2_notN ?_
  | with_reducible refine oa_isiI ?_
  | with_reducible refine oa_isiB ?_
  | with_reducible refine oa_isiT ?_
  | with_reducible refine oa_isiS ?_
  | with_reducible refine oa_abs ?_
  | with_reducible refine oa_max ?_
  | with_reducible refine oa_min ?_
  | with_reducible refine oa_len ?_
  | with_reducible refine oa_lenL ?_
  | with_reducible refine oa_intB ?_
  | refine ⟨[_, _], rfl, Nat.le_of_ble_eq_true rfl, ?_⟩
  | refine ⟨[_, _, _], rfl, Nat.le_of_ble_eq_true rfl, ?_⟩
  | refine ⟨[_, _, _, _], rfl, Nat.le_of_ble_eq_true rfl, ?_⟩
  | refine ⟨[_], rfl, Nat.le_of_ble_eq_true rfl, ?_⟩
  | refine ⟨[], rfl, Nat.le_of_ble_eq_true rfl, ?_⟩)

local macro_rules | `(tactic| walk_at "k2") => `(tactic| first
  | with_reducible refine ex_b ?_
  | refine both_t rfl ?_
  | refine both_f rfl ?_
  | refine both_f2 rfl ?_
  | refine both_t2 rfl ?_
  | with_reducible refine cs_is_integer fun _ _ => ?_
  | with_reducible refine cs_is_whole fun _ _ => ?_
  | refine oa_len ?_
  | refine oa_lenL ?_
  | refine o2_ixT rfl ?_
  | refine o2_ixL rfl ?_
  | refine o2_in rfl rfl ?_
  | refine o2_eqI ?_
  | refine o2_neI ?_
  | refine o2_eqS (by decide +kernel) (by decide +kernel) ?_
  | refine o2_neS (by decide +kernel) (by decide +kernel) ?_
  | refine o2_eqD (Deed.shp _).ok rfl ?_
  | refine both_t (by decide +kernel) ?_
  | refine both_f (by decide +kernel) ?_
  | refine both_f2 (by decide +kernel) ?_
  | refine both_t2 (by decide +kernel) ?_
  | with_reducible refine w_slT ?_
  | with_reducible refine wg_name ?_
  | with_reducible refine wgs_cons ?_
  | with_reducible refine wgs_nil ?_
  | refine o2_ii ?_
  | refine o2_ib ?_
  | refine o2_isN ?_
  | refine o2_notN ?_
  | refine wg_tup rfl ?_
  | refine wgs_cons ?_
  | refine wgs_nil ?_
  | with_reducible refine w_slL ?_
  | with_reducible refine wo_no ?_
  | with_reducible refine wo_some ?_
  | with_reducible refine ⟨_, _, rfl, rfl, ?_⟩
  | with_reducible refine ⟨_, rfl, ?_⟩
  | with_reducible refine ⟨_, _, rfl, ?_⟩
  | with_reducible refine ⟨_, _, _, rfl, ?_⟩)
local macro_rules | `(tactic| walk_at "same") => `(tactic| ((repeat (first | exact Same.refl _ | assumption | refine Same.trans ?_ (by assumption)))))

local macro_rules | `(tactic| walk_at "k3") => `(tactic| first
  | walk_at "k2"
  | refine both_t (by first | (simp; done) | (simp; omega)) ?_
  | refine both_f (by first | (simp; done) | (simp; omega)) ?_
  | refine both_f2 (by first | (simp; done) | (simp; omega)) ?_
  | refine both_t2 (by first | (simp; done) | (simp; omega)) ?_
  | refine go_next ?_
  | refine go_drop ?_)
open LamX
structure CTry (K : PySem.W.Frag) (ca : EC → Addr) : Prop where
  x1 : ∀ e : EK, PySem.W.exmAny K (.ref (ca e.c)) (cs1.map fun x => .ref (ca x)) = some (cs1.any fun x => e.c.eq x)
  x2 : ∀ e : EK, PySem.W.exmAny K (.ref (ca e.c)) (cs2.map fun x => .ref (ca x)) = some (cs2.any fun x => e.c.eq x)
def tsSaid : Addr → Value → Option Addr → TS := fun _ _ _ => tAsg (tVar 3) (gName 1)
def clSaid (ca : EC → Addr) : List Cla := [(cs1.map fun x => .ref (ca x), tsSaid), (cs2.map fun x => .ref (ca x), tsSaid)]
/-- what a call that is told of raises -/
def Raised (ca : EC → Addr) (cls : Value) (d : Option Addr) (H2 : Hp) (k : EK → PyData → Prop) : Prop := ∃ (e : EK) (w : V) (v : PyData) (dd : Addr), cls = .ref (ca e.c) ∧ d = some dd ∧ H2 dd = some (.xd [(e.fld, w)]) ∧ Dq H2 w v ∧ noL v = true ∧ k e v
def TTs (ca : EC → Addr) : (XK → Hp → VK → Prop) → Hp → VK → Prop := fun tl H Q => ∀ (H' : Hp) (Qn : VK), Same H H' → tl (fun cls d H2 => Raised ca cls d H2 fun e v => ∀ u H3, Same H2 H3 → Dq H3 u (.tuple [.str e.word, v]) → Q u H3) H' Qn
theorem go_run0 {t : TS} {xs : List Dx} {vs : List V} {N : List Str} {H : Hp} {Q : VK} (d : DxAll H vs xs)
    (h : Go [] t ⟨fun _ H' => ∀ H2, Same H' H2 → Q .non H2, fun x H' => ∀ v H2, Same H' H2 → DxR H2 v x → Q v H2, fun _ _ => False, fun _ _ => False⟩ (xs.map some ++ List.replicate (N.length - xs.length) none) H) : t { nx := fun _ H' => Q .non H', rt := Q } (L2.start N vs) H :=
  h { nx := fun _ H' => Q .non H', rt := Q } ⟨fun ρ1 H1 σ1 H2 k e s => k H2 e, fun x v H1 H2 k e dx => k v H2 e dx, fun _ _ _ _ k => k.elim, fun _ _ _ _ k => k.elim⟩ _ H (Same.refl _) (Sr.start d)
theorem sc__law_said : FnScope ["_law_call", "_law_caught", "_law_found", "e"] ["_law_call"] (defScope (top 64)) := ⟨rfl, rfl, rfl, by decide +kernel, rfl, by decide +kernel, by decide +kernel⟩
section
variable {X : Cx} {ca : EC → Addr}
theorem said_gives {g : Addr} {cdg : Value} {q : Str} (FA : DefOk X.prog X.w X.K X.mg X.base 1 "_law_fault" ["_law_fault_so"] (S__law_fault ca)) (CA : CAll X.K X.mg ca) (CT : CTry X.K ca) (hr : Room 2 X.A) :
    Gives3 X ["_law_call", "_law_caught", "_law_found", "e"] "_law_said" (defScope (top 64)) g cdg (defBody (top 64)) "_law_call" q (TTs ca) := by
  intro f c' s H Q tl act hc h
  have sc := sc__law_said
  have hr1 : ∀ env, Room 1 (X.A.deeper env) := fun env => hr.deeper env
  refine ⟨_, pss_cons (ps_asg (pe_tup (pa_cons pe_non (pa_cons pe_non pa_nil))) (pg_tup rfl (pgs_cons (pg_name (i := 1) sc.nd rfl (.inl rfl)) (pgs_cons (pg_name (i := 2) sc.nd rfl (.inl rfl)) pgs_nil))))
    (pss_cons (ps_try_tup (i := 3) (l := clSaid ca) (tb := fun W => tAsg (fun σZ HZ Q => σZ[0]? = some (some (.ref f)) ∧ HZ c' = some (CodeO c' q) ∧ ∃ E, (∀ cls d H', E cls d H' → W cls d σZ H') ∧ tl E HZ Q) (gName 2)) rfl rfl rfl sc.nd rfl rfl
      (fun W pn xe tk _ => pss_one (ps_set (i := 2) sc.nd rfl (.inl rfl) (act W pn xe _ _ tk)))
      (ClOk.cons (NmE.cons (c := .ref (ca .world)) ⟨rfl, by decide, .inl (CA.m .world)⟩ (NmE.cons (c := .ref (ca .rule)) ⟨rfl, by decide, .inl (CA.m .rule)⟩ (NmE.cons (c := .ref (ca .start)) ⟨rfl, by decide, .inl (CA.m .start)⟩ (NmE.cons (c := .ref (ca .bound)) ⟨rfl, by decide, .inl (CA.m .bound)⟩ (NmE.cons (c := .ref (ca .stand)) ⟨rfl, by decide, .inl (CA.m .stand)⟩ (NmE.cons (c := .ref (ca .round)) ⟨rfl, by decide, .inl (CA.m .round)⟩ (NmE.cons (c := .ref (ca .run)) ⟨rfl, by decide, .inl (CA.m .run)⟩ (NmE.cons (c := .ref (ca .ranges)) ⟨rfl, by decide, .inl (CA.m .ranges)⟩ (NmE.cons (c := .ref (ca .paper)) ⟨rfl, by decide, .inl (CA.m .paper)⟩ (NmE.cons (c := .ref (ca .row)) ⟨rfl, by decide, .inl (CA.m .row)⟩ (NmE.nil))))))))))) (Nat.le_of_ble_eq_true rfl) (fun a oe cls d pn _ _ => pss_one (ps_set (i := 1) sc.nd rfl (.inl rfl) (pe_var (i := 3) rfl (.inl rfl))))
        (ClOk.cons (NmE.cons (c := .ref (ca .text)) ⟨rfl, by decide, .inl (CA.m .text)⟩ (NmE.cons (c := .ref (ca .number)) ⟨rfl, by decide, .inl (CA.m .number)⟩ (NmE.cons (c := .ref (ca .great)) ⟨rfl, by decide, .inl (CA.m .great)⟩ (NmE.cons (c := .ref (ca .left)) ⟨rfl, by decide, .inl (CA.m .left)⟩ (NmE.nil))))) (Nat.le_of_ble_eq_true rfl) (fun a oe cls d pn _ _ => pss_one (ps_set (i := 1) sc.nd rfl (.inl rfl) (pe_var (i := 3) rfl (.inl rfl)))) ClOk.nil)))
    (pss_one (ps_ret (pe_ifExp (pt_cmpR op_isN (pe_var (i := 1) rfl (.inl rfl)) pe_non (nomark _)) (pe_lst (pa_cons (pe_var (i := 2) rfl (.inl rfl)) pa_nil)) (pe_D FA (hr1 _) rfl pass_none (pa_cons (pe_var (i := 1) rfl (.inl rfl)) pa_nil)))))), ?_⟩
  refine go_run0 (xs := [.o (.ref f)]) (.cons rfl .nil) ?_
  refine go_seq (go_asg (w_tup (wa_cons (w_non (wa_cons (w_non (wa_nil ⟨[_, _], rfl, Nat.le_of_ble_eq_true rfl, ?_⟩)))))))
  refine wg_tup rfl (wgs_cons (wg_name (wgs_cons (wg_name (wgs_nil ?_)))))
  refine go_seq fun D le σ H' e s => ?_
  obtain ⟨v0, h0, r0⟩ := s.at_ 0 (.o (.ref f)) rfl
  obtain ⟨v2, h2, r2⟩ := s.at_ 2 (.d .none) rfl
  cases r0
  cases r2
  have hl : σ.length = 4 := s.len
  refine ⟨h0, e _ _ hc, _, fun cls d H2 hE => ?_, h H' _ e⟩
  obtain ⟨ek, w, v, dd, rfl, rfl, hdd, dw, nv, hQ⟩ := hE
  have fin : ∀ a oe, H2 a = none → Zc (.ref (ca ek.c)) (some dd) oe → (∃ vs, oe.data = .fields vs) → tsSaid a (.ref (ca ek.c)) (some dd) { nx := fun σ' H' => D.nx (σ'.set 3 none) (upd H' a (exK a oe)), rt := fun _ _ => False, bk := fun _ _ => False, ct := fun _ _ => False } (σ.set 3 (some (.ref a))) H2 := by
    intro a oe na hz hf
    refine ⟨.ref a, by rw [List.getElem?_set_self (by omega)], ?_⟩
    refine le.nx [some (.o (.ref f)), some (.o (.ref a)), some (.d .none), none] (upd H2 a (exK a oe)) _ _ ?_ (Same.refl _) ⟨by simp [hl], fun i x hx => ?_, fun g hg => by cases hg⟩
    · have kp : Kept (upd H2 a (exK a oe)) a (ca ek.c) ek.fld w := ⟨oe, dd, upd_same, hz.1, hz.2, hf, by rw [upd_ne (fun z => by rw [z, na] at hdd; cases hdd)]; exact hdd⟩
      have sm : Same H2 (upd H2 a (exK a oe)) := Same.new na
      refine go_ret (w_if (wt_test (w_op (w_var rfl (w_non (o2_isNo (fun z => by cases z) ⟨_, rfl, both_f rfl ?_⟩))))))
      refine w_call0 (wa_cons (w_var rfl (wa_nil (CallS.pure (S := S__law_fault ca) (a, ek, w, v) rfl (fun H3 e3 => ⟨kp.same e3, ft_dp (sm.trans e3).ftq _ _ dw, nv⟩) rfl fun x H3 e3 po => ?_))))
      obtain rfl := po
      exact fun u H4 e4 du => hQ u H4 ((sm.trans e3).trans e4) du
    · rcases i with _ | _ | _ | _ | i
      · cases hx
        refine ⟨.ref f, ?_, rfl⟩
        rw [List.getElem?_set_ne (by decide), List.getElem?_set_ne (by decide), List.getElem?_set_ne (by decide)]
        exact h0
      · cases hx
        refine ⟨.ref a, ?_, rfl⟩
        rw [List.getElem?_set_ne (by decide), List.getElem?_set_self (by rw [List.length_set]; omega)]
      · cases hx
        refine ⟨.non, ?_, Dq.non⟩
        rw [List.getElem?_set_ne (by decide), List.getElem?_set_ne (by decide), List.getElem?_set_ne (by decide)]
        exact h2
      · cases hx
      · cases hx
  refine ⟨_, CT.x1 ek, fun hb a oe na hz hf => fin a oe na hz hf, fun hb => ⟨_, CT.x2 ek, fun _ a oe na hz hf => fin a oe na hz hf, fun hb2 => ?_⟩⟩
  cases ek <;> first | exact absurd hb (by decide) | exact absurd hb2 (by decide)
/-- the def and what it leans on -/
structure SaidD (P : Program) (w : World) (K : PySem.W.Frag) (mg : Str → Option Value) (base : Heap) (ca : EC → Addr) : Prop where
  FA : DefOk P w K mg base 1 "_law_fault" ["_law_fault_so"] (S__law_fault ca)
  CA : CAll K mg ca
  CT : CTry K ca
  F : ∃ g fd, FnP K "_law_said" "_law_said" (top 64) [] g fd ∧ mg "_law_said" = some (.ref g) ∧ PySem.W.keepIn K (.ref g) = true ∧ Binds K fd ["_law_call"] []
theorem pe_said {c P : Addr} {k : Nat} {dv : Option V} {params : Arguments} {body : Expr} {scope : Scope} {t : XK → TE} {p lpos pos : Pos} (SD : SaidD X.prog X.w X.K X.mg X.base ca) (hg : Gl X "_law_said") (TB : TabB X.base X.mg c P) (hcode : X.env.code = .ref c) (hk : 1 ≤ k) (hr : Room (k + 2) X.A) (L : LamN X.N X.env.scope scope)
    (hdef : DefEv params X.env dv) (hbind : BindEv params dv scope) (hbody : ∀ (A : Around) (outer : List Env) (s : Shared) (H : Hp) (E : XK) (f c' : Addr), Room k (A.deeper (lamEnv X scope s.heap.objs.size f c')) → PE (lamCx X A outer s H E scope f c') body (t E)) :
    PE X (.Call (.Name "_law_said" p) [.Lambda params body scope lpos] [] pos) (tLam3 P (X.env.qual ++ "<lambda>") (TTs ca) t) := by
  obtain ⟨g, fd, F, hm, hkp, hb⟩ := SD.F
  obtain ⟨oc, od, dV, kV, doc, pm, an, cdv, ct, osl, rfl, lk, hcd, _, _⟩ := F.ex
  exact pe_lam3 hg hm hkp lk hcd hb sc__law_said rfl (.inl rfl) (fun hr' => said_gives SD.FA SD.CA SD.CT (hr'.mono (by omega))) TB hcode hr L hdef hbind hbody
end
/-- the lambda is made, its call raises -/
theorem w_said {Γ : List Gh} {ρ : Rho} {H : Hp} {R : PX} {P : Addr} {q : Str} {ca : EC → Addr} {t : XK → TE} (hT : TabS H P q)
    (h : ∀ H1, Fr [P] H H1 → TabS H1 P q → ∀ E : XK, (∀ cls d H2, Ft H1 H2 → Raised ca cls d H2 (fun e v => ∀ H3, Same H2 H3 → R (.d (.tuple [.str e.word, v])) H3) → E cls d H2) → W Γ (t E) ρ H1 fun _ _ => False) : W Γ (tLam3 P q (TTs ca) t) ρ H R := fun σ H' e s Q k => by
  refine ⟨hT.ext e, fun H1 f1 t1 H2 Qn e2 => ?_⟩
  refine h H1 (e.frq.trans f1) t1 _ (fun cls d H3 f3 hr => ?_) σ H2 e2 (s.ft (f1.ft.trans e2.ftq)) Qn fun _ _ _ _ z => z.elim
  obtain ⟨e0, w, v, dd, h1, h2, h3, h4, h5, k5⟩ := hr
  exact ⟨e0, w, v, dd, h1, h2, h3, h4, h5, fun u H4 e4 du => k (.d (.tuple [.str e0.word, v])) u H4 H4 (k5 H4 e4) (Same.refl _) ((f1.ft.trans f3).trans e4.ftq) du⟩
theorem passLam {P' : Program} {w' : World} {X : Cx} {A : Around} {outer : List Env} {s : Shared} {H : Hp} {E : XK} {scope : Scope} {f c' : Addr} (hP : P' = X.prog) (hw : w' = X.w) : Passes (L2.CX P' w') (lamCx X A outer s H E scope f c') E := by
  subst hP
  subst hw
  exact passes_call (takes_of rfl rfl rfl rfl) fun _ _ _ _ h => h
theorem Raised.of {ca : EC → Addr} {c : Value} {d : Option Addr} {H : Hp} {v : PyData} {k : EK → PyData → Prop} (e : EK) (t : Thrown (ca e.c) e.fld v c d H) (nv : noL v = true) (h : k e v) : Raised ca c d H k := by
  obtain ⟨rfl, dx, w, rfl, h1, h2⟩ := t
  exact ⟨e, w, v, dx, rfl, rfl, h1, h2, nv, h⟩
end K2

set_option Elab.async false
set_option linter.all false
set_option maxRecDepth 100000
set_option maxHeartbeats 2000000
/-! ## the plain law: what is refused -/
namespace K2
open PySem L2
def oddL (w : Wld) : List PyData := [.tuple [.none, .int 0], .tuple [.int (w.hi + 1), .int 0], .tuple [.int w.lo, .int (w.e1 + 1)], .tuple [.bool true, .int 0], .tuple [.int w.lo, .str "0"], .tuple [.str "a", .none]]
/-- a round that can be done nowhere -/
structure OddR (w : Wld) (a b : PyData) : Prop where
  na : noL a = true
  nb : noL b = true
  no : ∀ ms, isRound w ms (a, b) = false
  sho : Sho 4100 (.tuple [a, b])
  shp : Shp 1 (.tuple [a, b])
theorem odd_of {w : Wld} (hw : w.ok) {z : PyData} (hz : z ∈ oddL w) : ∃ a b, z = .tuple [a, b] ∧ OddR w a b := by
  have := hw.l1; have := hw.l2; have := hw.l3; have := hw.b1; have := hw.b2
  have st : Sho 2000 (.str "0") := (sho_str (by decide +kernel)).mono (by decide)
  have sa : Sho 2000 (.str "a") := (sho_str (by decide +kernel)).mono (by decide)
  have two : ∀ {a b : PyData}, Sho 2000 a → Sho 2000 b → Sho 4100 (.tuple [a, b]) := fun ha hb => (shoT (n := 2000) (k := 2) (all_cons ha (all_cons hb all_nil)) (Nat.le_of_ble_eq_true rfl)).mono (by decide)
  have i0 : Sho 2000 (.int 0) := shoS (by decide)
  have two' : ∀ {a b : PyData}, Shp 0 a → Shp 0 b → Shp 1 (.tuple [a, b]) := fun ha hb => shp_t (all_cons ha (all_cons hb all_nil))
  rcases List.mem_cons.mp hz with rfl | hz
  · exact ⟨_, _, rfl, rfl, rfl, fun ms => rfl, two (shoN.mono (by decide)) i0, two' shp_n shp_i⟩
  rcases List.mem_cons.mp hz with rfl | hz
  · refine ⟨_, _, rfl, rfl, rfl, fun ms => ?_, two (shoS (by omega)) i0, two' shp_i shp_i⟩
    simp only [isRound, isWhole, Bool.and_eq_false_iff, decide_eq_false_iff_not]
    omega
  rcases List.mem_cons.mp hz with rfl | hz
  · refine ⟨_, _, rfl, rfl, rfl, fun ms => ?_, two (shoS (by omega)) (shoS (by omega)), two' shp_i shp_i⟩
    simp only [isRound, isWhole, Bool.and_eq_false_iff, decide_eq_false_iff_not]
    omega
  rcases List.mem_cons.mp hz with rfl | hz
  · exact ⟨_, _, rfl, rfl, rfl, fun ms => rfl, two (shoB.mono (by decide)) i0, two' shp_b shp_i⟩
  rcases List.mem_cons.mp hz with rfl | hz
  · refine ⟨_, _, rfl, rfl, rfl, fun ms => ?_, two (shoS (by omega)) st, two' shp_i (shp_s (by decide +kernel))⟩
    simp [isRound, isWhole]
  rcases List.mem_cons.mp hz with rfl | hz
  · exact ⟨_, _, rfl, rfl, rfl, fun ms => rfl, two sa (shoN.mono (by decide)), two' (shp_s (by decide +kernel)) shp_n⟩
  cases hz
theorem good_rd {w : Wld} (hw : w.ok) (ms : Int) : isRound w ms (.int w.lo, .int 0) = true := by
  have := hw.l2; have := hw.a1; have := hw.b1
  simp [isRound, isWhole]
  omega
theorem last_rd {w : Wld} (hw : w.ok) (ms : Int) : isRound w ms (.int w.lo, .none) = decide (ms < w.ls) := by
  have := hw.l2
  simp [isRound, isWhole]
  omega
theorem last_odd {w : Wld} (hw : w.ok) : Sho 4100 (.tuple [.int w.lo, .none]) ∧ Shp 1 (.tuple [.int w.lo, .none]) := by
  have := hw.l1; have := hw.l2; have := hw.l3
  exact ⟨(shoT (n := 2000) (k := 2) (all_cons (shoS (by omega)) (all_cons (shoN.mono (by decide)) all_nil)) (Nat.le_of_ble_eq_true rfl)).mono (by decide), shp_t (all_cons shp_i (all_cons shp_n all_nil))⟩
theorem step_good (r : Rul) (s : Std) (d e : Int) : (stepped r s d (some e)).2.2.2.ms = 0 := rfl
theorem step_last (r : Rul) (s : Std) (d : Int) : (stepped r s d none).2.2.2.ms = s.ms + 1 := rfl
theorem gone_lost {w : Wld} (hw : w.ok) (r : Rul) : ∀ (k : Nat) (s : Std) (fd : List Int) (n : Nat), s.ms + (k : Nat) = w.ls → (gone w r s fd n (List.replicate (k + 1) (.int w.lo, .none))).1 = some (n + k)
  | 0, s, fd, n, h => by
    have h2 : isRound w s.ms (.int w.lo, .none) = false := by rw [last_rd hw]; exact decide_eq_false (by omega)
    rw [List.replicate_succ, gone, h2]
    rfl
  | k + 1, s, fd, n, h => by
    have h2 : isRound w s.ms (.int w.lo, .none) = true := by rw [last_rd hw]; exact decide_eq_true (by omega)
    rw [List.replicate_succ, gone, if_pos h2, gone_lost hw r k _ _ _ (by
      show (stepped r s w.lo none).2.2.2.ms + (k : Nat) = w.ls
      rw [step_last]
      omega)]
    congr 1
    omega
/-- a row that cannot be done, and the number that is told -/
structure WrongR (w : Wld) (r : Rul) (s : Std) (y : PyData ⊕ List Rd2) (num : PyData) : Prop where
  no : ∀ d, y = .inl d → isiT d = false ∧ num = .none
  row : ∀ rs, y = .inr rs → (rs.length ≤ 500 ∧ ∀ q ∈ rs, noL q.1 = true ∧ noL q.2 = true) ∧ ∃ n : Nat, (gone w r s [s.df] 0 rs).1 = some n ∧ num = .int (n : Nat)
theorem WrongR.num {w : Wld} {r : Rul} {s : Std} {y : PyData ⊕ List Rd2} {num : PyData} (h : WrongR w r s y num) : noL num = true ∧ Shp 0 num := by
  cases y with
  | inl d =>
    obtain ⟨_, rfl⟩ := h.no d rfl
    exact ⟨rfl, shp_n⟩
  | inr rs =>
    obtain ⟨_, n, _, rfl⟩ := h.row rs rfl
    exact ⟨rfl, shp_i⟩
def wrongL (w : Wld) (a b : PyData) : List PyData := [.tuple [.none, .none], .tuple [.list [.tuple [.int w.lo, .int 0]], .none], .tuple [.tuple [.tuple [.int w.lo, .int 0], .tuple [a, b]], .int 1], .tuple [.tuple [.tuple [a, b]], .int 0], .tuple [.int 5, .none],
  .tuple [.tuple (.tuple [.int w.lo, .int 0] :: List.replicate (w.ls.toNat + 1) (.tuple [.int w.lo, .none])), .int (w.ls.toNat + 1 : Nat)]]
theorem wrong_of {w : Wld} (hw : w.ok) (r : Rul) (s : Std) {a b : PyData} (o : OddR w a b) {z : PyData} (hz : z ∈ wrongL w a b) : ∃ y num, z = .tuple [iaX y, num] ∧ WrongR w r s y num := by
  have := hw.c1; have := hw.c2
  have gl : noL (.int w.lo) = true := rfl
  rcases List.mem_cons.mp hz with rfl | hz
  · exact ⟨.inl .none, _, rfl, fun d e => (by cases e; exact ⟨rfl, rfl⟩), fun rs e => (by cases e)⟩
  rcases List.mem_cons.mp hz with rfl | hz
  · exact ⟨.inl (.list [.tuple [.int w.lo, .int 0]]), _, rfl, fun d e => (by cases e; exact ⟨rfl, rfl⟩), fun rs e => (by cases e)⟩
  rcases List.mem_cons.mp hz with rfl | hz
  · refine ⟨.inr [(.int w.lo, .int 0), (a, b)], _, rfl, fun d e => (by cases e), fun rs e => ?_⟩
    cases e
    refine ⟨⟨Nat.le_of_ble_eq_true rfl, fun q hq => ?_⟩, 1, ?_, rfl⟩
    · rcases List.mem_cons.mp hq with rfl | hq
      · exact ⟨rfl, rfl⟩
      · rw [List.mem_singleton] at hq
        subst hq
        exact ⟨o.na, o.nb⟩
    · rw [gone, if_pos (good_rd hw _), gone, o.no]
      rfl
  rcases List.mem_cons.mp hz with rfl | hz
  · refine ⟨.inr [(a, b)], _, rfl, fun d e => (by cases e), fun rs e => ?_⟩
    cases e
    refine ⟨⟨Nat.le_of_ble_eq_true rfl, fun q hq => ?_⟩, 0, ?_, rfl⟩
    · rw [List.mem_singleton] at hq
      subst hq
      exact ⟨o.na, o.nb⟩
    · rw [gone, o.no]
      rfl
  rcases List.mem_cons.mp hz with rfl | hz
  · exact ⟨.inl (.int 5), _, rfl, fun d e => (by cases e; exact ⟨rfl, rfl⟩), fun rs e => (by cases e)⟩
  rcases List.mem_cons.mp hz with rfl | hz
  · refine ⟨.inr ((.int w.lo, .int 0) :: List.replicate (w.ls.toNat + 1) (.int w.lo, .none)), .int (w.ls.toNat + 1 : Nat), ?_, fun d e => (by cases e), fun rs e => ?_⟩
    · show _ = PyData.tuple [.tuple (List.map Rd2.enc (_ :: _)), _]
      rw [List.map_cons, List.map_replicate]
      rfl
    cases e
    refine ⟨⟨by rw [List.length_cons, List.length_replicate]; omega, fun q hq => ?_⟩, w.ls.toNat + 1, ?_, rfl⟩
    · rcases List.mem_cons.mp hq with rfl | hq
      · exact ⟨rfl, rfl⟩
      · obtain rfl := List.eq_of_mem_replicate hq
        exact ⟨rfl, rfl⟩
    · rw [gone, if_pos (good_rd hw _), gone_lost hw r _ _ _ _ (by
        show (stepped r s w.lo (some 0)).2.2.2.ms + (w.ls.toNat : Nat) = w.ls
        rw [step_good]
        omega)]
      congr 1
      omega
  cases hz
def manyL : List PyData := [.none, .int 0, .int (-1), .bool true, .str "1", .tuple [.int 1]]
theorem many_of {z : PyData} (hz : z ∈ manyL) : (∀ n : Int, z = .int n → n < 1) ∧ noL z = true ∧ Sho 2100 z ∧ Shp 1 z := by
  rcases List.mem_cons.mp hz with rfl | hz
  · exact ⟨fun n e => (by cases e), rfl, shoN.mono (by decide), shp_n⟩
  rcases List.mem_cons.mp hz with rfl | hz
  · exact ⟨fun n e => (by cases e; decide), rfl, (shoS (by decide)).mono (by decide), shp_i⟩
  rcases List.mem_cons.mp hz with rfl | hz
  · exact ⟨fun n e => (by cases e; decide), rfl, (shoS (by decide)).mono (by decide), shp_i⟩
  rcases List.mem_cons.mp hz with rfl | hz
  · exact ⟨fun n e => (by cases e), rfl, shoB.mono (by decide), shp_b⟩
  rcases List.mem_cons.mp hz with rfl | hz
  · exact ⟨fun n e => (by cases e), rfl, (sho_str (by decide +kernel)).mono (by decide), shp_s (by decide +kernel)⟩
  rcases List.mem_cons.mp hz with rfl | hz
  · exact ⟨fun n e => (by cases e), rfl, (shoT (n := 2000) (k := 1) (all_cons (shoS (by decide)) all_nil) (Nat.le_of_ble_eq_true rfl)).mono (by decide), shp_t (all_cons shp_i all_nil)⟩
  cases hz
end K2

set_option Elab.async false
set_option linter.all false
set_option maxRecDepth 100000
set_option pp.deepTerms false
set_option pp.deepTerms.threshold 10
set_option maxHeartbeats 4000000
namespace K2
open PySem L2 PySem.Spec PyProof.Rows StX RZ
local macro_rules | `(tactic| walk_at "k2") => `(tactic| first
  | with_reducible refine w_var rfl ?_
  | with_reducible refine w_int ?_
  | with_reducible refine w_bl ?_
  | with_reducible refine w_non ?_
  | with_reducible refine w_str ?_
  | with_reducible refine w_o ?_
  | with_reducible refine wa_cons ?_
  | with_reducible refine wa_nil ?_
  | with_reducible refine w_op ?_
  | with_reducible refine w_un ?_
  | with_reducible refine w_cb ?_
  | with_reducible refine w_call0 ?_
  | with_reducible refine w_chain ?_
  | with_reducible refine w_tup ?_
  | with_reducible refine w_lst ?_
  | with_reducible refine w_andV ?_
  | with_reducible refine w_orV ?_
  | with_reducible refine w_notV ?_
  | with_reducible refine w_if ?_
  | with_reducible refine wt_test ?_
  | with_reducible refine wt_B ?_
  | with_reducible refine wt_and ?_
  | with_reducible refine wt_or ?_
  | with_reducible refine wt_not ?_
  | with_reducible refine go_seq ?_
  | with_reducible refine go_ret ?_
  | with_reducible refine go_retN ?_
  | with_reducible refine go_set ?_
  | with_reducible refine go_par ?_
  | with_reducible refine go_par3 ?_
  | with_reducible refine go_asg ?_
  | with_reducible refine go_next ?_
  | with_reducible refine go_if ?_
  | with_reducible refine o2_ii ?_
  | with_reducible refine o2_ib ?_
  | with_reducible refine o1_i ?_
  | with_reducible refine o2_isN ?_
  | with_reducible refine o2_notN ?_
  | with_reducible refine oa_isiI ?_
  | with_reducible refine oa_isiB ?_
  | with_reducible refine oa_isiT ?_
  | with_reducible refine oa_isiS ?_
  | with_reducible refine oa_abs ?_
  | with_reducible refine oa_max ?_
  | with_reducible refine oa_min ?_
  | with_reducible refine oa_len ?_
  | with_reducible refine oa_lenL ?_
  | with_reducible refine oa_intB ?_
  | refine ⟨[_, _], rfl, Nat.le_of_ble_eq_true rfl, ?_⟩
  | refine ⟨[_, _, _], rfl, Nat.le_of_ble_eq_true rfl, ?_⟩
  | refine ⟨[_, _, _, _], rfl, Nat.le_of_ble_eq_true rfl, ?_⟩
  | refine ⟨[_], rfl, Nat.le_of_ble_eq_true rfl, ?_⟩
  | refine ⟨[], rfl, Nat.le_of_ble_eq_true rfl, ?_⟩)

local macro_rules | `(tactic| walk_at "k2") => `(tactic| first
  | with_reducible refine ex_b ?_
  | refine both_t rfl ?_
  | refine both_f rfl ?_
  | refine both_f2 rfl ?_
  | refine both_t2 rfl ?_
  | with_reducible refine cs_is_integer fun _ _ => ?_
  | with_reducible refine cs_is_whole fun _ _ => ?_
  | refine oa_len ?_
  | refine oa_lenL ?_
  | refine o2_ixT rfl ?_
  | refine o2_ixL rfl ?_
  | refine o2_in rfl rfl ?_
  | refine o2_eqI ?_
  | refine o2_neI ?_
  | refine o2_eqS (by decide +kernel) (by decide +kernel) ?_
  | refine o2_neS (by decide +kernel) (by decide +kernel) ?_
  | refine o2_eqD (Deed.shp _).ok rfl ?_
  | refine both_t (by decide +kernel) ?_
  | refine both_f (by decide +kernel) ?_
  | refine both_f2 (by decide +kernel) ?_
  | refine both_t2 (by decide +kernel) ?_
  | with_reducible refine w_slT ?_
  | with_reducible refine wg_name ?_
  | with_reducible refine wgs_cons ?_
  | with_reducible refine wgs_nil ?_
  | refine o2_ii ?_
  | refine o2_ib ?_
  | refine o2_isN ?_
  | refine o2_notN ?_
  | refine wg_tup rfl ?_
  | refine wgs_cons ?_
  | refine wgs_nil ?_
  | with_reducible refine w_slL ?_
  | with_reducible refine wo_no ?_
  | with_reducible refine wo_some ?_
  | with_reducible refine ⟨_, _, rfl, rfl, ?_⟩
  | with_reducible refine ⟨_, rfl, ?_⟩
  | with_reducible refine ⟨_, _, rfl, ?_⟩
  | with_reducible refine ⟨_, _, _, rfl, ?_⟩)
local macro_rules | `(tactic| walk_at "same") => `(tactic| ((repeat (first | exact Same.refl _ | assumption | refine Same.trans ?_ (by assumption)))))

local macro_rules | `(tactic| walk_at "k3") => `(tactic| first
  | walk_at "k2"
  | refine both_t (by first | (simp; done) | (simp; omega)) ?_
  | refine both_f (by first | (simp; done) | (simp; omega)) ?_
  | refine both_f2 (by first | (simp; done) | (simp; omega)) ?_
  | refine both_t2 (by first | (simp; done) | (simp; omega)) ?_
  | refine go_next ?_
  | refine go_drop ?_)
open LamX
/-- ok_pureG, the def's code object told -/
theorem ok_pureGC {P : Program} {w : World} {K : PySem.W.Frag} {mg : Str → Option Value} {base : Heap} {x qual : Str} {st : Stmt} {dvs : List V} {f c : Addr} {fd : FuncData} {N ps : List Str} {k : Nat} {S : Spc} (F : FnP K x qual st dvs f fd) (hc : fd.code = .ref c) (sc : FnScope N ps (defScope st)) (hl : ∀ i, (S.args i).length = ps.length)
    (hb : ∀ (cdv : Value) (A : Around) (outer : List Env) (s : Shared) (H : Hp) (E : XK), cdv = .ref c → (A.deeper (envOfC qual (defScope st) s.heap.objs.size f cdv)).guards = some [] → Room k (A.deeper (envOfC qual (defScope st) s.heap.objs.size f cdv)) →
      ∃ t, PSs (cxOf (L2.CX P w) P w K mg base N qual (defScope st) f cdv A outer s H E).nox (defBody st) t ∧ ∀ i, S.pre i H → Go [] t (EB (S.mod i) H (S.post i)) ((S.args i).map some ++ List.replicate (N.length - (S.args i).length) none) H) :
    FnOkG P w K mg base (L2.CX P w) (k + 1) f fd ps (sp S) := by
  obtain ⟨oc, od, dV, kV, doc, pm, an, cdv, ct, osl, rfl, lk, hcd, _, _⟩ := F.ex
  refine ⟨fun vs H Q E h => ?_, fun A outer s H args us vs Q E hgd hr e0 hbd r h => ?_⟩
  · obtain ⟨i, d, _⟩ := h
    rw [d.len, hl]
  · obtain ⟨i, d, p, q, _⟩ := h
    refine LamX.run_ofS lk hcd sc hr e0 hbd r (by rw [d.len, hl]) fun hr' => ?_
    obtain ⟨t, ht, hg⟩ := hb cdv A outer s H E hc (guards_deeper hgd) hr'
    exact ⟨t, ht.nox, go_run d q (hg i p)⟩
/-- an instance called, its reading without the context -/
def tCO (C : Addr) (sp : Sp) (E : XK) (tf : TE) (t : TA) : TE := fun σ H Q => tf σ H fun y H1 => ∃ a, y = V.ref a ∧ t σ H1 fun vs H2 => ((∃ dx vs, SlX.Slt H2 a C dx vs) ∨ ∃ dx fs, H2 a = some (.ins C dx fs)) ∧ sp (V.ref a :: vs) H2 Q E
section
variable {X : Cx} {C CRd CRn CNb CLf : Addr} {fe e : Expr} {es : List Expr} {tf : TE} {t : TA} {E : XK} {pos : Pos}
theorem pe_cPL (Pf : PF X.prog X.w X.K X.mg X.base C CRd CRn CNb CLf) (hr : Room 6 X.A) (hx : Passes (L2.CX X.prog X.w) X E) (hf : PE X fe tf) (ha : PA X (e :: es) t)
    (ht : eval (.Call fe (e :: es) [] pos) X.env = (do callWith pos (← eval fe X.env) [] (backTo pos (starEach (e :: es) X.env)) (backToKw pos (keywordEach [] X.env))) := by rfl)
    (he : starEach (e :: es) X.env = (false, eval e X.env) :: starEach es X.env := by rfl) (hpl : (backTo pos (starEach es X.env)).any (·.1) = false := by rfl) : PE X (.Call fe (e :: es) [] pos) (tCO C (sp (S_p___call__ C CRd)) E tf t) :=
  pe_cP Pf hr hx hf ha ht he hpl
end
section
variable {Γ : List Gh} {ρ : Rho} {H : Hp} {R : PX} {tf : TE} {ta : TA} {S : Spc} {E : XK} {C : Addr}
theorem w_cO (h : W Γ tf ρ H fun x H1 => ∃ p, x = .o (.ref p) ∧ WA Γ ta ρ H1 fun xs H2 => (∃ dx fs, H2 p = some (.ins C dx fs)) ∧ CallS S (.o (.ref p) :: xs) H2 E R) : W Γ (tCO C (sp S) E tf ta) ρ H R := fun σ H' e s Q q =>
  h σ H' e s _ fun x v H1 H1' k e1 f1 d1 => by
    obtain ⟨p, rfl, k⟩ := k
    cases d1
    exact ⟨p, rfl, k σ H1' e1 (s.ft f1) _ fun xs vs H2 H2' k2 e2 f2 d2 => ⟨.inr (by obtain ⟨⟨dx, fs, hp⟩, _⟩ := k2; exact ⟨dx, fs, e2 _ _ hp⟩), k2.2.go e2 (.cons rfl d2) fun x v H3 H3' k3 e3 f3 d3 => q x v H3 H3' k3 e3 ((f1.trans f2).trans f3) d3⟩⟩
end
theorem TabS.fr {H H' : Hp} {T m : Addr} {q : Str} {o : HO} (t : TabS H T q) (f : Fr [m] H H') (hm : H m = some o) (ho : ∀ ps, o ≠ .tbl ps) (hc : ∀ c q, o ≠ CodeO c q) : TabS H' T q := by
  obtain ⟨ps, h1, h2, h3⟩ := t
  refine ⟨ps, f.kp _ _ h1 (.inl fun z => ?_), h2, fun pos cv hv => ?_⟩
  · rw [List.mem_singleton.mp z, hm] at h1
    exact ho ps (Option.some.inj h1)
  · obtain ⟨c, e1, e2⟩ := h3 pos cv hv
    refine ⟨c, e1, f.kp _ _ e2 (.inl fun z => ?_)⟩
    rw [List.mem_singleton.mp z, hm] at e2
    exact hc m q (Option.some.inj e2)
/-- the draw, a pair, the table of a def's lambdas -/
structure Br (H : Hp) (dr : Addr × Addr) (bd : Nat) (p C : Addr) (s : PSt) (T : Addr) (q : Str) : Prop where
  d : DrawAt H dr bd
  p : PairAt H p C s
  t : TabS H T q
section
variable {H H' : Hp} {dr : Addr × Addr} {bd bd' : Nat} {p C T : Addr} {s s' : PSt} {q : Str}
theorem ins_ne {dx : Addr} {fs : List (Str × V)} : (∀ ps, HO.ins C dx fs ≠ .tbl ps) ∧ ∀ c q, HO.ins C dx fs ≠ CodeO c q := ⟨fun ps z => (by cases z), fun c q z => (by unfold CodeO at z; cases z)⟩
theorem TabS.frP {d1 d2 d3 d4 d5 d6 : PyData} (t : TabS H T q) (f : Fr [p] H H') (k : PairD H p C d1 d2 d3 d4 d5 d6) : TabS H' T q := by
  obtain ⟨dx, fs, h⟩ := k.ins
  exact TabS.fr t f h ins_ne.1 ins_ne.2
theorem TabS.frD (t : TabS H T q) (f : Fr [dr.1] H H') (k : DrawAt H dr bd) : TabS H' T q := by
  obtain ⟨ns, at_, lf, us, hd, _⟩ := k
  exact TabS.fr t f hd.d (fun ps z => (by cases z)) fun c q z => (by unfold CodeO at z; cases z)
theorem tab_ne_pair {d1 d2 d3 d4 d5 d6 : PyData} (t : TabS H T q) (k : PairD H p C d1 d2 d3 d4 d5 d6) : p ≠ T := fun z => by
  obtain ⟨dx, fs, h⟩ := k.ins
  obtain ⟨ps, h1, _⟩ := t
  rw [← z, h] at h1
  cases h1
theorem tab_ne_draw (t : TabS H T q) (k : DrawAt H dr bd) : T ≠ dr.1 := fun z => by
  obtain ⟨ns, at_, lf, us, hd, _⟩ := k
  obtain ⟨ps, h1, _⟩ := t
  rw [z, hd.d] at h1
  cases h1
theorem Br.same (b : Br H dr bd p C s T q) (e : Same H H') : Br H' dr bd p C s T q := ⟨b.d.same e, b.p.same e, b.t.ext e⟩
theorem Br.onD (b : Br H dr bd p C s T q) (f : Fr [dr.1] H H') (d : DrawAt H' dr bd') : Br H' dr bd' p C s T q := ⟨d, b.p.fr f (draw_ne_pair b.d b.p), TabS.frD b.t f b.d⟩
theorem Br.onP (b : Br H dr bd p C s T q) (f : Fr [p] H H') (k : PairAt H' p C s') : Br H' dr bd p C s' T q := ⟨b.d.fr (draw_ne_pair b.d b.p) f, k, TabS.frP b.t f b.p⟩
theorem Br.onT (b : Br H dr bd p C s T q) (f : Fr [T] H H') (t : TabS H' T q) : Br H' dr bd p C s T q := ⟨b.d.fr (tab_ne_draw b.t b.d) f, b.p.fr f (tab_ne_pair b.t b.p), t⟩
theorem Br.mono (b : Br H dr bd p C s T q) (h : bd ≤ bd') : Br H dr bd' p C s T q := ⟨b.d.mono h, b.p, b.t⟩
end
section
variable {H : Hp} {R : PX} {E : XK} {p C CR CB CN : Addr} {s : PSt}
/-! calls that are refused -/
theorem cs_pcallX {a b : PyData} (hp : PairAt H p C s) (so : s.ok) (o : OddR s.w a b ∨ (noL a = true ∧ noL b = true ∧ isRound s.w s.now.st.ms (a, b) = false)) (k : ∀ c d H2, Fr [p] H H2 → Thrown CR "given" (.tuple [a, b]) c d H2 → PairAt H2 p C s → E c d H2) : CallS (S_p___call__ C CR) [.o (.ref p), .d a, .d b] H E R := by
  have ⟨n1, n2, hf⟩ : noL a = true ∧ noL b = true ∧ isRound s.w s.now.st.ms (a, b) = false := o.elim (fun o => ⟨o.na, o.nb, o.no _⟩) id
  refine ⟨((p, s), (a, b)), rfl, fun H' e => ⟨hp.same e, so, n1, n2⟩, fun x H2 f po => ?_, fun c d H2 f po => k c d H2 f po.2.1 po.2.2⟩
  obtain ⟨q, h1, h2, _⟩ := po
  rw [← h1] at h2
  exact absurd (hf.symm.trans h2) (by decide)
theorem cs_iaddX {y : PyData ⊕ List Rd2} {num : PyData} (hp : PairAt H p C s) (so : s.ok) (wr : WrongR s.w s.r s.now.st y num) (k : ∀ c d H2, Fr [p] H H2 → Thrown CR "number" num c d H2 → PairAt H2 p C s → E c d H2) : CallS (S_p___iadd__ C CR) [.o (.ref p), .d (iaX y)] H E R := by
  refine ⟨((p, s), y), rfl, fun H' e => ⟨hp.same e, so, fun d hd => (wr.no d hd).1, fun rs hrs => (wr.row rs hrs).1⟩, fun x H2 f po => ?_, fun c d H2 f po => ?_⟩
  · obtain ⟨_, qs, st, e, h1, h2, _⟩ := po
    obtain ⟨_, n, h3, _⟩ := wr.row _ h1
    have h2 : gone s.w s.r s.now.st [s.now.st.df] 0 (Rnd.rd <$> qs) = (none, s.now.st.df :: e, st) := h2
    rw [h2] at h3
    cases h3
  · obtain ⟨hp2, ⟨v, h1, h2⟩ | ⟨rs, n, h1, h2, h3⟩⟩ := po
    · obtain ⟨_, rfl⟩ := wr.no v h1
      exact k c d H2 f h2 hp2
    · obtain ⟨_, m, h4, rfl⟩ := wr.row rs h1
      have h2 : (gone s.w s.r s.now.st [s.now.st.df] 0 rs).1 = some n := h2
      rw [h4] at h2
      cases h2
      exact k c d H2 f h3 hp2
theorem cs_undoX {d : PyData} (hp : PairAt H p C s) (so : s.ok) (h : (∀ n : Int, d = .int n → n < 1) ∨ ∃ n : Int, d = .int n ∧ 1 ≤ n ∧ (s.past.length : Nat) < n)
    (k : ∀ c dd H2, Fr [p] H H2 → PairAt H2 p C s → ((∀ n : Int, d = .int n → n < 1) → Thrown CB "given" d c dd H2) → ((∃ n : Int, d = .int n ∧ 1 ≤ n) → Thrown CN "many" d c dd H2) → E c dd H2) : CallS (S_p_undo C CB CN) [.o (.ref p), .d d] H E R := by
  refine ⟨((p, s), d), rfl, fun H' e => ⟨hp.same e, so⟩, fun x H2 f po => ?_, fun c dd H2 f po => ?_⟩
  · obtain ⟨_, n, h1, h2, h3, _⟩ := po
    have h1 : d = .int (n : Nat) := h1
    have h3 : n ≤ s.past.length := h3
    rcases h with h | ⟨m, h4, h5, h6⟩
    · have := h _ h1
      omega
    · rw [h1] at h4
      cases h4
      omega
  · obtain ⟨hp2, ⟨h1, h2⟩ | ⟨n, h1, h2, h3, h4⟩⟩ := po
    · refine k c dd H2 f hp2 (fun _ => h2) fun ⟨n, hn, h5⟩ => ?_
      have := h1 n hn
      omega
    · refine k c dd H2 f hp2 (fun h5 => ?_) fun _ => h4
      have := h5 n h1
      omega
theorem cs_redoX {d : PyData} (hp : PairAt H p C s) (so : s.ok) (h : ∀ n : Int, d = .int n → n < 1)
    (k : ∀ c dd H2, Fr [p] H H2 → PairAt H2 p C s → Thrown CB "given" d c dd H2 → E c dd H2) : CallS (S_p_redo C CB CN) [.o (.ref p), .d d] H E R := by
  refine ⟨((p, s), d), rfl, fun H' e => ⟨hp.same e, so⟩, fun x H2 f po => ?_, fun c dd H2 f po => ?_⟩
  · obtain ⟨_, n, h1, h2, h3, _⟩ := po
    have := h _ h1
    omega
  · obtain ⟨hp2, ⟨h1, h2⟩ | ⟨n, h1, h2, h3, h4⟩⟩ := po
    · exact k c dd H2 f hp2 h2
    · have := h n h1
      omega
end
theorem PSt.good.sho {s : PSt} (sg : s.good) : Sho 16000000 (.list [s.now.st.enc, .tuple (s.now.rs.map rde), .int (s.now.rs.length : Nat)]) ∧ (PyData.list [s.now.st.enc, .tuple (s.now.rs.map rde), .int (s.now.rs.length : Nat)]).depth ≤ 50 := by
  have so := sg.ok
  have hg := sg.run
  have nr := so.nr
  have B := gone_abs so.w so.r (B := 512) (s := ⟨0, 0, s.b⟩) (fd := [s.b]) ⟨Int.le_refl 0, by have := so.r.pos; show (0 : Int) < (s.r.length : Nat); omega⟩ hg (by have := so.b; show s.b.natAbs ≤ 512; omega) (by decide) (fun y hy => by rw [List.mem_singleton] at hy; subst hy; have := so.b; omega)
  rw [List.length_map] at B
  have MS := gone_ms hg ⟨so.w.c1, Int.le_refl 0⟩ so.w.c1
  have rl := so.r.few
  have wl := so.w.c2
  have st := so.st
  refine ⟨(shoL (n := 2100000) (k := 3) (all_cons ((shoT (n := 2000) (k := 3) (all_cons (shoS (by have := st.1; have := st.2; omega)) (all_cons (shoS (by have := MS.1; have := MS.2; omega)) (all_cons (shoI B.2 nr) all_nil))) (Nat.le_of_ble_eq_true rfl)).mono (by decide)) (all_cons (sho_Rs so.w hg nr) (all_cons ((shoS (by omega)).mono (by decide)) all_nil))) (Nat.le_of_ble_eq_true rfl)).mono (by decide), ?_⟩
  exact Nat.le_trans (shp_l (n := 5) (all_cons (s.now.st.shp.mono (by decide)) (all_cons ((rds_shp _).mono (by decide)) (all_cons shp_i all_nil)))).2 (by decide)
def qLam (x : Str) : Str := (envOfC x (defScope (top 68)) 0 0 .none).qual ++ "<lambda>"
def S__law_refused_right (C T : Addr) : Spc where
  ι := (Addr × Addr) × Nat × Addr × PSt
  args i := [.o (.ref i.1.1), .o (.ref i.2.2.1), .d i.2.2.2.w.enc]
  pre i H := Br H i.1 i.2.1 i.2.2.1 C i.2.2.2 T (qLam "_law_refused_right") ∧ i.2.1 ≤ 500000000 ∧ i.2.2.2.good
  mod i := [i.1.1, i.2.2.1, T]
  post i x H := x = .d (.bool true) ∧ Br H i.1 (i.2.1 + 4) i.2.2.1 C i.2.2.2 T (qLam "_law_refused_right")
theorem Fr.a3 {a b c : Addr} {H H' : Hp} (f : Fr [a] H H') : Fr [a, b, c] H H' := f.mono fun x hx => by simp at hx; simp [hx]
theorem Fr.b3 {a b c : Addr} {H H' : Hp} (f : Fr [b] H H') : Fr [a, b, c] H H' := f.mono fun x hx => by simp at hx; simp [hx]
theorem Fr.c3 {a b c : Addr} {H H' : Hp} (f : Fr [c] H H') : Fr [a, b, c] H H' := f.mono fun x hx => by simp at hx; simp [hx]
theorem lostE (w : Wld) (h : 0 ≤ w.ls) : [PyData.tuple [.int w.lo, .int 0]] ++ (List.replicate (w.ls + 1).toNat [PyData.tuple [.int w.lo, .none]]).flatten = .tuple [.int w.lo, .int 0] :: List.replicate (w.ls.toNat + 1) (.tuple [.int w.lo, .none]) := by
  have e : (w.ls + 1).toNat = w.ls.toNat + 1 := by omega
  rw [e]
  have key : ∀ n : Nat, (List.replicate n [PyData.tuple [.int w.lo, .none]]).flatten = List.replicate n (.tuple [.int w.lo, .none]) := fun n => by
    induction n with
    | zero => rfl
    | succ n ih => rw [List.replicate_succ, List.flatten_cons, ih, List.replicate_succ]; rfl
  rw [key]
  rfl
section
variable {ca : EC → Addr} {P : Program} {w : World} {K : PySem.W.Frag} {mg : Str → Option Value} {base : Heap} {f C cc PP : Addr} {fd : FuncData} (G : GF mg) (Pf : PF P w K mg base C (ca .round) (ca .run) (ca .number) (ca .left))
include G Pf
omit G Pf in
theorem sc__law_refused_right : FnScope ["_law_draw", "_law_pair", "_law_world_here", "_law_kept", "_law_missed", "_law_odds", "_law_bad", "_law_good", "_law_last", "_law_odd", "_law_lost", "_law_wrong", "_law_some", "_law_number", "_law_told"] ["_law_draw", "_law_pair", "_law_world_here"] (defScope (top 68)) := ⟨rfl, rfl, rfl, by decide +kernel, rfl, by decide +kernel, by decide +kernel⟩
theorem ok__law_refused_right (D__law_next : DefOk P w K mg base 1 "_law_next" ["_law_draw", "_law_total"] (S__law_next)) (D__law_pick : DefOk P w K mg base 2 "_law_pick" ["_law_draw", "_law_some"] (S__law_pick)) (D__law_added : DefOk P w K mg base 7 "_law_added" ["_law_pair", "_law_some"] (S_p___iadd__ C (ca .run))) (SD : SaidD P w K mg base ca) (TB : TabB base mg cc PP) (hcc : fd.code = .ref cc) (F : FnP K "_law_refused_right" "_law_refused_right" (top 68) [] f fd) : FnOkG P w K mg base (L2.CX P w) 11 f fd ["_law_draw", "_law_pair", "_law_world_here"] (sp (S__law_refused_right C PP)) := by
  have sc := sc__law_refused_right
  obtain ⟨gR, fdR, FR, MR, gfR, gVR, gXR, KBR, gvr, gxr⟩ := Pf.redoK
  refine ok_pureGC F hcc sc (fun _ => rfl) fun cdv A outer s H E hcd hgd hr => ⟨_, pss_cons (ps_par (i := 3) (j := 4) rfl sc.nd rfl rfl (by decide) rfl rfl (pa_cons (pe_callB (call_repr hgd hr.un100) rfl (G.gfree "repr" (by decide +kernel)) (by decide +kernel) (pa_cons (pe_lst (pa_cons (pe_pD Pf.stand Pf.k.cls (hr.mono (by decide)) (pe_var (i := 1) rfl (.inr (.inl rfl)))) (pa_cons (pe_pD Pf.rounds Pf.k.cls (hr.mono (by decide)) (pe_var (i := 1) rfl (.inr (.inl rfl)))) (pa_cons (pe_callB (call_lenD Pf.len (hr.mono (by decide))) rfl (G.gfree "len" (by decide +kernel)) (by decide +kernel) (pa_cons (pe_var (i := 1) rfl (.inr (.inl rfl))) (pa_nil))) (pa_nil))))) (pa_nil))) (pa_cons (pe_ix ix_seq (pe_pD Pf.stand Pf.k.cls (hr.mono (by decide)) (pe_var (i := 1) rfl (.inr (.inl rfl)))) (pe_int) (fun _ _ => rfl)) (pa_nil))) (by rfl)) (pss_cons (ps_set (i := 5) sc.nd rfl (.inl rfl) (pe_lst (pa_cons (pe_tup (pa_cons (pe_non) (pa_cons (pe_int) (pa_nil)))) (pa_cons (pe_tup (pa_cons (pe_op op_add (pe_ix ix_seq (pe_var (i := 2) rfl (.inl rfl)) (pe_int) (fun _ _ => rfl)) (pe_int)) (pa_cons (pe_int) (pa_nil)))) (pa_cons (pe_tup (pa_cons (pe_ix ix_seq (pe_var (i := 2) rfl (.inl rfl)) (pe_int) (fun _ _ => rfl)) (pa_cons (pe_op op_add (pe_ix ix_seq (pe_var (i := 2) rfl (.inl rfl)) (pe_int) (fun _ _ => rfl)) (pe_int)) (pa_nil)))) (pa_nil)))))) (pss_cons (ps_set (i := 5) sc.nd rfl (.inl rfl) (pe_op op_cat (pe_var (i := 5) rfl (.inl rfl)) (pe_lst (pa_cons (pe_tup (pa_cons (pe_bl) (pa_cons (pe_int) (pa_nil)))) (pa_cons (pe_tup (pa_cons (pe_ix ix_seq (pe_var (i := 2) rfl (.inl rfl)) (pe_int) (fun _ _ => rfl)) (pa_cons (pe_str) (pa_nil)))) (pa_cons (pe_tup (pa_cons (pe_str) (pa_cons (pe_non) (pa_nil)))) (pa_nil))))))) (pss_cons (ps_par3 (i := 6) (j := 7) (l := 8) rfl sc.nd rfl rfl rfl (by decide) (by decide) (by decide) rfl rfl rfl (pa_cons (pe_D D__law_pick (hr.mono (by decide)) rfl pass_none (pa_cons (pe_var (i := 0) rfl (.inl rfl)) (pa_cons (pe_var (i := 5) rfl (.inl rfl)) (pa_nil)))) (pa_cons (pe_tup (pa_cons (pe_ix ix_seq (pe_var (i := 2) rfl (.inl rfl)) (pe_int) (fun _ _ => rfl)) (pa_cons (pe_int) (pa_nil)))) (pa_cons (pe_tup (pa_cons (pe_ix ix_seq (pe_var (i := 2) rfl (.inl rfl)) (pe_int) (fun _ _ => rfl)) (pa_cons (pe_non) (pa_nil)))) (pa_nil)))) (by rfl)) (pss_cons (ps_set (i := 9) sc.nd rfl (.inr rfl) (pe_ifExp (PW.pt (pw_and (pt_cmpR (op_eqD hr.units) (pe_var (i := 4) rfl (.inl rfl)) (pe_ix ix_seq (pe_var (i := 2) rfl (.inl rfl)) (pe_int) (fun _ _ => rfl)) (nomark _)) (pw_and1 (pt_cmpR (op_eqD hr.units) (pe_D D__law_next (hr.mono (by decide)) rfl pass_none (pa_cons (pe_var (i := 0) rfl (.inl rfl)) (pa_cons (pe_int) (pa_nil)))) (pe_int) (nomark _))))) (pe_var (i := 8) rfl (.inl rfl)) (pe_var (i := 6) rfl (.inl rfl)))) (pss_cons (ps_if (pt_cmpR op_ne (pe_callB (call_repr hgd hr.un100) rfl (G.gfree "repr" (by decide +kernel)) (by decide +kernel) (pa_cons (pe_said (t := fun E => tCO C (sp (S_p___call__ C (ca .round))) E (tVar 1) (tCons (tOp (rIx K) (tVar 9) (tC (.int 0))) (tCons (tOp (rIx K) (tVar 9) (tC (.int 1))) (tNil)))) SD rfl TB hcd (k := 7) (by decide) (hr.mono (by decide)) (lamN_by (N := ["_law_draw", "_law_pair", "_law_world_here", "_law_kept", "_law_missed", "_law_odds", "_law_bad", "_law_good", "_law_last", "_law_odd", "_law_lost", "_law_wrong", "_law_some", "_law_number", "_law_told"]) (sc := defScope (top 68)) (by decide +kernel)) defEv0 bind0 (fun A outer s H E f c' hr => pe_cPL Pf (hr.mono (by decide)) (passLam rfl rfl) (pe_var (i := 1) rfl (.inr (.inr rfl))) (pa_cons (pe_ix ix_seq (pe_var (i := 9) rfl (.inr (.inr rfl))) (pe_int) (fun _ _ => rfl)) (pa_cons (pe_ix ix_seq (pe_var (i := 9) rfl (.inr (.inr rfl))) (pe_int) (fun _ _ => rfl)) (pa_nil))))) (pa_nil))) (pe_callB (call_repr hgd hr.un100) rfl (G.gfree "repr" (by decide +kernel)) (by decide +kernel) (pa_cons (pe_tup (pa_cons (pe_str) (pa_cons (pe_var (i := 9) rfl (.inr (.inl rfl))) (pa_nil)))) (pa_nil))) (nomark _)) (pss_one (ps_ret (pe_bl))) (pss_nil)) (pss_cons (ps_set (i := 10) sc.nd rfl (.inl rfl) (pe_op op_catA (pe_tup (pa_cons (pe_var (i := 7) rfl (.inl rfl)) (pa_nil))) (pe_op op_repT1 (pe_tup (pa_cons (pe_var (i := 8) rfl (.inl rfl)) (pa_nil))) (pe_op op_add (pe_ix ix_seq (pe_var (i := 2) rfl (.inl rfl)) (pe_int) (fun _ _ => rfl)) (pe_int))))) (pss_cons (ps_set (i := 11) sc.nd rfl (.inl rfl) (pe_lst (pa_cons (pe_tup (pa_cons (pe_non) (pa_cons (pe_non) (pa_nil)))) (pa_cons (pe_tup (pa_cons (pe_lst (pa_cons (pe_var (i := 7) rfl (.inl rfl)) (pa_nil))) (pa_cons (pe_non) (pa_nil)))) (pa_cons (pe_tup (pa_cons (pe_tup (pa_cons (pe_var (i := 7) rfl (.inl rfl)) (pa_cons (pe_var (i := 6) rfl (.inl rfl)) (pa_nil)))) (pa_cons (pe_int) (pa_nil)))) (pa_nil)))))) (pss_cons (ps_set (i := 11) sc.nd rfl (.inl rfl) (pe_op op_cat (pe_var (i := 11) rfl (.inl rfl)) (pe_lst (pa_cons (pe_tup (pa_cons (pe_tup (pa_cons (pe_var (i := 6) rfl (.inl rfl)) (pa_nil))) (pa_cons (pe_int) (pa_nil)))) (pa_cons (pe_tup (pa_cons (pe_int) (pa_cons (pe_non) (pa_nil)))) (pa_cons (pe_tup (pa_cons (pe_var (i := 10) rfl (.inl rfl)) (pa_cons (pe_op op_sub (pe_callB call_len_seq rfl (G.gfree "len" (by decide +kernel)) (by decide +kernel) (pa_cons (pe_var (i := 10) rfl (.inl rfl)) (pa_nil))) (pe_int)) (pa_nil)))) (pa_nil))))))) (pss_cons (ps_asg (pe_D D__law_pick (hr.mono (by decide)) rfl pass_none (pa_cons (pe_var (i := 0) rfl (.inl rfl)) (pa_cons (pe_var (i := 11) rfl (.inl rfl)) (pa_nil)))) (pg_tup rfl (pgs_cons (pg_name (i := 12) sc.nd rfl (.inr rfl)) (pgs_cons (pg_name (i := 13) sc.nd rfl (.inl rfl)) (pgs_nil))))) (pss_cons (ps_if (pt_cmpR (op_neD hr.units) (pe_said (t := fun E => tCall (sp (S_p___iadd__ C (ca .run))) [] E (tCons (tVar 1) (tCons (tVar 12) (tNil)))) SD rfl TB hcd (k := 7) (by decide) (hr.mono (by decide)) (lamN_by (N := ["_law_draw", "_law_pair", "_law_world_here", "_law_kept", "_law_missed", "_law_odds", "_law_bad", "_law_good", "_law_last", "_law_odd", "_law_lost", "_law_wrong", "_law_some", "_law_number", "_law_told"]) (sc := defScope (top 68)) (by decide +kernel)) defEv0 bind0 (fun A outer s H E f c' hr => pe_D D__law_added (hr.mono (by decide)) rfl (passLam rfl rfl) (pa_cons (pe_var (i := 1) rfl (.inr (.inr rfl))) (pa_cons (pe_var (i := 12) rfl (.inr (.inr rfl))) (pa_nil))))) (pe_tup (pa_cons (pe_str) (pa_cons (pe_var (i := 13) rfl (.inl rfl)) (pa_nil)))) (nomark _)) (pss_one (ps_ret (pe_bl))) (pss_nil)) (pss_cons (ps_set (i := 9) sc.nd rfl (.inr rfl) (pe_D D__law_pick (hr.mono (by decide)) rfl pass_none (pa_cons (pe_var (i := 0) rfl (.inl rfl)) (pa_cons (pe_lst (pa_cons (pe_non) (pa_cons (pe_int) (pa_cons (pe_un un_neg (pe_int)) (pa_cons (pe_bl) (pa_cons (pe_str) (pa_cons (pe_tup (pa_cons (pe_int) (pa_nil))) (pa_nil)))))))) (pa_nil))))) (pss_cons (ps_set (i := 14) sc.nd rfl (.inl rfl) (pe_lst (pa_cons (pe_said (t := fun E => tMeth C "undo" (sp (S_p_undo C (ca .number) (ca .left))) [] E (tVar 1) (tCons (tVar 9) (tNil))) SD rfl TB hcd (k := 7) (by decide) (hr.mono (by decide)) (lamN_by (N := ["_law_draw", "_law_pair", "_law_world_here", "_law_kept", "_law_missed", "_law_odds", "_law_bad", "_law_good", "_law_last", "_law_odd", "_law_lost", "_law_wrong", "_law_some", "_law_number", "_law_told"]) (sc := defScope (top 68)) (by decide +kernel)) defEv0 bind0 (fun A outer s H E f c' hr => pe_mD Pf.undo Pf.k.cls (hr.mono (by decide)) (passLam rfl rfl) (pe_var (i := 1) rfl (.inr (.inr rfl))) (pa_cons (pe_var (i := 9) rfl (.inr (.inr rfl))) (pa_nil)))) (pa_cons (pe_said (t := fun E => tMethK C "redo" (sp (S_p_redo C (ca .number) (ca .left))) gVR E (tVar 1) (tCons (tVar 9) (tNil))) SD rfl TB hcd (k := 7) (by decide) (hr.mono (by decide)) (lamN_by (N := ["_law_draw", "_law_pair", "_law_world_here", "_law_kept", "_law_missed", "_law_odds", "_law_bad", "_law_good", "_law_last", "_law_odd", "_law_lost", "_law_wrong", "_law_some", "_law_number", "_law_told"]) (sc := defScope (top 68)) (by decide +kernel)) defEv1 (bind1 rfl) (fun A outer s H E f c' hr => pe_methK (pe_var (i := 1) rfl (.inr (.inr rfl))) Pf.k.cls MR FR (hr.mono (by decide)) KBR (passLam rfl rfl) (pk_cons (pe_var (i := 9) rfl (.inr (.inr rfl))) pk_nil))) (pa_nil))))) (pss_cons (ps_set (i := 14) sc.nd rfl (.inl rfl) (pe_op op_cat (pe_var (i := 14) rfl (.inl rfl)) (pe_lst (pa_cons (pe_said (t := fun E => tMeth C "undo" (sp (S_p_undo C (ca .number) (ca .left))) [] E (tVar 1) (tCons (tC (.int 2000)) (tNil))) SD rfl TB hcd (k := 7) (by decide) (hr.mono (by decide)) (lamN_by (N := ["_law_draw", "_law_pair", "_law_world_here", "_law_kept", "_law_missed", "_law_odds", "_law_bad", "_law_good", "_law_last", "_law_odd", "_law_lost", "_law_wrong", "_law_some", "_law_number", "_law_told"]) (sc := defScope (top 68)) (by decide +kernel)) defEv0 bind0 (fun A outer s H E f c' hr => pe_mD Pf.undo Pf.k.cls (hr.mono (by decide)) (passLam rfl rfl) (pe_var (i := 1) rfl (.inr (.inr rfl))) (pa_cons (pe_int) (pa_nil)))) (pa_nil))))) (pss_cons (ps_if (pt_not (pt_cmpR op_eq (pe_callB (call_repr hgd hr.un100) rfl (G.gfree "repr" (by decide +kernel)) (by decide +kernel) (pa_cons (pe_var (i := 14) rfl (.inl rfl)) (pa_nil))) (pe_callB (call_repr hgd hr.un100) rfl (G.gfree "repr" (by decide +kernel)) (by decide +kernel) (pa_cons (pe_op op_cat (pe_op op_rep (pe_lst (pa_cons (pe_tup (pa_cons (pe_str) (pa_cons (pe_var (i := 9) rfl (.inr (.inl rfl))) (pa_nil)))) (pa_nil))) (pe_int)) (pe_lst (pa_cons (pe_tup (pa_cons (pe_str) (pa_cons (pe_int) (pa_nil)))) (pa_nil)))) (pa_nil))) (nomark _))) (pss_one (ps_ret (pe_bl))) (pss_nil)) (pss_one (ps_ret (pe_cmpR op_eq (pe_callB (call_repr hgd hr.un100) rfl (G.gfree "repr" (by decide +kernel)) (by decide +kernel) (pa_cons (pe_lst (pa_cons (pe_pD Pf.stand Pf.k.cls (hr.mono (by decide)) (pe_var (i := 1) rfl (.inr (.inl rfl)))) (pa_cons (pe_pD Pf.rounds Pf.k.cls (hr.mono (by decide)) (pe_var (i := 1) rfl (.inr (.inl rfl)))) (pa_cons (pe_callB (call_lenD Pf.len (hr.mono (by decide))) rfl (G.gfree "len" (by decide +kernel)) (by decide +kernel) (pa_cons (pe_var (i := 1) rfl (.inr (.inl rfl))) (pa_nil))) (pa_nil))))) (pa_nil))) (pe_var (i := 3) rfl (.inl rfl)) (nomark _)))))))))))))))))), fun (i : (Addr × Addr) × Nat × Addr × PSt) hp => ?_⟩
  obtain ⟨dr, bd, p, s⟩ := i
  obtain ⟨b0, hb, sg⟩ := (show Br H dr bd p C s PP (qLam "_law_refused_right") ∧ bd ≤ 500000000 ∧ s.good from hp)
  show Go [] _ (EB [dr.1, p, PP] H _) [some (.o (.ref dr.1)), some (.o (.ref p)), some (.d s.w.enc), none, none, none, none, none, none, none, none, none, none, none, none] H
  have so := sg.ok
  have nr := so.nr
  have sh := sg.sho
  have c1 := so.w.c1
  have c2 := so.w.c2
  dsimp only [List.set_cons_succ, List.set_cons_zero]
  refine go_seq (go_par (wa_cons (w_cb (wa_cons (w_lst (wa_cons (w_pr (w_var rfl ⟨p, s, rfl, b0.p, cs_pstand b0.p fun H1 e1 => ?_⟩))))))))
  have b1 := b0.same e1
  refine wa_cons (w_pr (w_var rfl ⟨p, s, rfl, b1.p, cs_prounds b1.p fun H2 e2 => ?_⟩))
  have b2 := b1.same e2
  refine wa_cons (w_cb (wa_cons (w_var rfl (wa_nil (oa_plen b2.p (by omega) fun H3 e3 => ?_)))))
  have b3 := b2.same e3
  refine wa_nil ⟨[_, _, _], rfl, Nat.le_of_ble_eq_true rfl, wa_nil (oa_repr (.inr rfl) sh.1.1 sh.2 sh.1.2 ?_)⟩
  refine wa_cons (w_op (w_pr (w_var rfl ⟨p, s, rfl, b3.p, cs_pstand b3.p fun H4 e4 => w_int (o2_ixT rfl (wa_nil ⟨_, _, rfl, ?_⟩))⟩)))
  have b4 := b3.same e4
  have f4 : Same H H4 := ((e1.trans e2).trans e3).trans e4
  dsimp only [List.set_cons_succ, List.set_cons_zero]
  refine go_seq (go_set (w_lst (wa_cons (w_tup (wa_cons (w_non (wa_cons (w_int (wa_nil ⟨[_, _], rfl, Nat.le_of_ble_eq_true rfl, ?_⟩)))))))))
  refine wa_cons (w_tup (wa_cons (w_op (w_op (w_var rfl (w_int (o2_ixT rfl (w_int (o2_ii (wa_cons (w_int (wa_nil ⟨[_, _], rfl, Nat.le_of_ble_eq_true rfl, ?_⟩))))))))))))
  refine wa_cons (w_tup (wa_cons (w_op (w_var rfl (w_int (o2_ixT rfl (wa_cons (w_op (w_op (w_var rfl (w_int (o2_ixT rfl (w_int (o2_ii (wa_nil ⟨[_, _], rfl, Nat.le_of_ble_eq_true rfl, ?_⟩)))))))))))))))
  refine wa_nil ⟨[_, _, _], rfl, Nat.le_of_ble_eq_true rfl, ?_⟩
  dsimp only [List.set_cons_succ, List.set_cons_zero]
  refine go_seq (go_set (w_op (w_var rfl (w_lst (wa_cons (w_tup (wa_cons (w_bl (wa_cons (w_int (wa_nil ⟨[_, _], rfl, Nat.le_of_ble_eq_true rfl, ?_⟩)))))))))))
  refine wa_cons (w_tup (wa_cons (w_op (w_var rfl (w_int (o2_ixT rfl (wa_cons (w_str (wa_nil ⟨[_, _], rfl, Nat.le_of_ble_eq_true rfl, ?_⟩)))))))))
  refine wa_cons (w_tup (wa_cons (w_str (wa_cons (w_non (wa_nil ⟨[_, _], rfl, Nat.le_of_ble_eq_true rfl, wa_nil ⟨[_, _, _], rfl, Nat.le_of_ble_eq_true rfl, ?_⟩⟩))))))
  refine o2_catLE (K := K) (zs := oddL s.w) rfl (Nat.le_of_ble_eq_true rfl) ?_
  dsimp only [List.set_cons_succ, List.set_cons_zero]
  refine go_seq (go_par3 (wa_cons (w_call0 (wa_cons (w_var rfl (wa_cons (w_var rfl (wa_nil ?_))))))))
  refine cs_pick b4.d (by omega) (Nat.le_of_ble_eq_true rfl) (Nat.le_of_ble_eq_true rfl) fun z H5 f5 d5 hz => ?_
  obtain ⟨a, b, rfl, od⟩ := odd_of so.w hz
  have b5 := b4.onD f5 d5
  refine wa_cons (w_tup (wa_cons (w_op (w_var rfl (w_int (o2_ixT rfl (wa_cons (w_int (wa_nil ⟨[_, _], rfl, Nat.le_of_ble_eq_true rfl, ?_⟩)))))))))
  refine wa_cons (w_tup (wa_cons (w_op (w_var rfl (w_int (o2_ixT rfl (wa_cons (w_non (wa_nil ⟨[_, _], rfl, Nat.le_of_ble_eq_true rfl, ?_⟩)))))))))
  refine wa_nil ⟨_, _, _, rfl, ?_⟩
  dsimp only [List.set_cons_succ, List.set_cons_zero]
  refine go_seq (go_set (W.imp (R := fun x H6 => ∃ a2 b2, x = .d (.tuple [a2, b2]) ∧ (OddR s.w a2 b2 ∨ (noL a2 = true ∧ noL b2 = true ∧ isRound s.w s.now.st.ms (a2, b2) = false)) ∧ Sho 4100 (.tuple [a2, b2]) ∧ Shp 1 (.tuple [a2, b2]) ∧ Fr [dr.1] H5 H6 ∧ Br H6 dr (bd + 2) p C s PP (qLam "_law_refused_right")) ?_ fun x H6 hx => ?_))
  · refine w_if (wt_and (wt_test (w_op (w_var rfl (w_op (w_var rfl (w_int (o2_ixT rfl (o2_eqI ⟨_, rfl, fun hm => ?_, fun _ => ?_⟩)))))))))
    · have hm := of_decide_eq_true hm
      refine wt_test (w_op (w_call0 (wa_cons (w_var rfl (wa_cons (w_int (wa_nil ?_)))))))
      refine cs_next b5.d (by omega) (by decide) (by decide) fun n H6 f6 d6 n0 n1 => ?_
      refine w_int (o2_eqI ⟨_, rfl, fun _ => ?_, fun _ => ?_⟩)
      · refine w_var rfl ⟨_, _, rfl, .inr ⟨rfl, rfl, ?_⟩, (last_odd so.w).1, (last_odd so.w).2, f6, b5.onD f6 d6⟩
        rw [last_rd so.w]
        exact decide_eq_false (by omega)
      · exact w_var rfl ⟨_, _, rfl, .inl od, od.sho, od.shp, f6, b5.onD f6 d6⟩
    · exact ⟨fun z => by (cases z), fun _ => w_var rfl ⟨_, _, rfl, .inl od, od.sho, od.shp, Fr.refl _, b5.mono (by omega)⟩⟩
  obtain ⟨a2, b2', rfl, od2, sho2, shp2, f6, b6⟩ := hx
  have n2 : noL (.tuple [a2, b2']) = true := by
    rcases od2 with o | o
    · simp [noL, noLs, o.na, o.nb]
    · simp [noL, noLs, o.1, o.2.1]
  have shR : Sho 10000 (.tuple [.str "round", .tuple [a2, b2']]) ∧ (PyData.tuple [.str "round", .tuple [a2, b2']]).depth ≤ 50 := ⟨(shoT (n := 4100) (k := 2) (all_cons ((sho_str (by decide +kernel)).mono (by decide)) (all_cons sho2 all_nil)) (Nat.le_of_ble_eq_true rfl)).mono (by decide), Nat.le_trans (shp_t (n := 1) (all_cons (shp_s (by decide +kernel)) (all_cons shp2 all_nil))).2 (by decide)⟩
  have g6 : Fr [dr.1, p, PP] H H6 := (f4.frq.trans f5.a3).trans f6.a3
  dsimp only [List.set_cons_succ, List.set_cons_zero]
  refine go_seq (go_if (wt_test (w_op (w_cb (wa_cons (w_said b6.t fun H7 f7 t7 E7 k7 => ?_))))))
  have b7 := b6.onT f7 t7
  refine w_cO (w_var rfl ⟨p, rfl, wa_cons (w_op (w_var rfl (w_int (o2_ixT rfl (wa_cons (w_op (w_var rfl (w_int (o2_ixT rfl (wa_nil ⟨b7.p.ins, ?_⟩))))))))))⟩)
  refine cs_pcallX b7.p so od2 fun c d H8 f8 th8 hp8 => k7 _ _ _ f8.ft (Raised.of .rd th8 n2 fun H9 e9 => ?_)
  have b9 := (b7.onP f8 hp8).same e9
  have g9 := ((g6.trans f7.c3).trans f8.b3).trans e9.frq
  refine wa_nil (oa_repr (.inr rfl) shR.1.1 shR.2 (Nat.le_trans shR.1.2 (by decide)) ?_)
  refine w_cb (wa_cons (w_tup (wa_cons (w_str (wa_cons (w_var rfl (wa_nil ⟨[_, _], rfl, Nat.le_of_ble_eq_true rfl, wa_nil (oa_repr (.inr rfl) shR.1.1 shR.2 (Nat.le_trans shR.1.2 (by decide)) ?_)⟩)))))))
  refine o2_neSS ⟨_, rfl, both_f (by simp [EK.word]) (go_next ?_)⟩
  dsimp only [List.set_cons_succ, List.set_cons_zero]
  refine go_seq (go_set (w_op (w_tup (wa_cons (w_var rfl (wa_nil ⟨[_], rfl, Nat.le_of_ble_eq_true rfl, ?_⟩))))))
  refine w_op (w_tup (wa_cons (w_var rfl (wa_nil ⟨[_], rfl, Nat.le_of_ble_eq_true rfl, ?_⟩))))
  refine w_op (w_op (w_var rfl (w_int (o2_ixT rfl (w_int (o2_ii ?_))))))
  refine o2_repT (by simp) (by omega) (by omega) (Nat.le_of_ble_eq_true rfl) ?_
  refine o2_catT (by rw [show (List.replicate (s.w.ls + 1).toNat [PyData.tuple [.int s.w.lo, .none]]).flatten.length = (s.w.ls + 1).toNat by simp]; simp; omega) ?_
  rw [lostE s.w c1]
  dsimp only [List.set_cons_succ, List.set_cons_zero]
  refine go_seq (go_set (w_lst (wa_cons (w_tup (wa_cons (w_non (wa_cons (w_non (wa_nil ⟨[_, _], rfl, Nat.le_of_ble_eq_true rfl, ?_⟩)))))))))
  refine wa_cons (w_tup (wa_cons (w_lst (wa_cons (w_var rfl (wa_nil ⟨[_], rfl, Nat.le_of_ble_eq_true rfl, wa_cons (w_non (wa_nil ⟨[_, _], rfl, Nat.le_of_ble_eq_true rfl, ?_⟩))⟩))))))
  refine wa_cons (w_tup (wa_cons (w_tup (wa_cons (w_var rfl (wa_cons (w_var rfl (wa_nil ⟨[_, _], rfl, Nat.le_of_ble_eq_true rfl, wa_cons (w_int (wa_nil ⟨[_, _], rfl, Nat.le_of_ble_eq_true rfl, ?_⟩))⟩))))))))
  refine wa_nil ⟨[_, _, _], rfl, Nat.le_of_ble_eq_true rfl, ?_⟩
  dsimp only [List.set_cons_succ, List.set_cons_zero]
  refine go_seq (go_set (w_op (w_var rfl (w_lst (wa_cons (w_tup (wa_cons (w_tup (wa_cons (w_var rfl (wa_nil ⟨[_], rfl, Nat.le_of_ble_eq_true rfl, wa_cons (w_int (wa_nil ⟨[_, _], rfl, Nat.le_of_ble_eq_true rfl, ?_⟩))⟩)))))))))))
  refine wa_cons (w_tup (wa_cons (w_int (wa_cons (w_non (wa_nil ⟨[_, _], rfl, Nat.le_of_ble_eq_true rfl, ?_⟩))))))
  refine wa_cons (w_tup (wa_cons (w_var rfl (wa_cons (w_op (w_cb (wa_cons (w_var rfl (wa_nil (oa_len (w_int (o2_iiE (z := ((s.w.ls.toNat + 1 : Nat) : Int)) (by first | (simp; done) | (simp; omega)) (wa_nil ⟨[_, _], rfl, Nat.le_of_ble_eq_true rfl, ?_⟩)))))))))))))
  refine wa_nil ⟨[_, _, _], rfl, Nat.le_of_ble_eq_true rfl, ?_⟩
  refine o2_catLE (K := K) (zs := wrongL s.w a b) rfl (Nat.le_of_ble_eq_true rfl) ?_
  dsimp only [List.set_cons_succ, List.set_cons_zero]
  refine go_seq (go_asg (w_call0 (wa_cons (w_var rfl (wa_cons (w_var rfl (wa_nil ?_)))))))
  refine cs_pick b9.d (by omega) (Nat.le_of_ble_eq_true rfl) (Nat.le_of_ble_eq_true rfl) fun z H10 f10 d10 hz => ?_
  obtain ⟨y, num, rfl, wr⟩ := wrong_of so.w s.r s.now.st od hz
  have b10 := b9.onD f10 d10
  have g10 := g9.trans f10.a3
  refine wg_tup rfl (wgs_cons (wg_name (wgs_cons (wg_name (wgs_nil ?_)))))
  dsimp only [List.set_cons_succ, List.set_cons_zero]
  refine go_seq (go_if (wt_test (w_op (w_said b10.t fun H11 f11 t11 E11 k11 => ?_))))
  have b11 := b10.onT f11 t11
  refine w_call0 (wa_cons (w_var rfl (wa_cons (w_var rfl (wa_nil ?_)))))
  refine cs_iaddX b11.p so wr fun c d H12 f12 th12 hp12 => k11 _ _ _ f12.ft (Raised.of .rn th12 wr.num.1 fun H13 e13 => ?_)
  have b13 := (b11.onP f12 hp12).same e13
  have g13 := ((g10.trans f11.c3).trans f12.b3).trans e13.frq
  have shN : Shp 1 (.tuple [.str "run", num]) := shp_t (all_cons (shp_s (by decide +kernel)) (all_cons wr.num.2 all_nil))
  refine w_tup (wa_cons (w_str (wa_cons (w_var rfl (wa_nil ⟨[_, _], rfl, Nat.le_of_ble_eq_true rfl, ?_⟩)))))
  refine o2_neD shN.ok shN.ok ⟨_, rfl, both_f (by show (!PyData.eqv (.tuple [.str "run", num]) (.tuple [.str "run", num])) = false; rw [shN.self]; rfl) (go_next ?_)⟩
  dsimp only [List.set_cons_succ, List.set_cons_zero]
  refine go_seq (go_set (w_call0 (wa_cons (w_var rfl (wa_cons (w_lst ?_))))))
  refine wa_cons (w_non (wa_cons (w_int (wa_cons (w_un (w_int (o1_i (wa_cons (w_bl (wa_cons (w_str (wa_cons (w_tup (wa_cons (w_int (wa_nil ⟨[_], rfl, Nat.le_of_ble_eq_true rfl, ?_⟩))))))))))))))))
  refine wa_nil ⟨[_, _, _, _, _, _], rfl, Nat.le_of_ble_eq_true rfl, wa_nil ?_⟩
  refine cs_pick (ds := manyL) b13.d (by omega) (Nat.le_of_ble_eq_true rfl) (Nat.le_of_ble_eq_true rfl) fun z H14 f14 d14 hz => ?_
  obtain ⟨zl, zn, zs, zp⟩ := many_of hz
  have b14 := b13.onD f14 d14
  have g14 := g13.trans f14.a3
  dsimp only [List.set_cons_succ, List.set_cons_zero]
  refine go_seq (go_set (w_lst (wa_cons (w_said b14.t fun H15 f15 t15 E15 k15 => ?_))))
  have b15 := b14.onT f15 t15
  refine w_mP (by decide) (w_var rfl ⟨p, _, _, _, _, _, _, rfl, b15.p, wa_cons (w_var rfl (wa_nil ?_))⟩)
  refine cs_undoX b15.p so (.inl zl) fun c d H16 f16 hp16 th16 _ => k15 _ _ _ f16.ft (Raised.of .nb (th16 zl) zn fun H17 e17 => ?_)
  have b17 := (b15.onP f16 hp16).same e17
  have g17 := ((g14.trans f15.c3).trans f16.b3).trans e17.frq
  refine wa_cons (w_said b17.t fun H18 f18 t18 E18 k18 => ?_)
  have b18 := b17.onT f18 t18
  obtain ⟨dx, fs, hi, hl⟩ := b18.p.noMeth (m := "redo") (by decide)
  refine w_methK gvr (w_var rfl ⟨p, dx, fs, rfl, hi, hl, wa_cons (w_var rfl (wa_nil ?_))⟩)
  rw [gxr]
  refine cs_redoX b18.p so zl fun c d H19 f19 hp19 th19 => k18 _ _ _ f19.ft (Raised.of .nb th19 zn fun H20 e20 => ?_)
  have b20 := (b18.onP f19 hp19).same e20
  have g20 := ((g17.trans f18.c3).trans f19.b3).trans e20.frq
  refine wa_nil ⟨[_, _], rfl, Nat.le_of_ble_eq_true rfl, ?_⟩
  dsimp only [List.set_cons_succ, List.set_cons_zero]
  refine go_seq (go_set (w_op (w_var rfl (w_lst (wa_cons (w_said b20.t fun H21 f21 t21 E21 k21 => ?_))))))
  have b21 := b20.onT f21 t21
  refine w_mP (by decide) (w_var rfl ⟨p, _, _, _, _, _, _, rfl, b21.p, wa_cons (w_int (wa_nil ?_))⟩)
  have np := so.np
  refine cs_undoX b21.p so (.inr ⟨2000, rfl, by decide, by omega⟩) fun c d H22 f22 hp22 _ th22 => k21 _ _ _ f22.ft (Raised.of .lf (th22 ⟨2000, rfl, by decide⟩) rfl fun H23 e23 => ?_)
  have b23 := (b21.onP f22 hp22).same e23
  have g23 := ((g20.trans f21.c3).trans f22.b3).trans e23.frq
  refine wa_nil ⟨[_], rfl, Nat.le_of_ble_eq_true rfl, ?_⟩
  refine o2_catLE (K := K) (zs := [.tuple [.str "number", z], .tuple [.str "number", z], .tuple [.str "left", .int 2000]]) rfl (Nat.le_of_ble_eq_true rfl) ?_
  have shM : Sho 5000 (.tuple [.str "number", z]) ∧ Shp 2 (.tuple [.str "number", z]) := ⟨(shoT (n := 2100) (k := 2) (all_cons ((sho_str (by decide +kernel)).mono (by decide)) (all_cons zs all_nil)) (Nat.le_of_ble_eq_true rfl)).mono (by decide), shp_t (all_cons (shp_s (by decide +kernel)) (all_cons zp all_nil))⟩
  have shL : Sho 5000 (.tuple [.str "left", .int 2000]) ∧ Shp 2 (.tuple [.str "left", .int 2000]) := ⟨(shoT (n := 2000) (k := 2) (all_cons ((sho_str (by decide +kernel)).mono (by decide)) (all_cons (shoI (k := 1) (by decide) (by decide)) all_nil)) (Nat.le_of_ble_eq_true rfl)).mono (by decide), shp_t (all_cons (shp_s (by decide +kernel)) (all_cons shp_i all_nil))⟩
  have shA : Sho 20000 (.list [.tuple [.str "number", z], .tuple [.str "number", z], .tuple [.str "left", .int 2000]]) ∧ (PyData.list [.tuple [.str "number", z], .tuple [.str "number", z], .tuple [.str "left", .int 2000]]).depth ≤ 50 := ⟨(shoL (n := 5000) (k := 3) (all_cons shM.1 (all_cons shM.1 (all_cons shL.1 all_nil))) (Nat.le_of_ble_eq_true rfl)).mono (by decide), Nat.le_trans (shp_l (all_cons shM.2 (all_cons shM.2 (all_cons shL.2 all_nil)))).2 (by decide)⟩
  dsimp only [List.set_cons_succ, List.set_cons_zero]
  refine go_seq (go_if (wt_not (wt_test (w_op (w_cb (wa_cons (w_var rfl (wa_nil ?_))))))))
  refine oa_repr (.inr rfl) shA.1.1 shA.2 (Nat.le_trans shA.1.2 (by decide)) ?_
  refine w_cb (wa_cons (w_op (w_op (w_lst (wa_cons (w_tup (wa_cons (w_str (wa_cons (w_var rfl (wa_nil ⟨[_, _], rfl, Nat.le_of_ble_eq_true rfl, wa_nil ⟨[_], rfl, Nat.le_of_ble_eq_true rfl, w_int ?_⟩⟩)))))))))))
  refine o2_repL (by decide) (by decide) (Nat.le_of_ble_eq_true rfl) ?_
  refine w_lst (wa_cons (w_tup (wa_cons (w_str (wa_cons (w_int (wa_nil ⟨[_, _], rfl, Nat.le_of_ble_eq_true rfl, wa_nil ⟨[_], rfl, Nat.le_of_ble_eq_true rfl, ?_⟩⟩)))))))
  refine o2_catLE (K := K) (zs := [.tuple [.str "number", z], .tuple [.str "number", z], .tuple [.str "left", .int 2000]]) rfl (Nat.le_of_ble_eq_true rfl) (wa_nil ?_)
  refine oa_repr (.inr rfl) shA.1.1 shA.2 (Nat.le_trans shA.1.2 (by decide)) ?_
  refine o2_eqSS ⟨_, rfl, both_f (by simp) (go_next ?_)⟩
  refine go_ret (w_op (w_cb (wa_cons (w_lst (wa_cons (w_pr (w_var rfl ⟨p, s, rfl, b23.p, cs_pstand b23.p fun H24 e24 => ?_⟩)))))))
  have b24 := b23.same e24
  refine wa_cons (w_pr (w_var rfl ⟨p, s, rfl, b24.p, cs_prounds b24.p fun H25 e25 => ?_⟩))
  have b25 := b24.same e25
  refine wa_cons (w_cb (wa_cons (w_var rfl (wa_nil (oa_plen b25.p (by omega) fun H26 e26 => ?_)))))
  have b26 := b25.same e26
  refine wa_nil ⟨[_, _, _], rfl, Nat.le_of_ble_eq_true rfl, wa_nil (oa_repr (.inr rfl) sh.1.1 sh.2 sh.1.2 ?_)⟩
  refine w_var rfl (o2_eqSS ?_)
  refine rt_fr (((g23.trans e24.frq).trans e25.frq).trans e26.frq) fun H27 e27 => ⟨by simp, (b26.same e27).mono (by show bd + 2 + 1 + 1 ≤ bd + 4; omega)⟩
end
end K2

set_option Elab.async false
set_option linter.all false
set_option maxRecDepth 100000
set_option maxHeartbeats 2000000
/-! ## the plain law: the same rounds by another rule, in another world -/
namespace K2
open PySem L2 PySem.Spec PyProof.Rows LamX
theorem gone_rule {w : Wld} {r r2 : Rul} : ∀ {rs : List Rd2} {s s' t : Std} {fd fd' : List Int} {n : Nat}, gone w r s fd n rs = (none, fd', s') → s.ms = t.ms → ∀ fd2 n2, ∃ fd3 t', gone w r2 t fd2 n2 rs = (none, fd3, t')
  | [], s, s', t, fd, fd', n, h, hm, fd2, n2 => ⟨fd2, t, rfl⟩
  | q :: qs, s, s', t, fd, fd', n, h, hm, fd2, n2 => by
    simp only [gone] at h ⊢
    split at h
    · rename_i hq
      rw [hm] at hq
      rw [if_pos hq]
      refine gone_rule h ?_ _ _
      cases ofO q.2 with
      | none => show s.ms + 1 = t.ms + 1; rw [hm]
      | some e => rfl
    · cases h
theorem gone_wide {w w2 : Wld} {r : Rul} (hw : ∀ ms q, isRound w ms q = true → isRound w2 ms q = true) : ∀ {rs : List Rd2} {s s' : Std} {fd fd' : List Int} {n : Nat}, gone w r s fd n rs = (none, fd', s') → gone w2 r s fd n rs = (none, fd', s')
  | [], _, _, _, _, _, h => h
  | q :: qs, s, s', fd, fd', n, h => by
    simp only [gone] at h ⊢
    split at h
    · rename_i hq
      rw [if_pos (hw _ _ hq)]
      exact gone_wide hw h
    · cases h
def widen (w : Wld) : Wld := ⟨w.lo, w.hi, w.e0, w.e1 + 1, w.ls⟩
theorem widen_rd {w : Wld} {ms : Int} {q : Rd2} (h : isRound w ms q = true) : isRound (widen w) ms q = true := by
  obtain ⟨i, o, rfl, e1, e2⟩ := isRound_t h
  cases o with
  | none =>
    simp only [isRound, encO, widen] at h ⊢
    exact h
  | some e =>
    simp only [isRound, encO, widen, isWhole, Bool.and_eq_true, decide_eq_true_eq] at h
    show isRound (widen w) ms (.int i, .int e) = true
    have h3 : e ≤ w.e1 + 1 := by omega
    have h4 : 0 - w.e0 ≤ e := h.2.1
    show (decide (w.lo ≤ i) && decide (i ≤ w.hi) && (decide (0 - w.e0 ≤ e) && decide (e ≤ w.e1 + 1))) = true
    rw [decide_eq_true h.1.1, decide_eq_true h.1.2, decide_eq_true h3, decide_eq_true h4]
    rfl
theorem widen_ok {w : Wld} (h : w.ok) (h1 : w.e1 ≤ 59) : (widen w).ok := ⟨h.l1, h.l2, h.l3, h.a1, h.a2, by have := h.b1; show 0 ≤ w.e1 + 1; omega, by show w.e1 + 1 ≤ 60; omega, h.c1, h.c2⟩
abbrev ini (w : Wld) (r : Rul) (b : Int) : PSt := ⟨w, r, b, ⟨[], ⟨0, 0, b⟩, [b]⟩, [], []⟩
theorem ini_ok {w : Wld} {r : Rul} {b : Int} (hw : w.ok) (hr : r.ok) (h0 : -500 ≤ b) (h1 : b ≤ 500) : (ini w r b).ok := ⟨hr, hw, ⟨Int.le_refl 0, by have := hr.pos; show (0 : Int) < (r.length : Nat); omega⟩, ⟨h0, h1⟩, by simp, by simp, by simp, by simp⟩
/-- the rounds done by another rule -/
abbrev rer (s : PSt) (r : Rul) (st : Std) (e : List Int) : PSt := ⟨s.w, r, s.b, ⟨s.now.rs, st, s.b :: e⟩, if s.now.rs = [] then [] else [⟨[], ⟨0, 0, s.b⟩, [s.b]⟩], []⟩
theorem rer_good {s : PSt} {r : Rul} {st : Std} {e : List Int} (so : s.ok) (hr : r.ok) (h : gone s.w r ⟨0, 0, s.b⟩ [s.b] 0 (s.now.rs.map Rnd.rd) = (none, s.b :: e, st)) : (rer s r st e).good := by
  have nr := so.nr
  obtain ⟨⟨e', he, el⟩, _⟩ := gone_fd h
  have he : s.b :: e = s.b :: e' := he
  cases he
  rw [List.length_map] at el
  refine ⟨⟨hr, so.w, gone_ok hr ⟨Int.le_refl 0, by have := hr.pos; show (0 : Int) < (r.length : Nat); omega⟩ h, so.b, nr, ?_, ?_, by simp⟩, h⟩
  · show (s.b :: e).length ≤ 2000
    rw [List.length_cons]
    omega
  · show (if s.now.rs = [] then [] else [_]).length ≤ 500
    split <;> simp
theorem rer_can {s : PSt} {r2 : Rul} (sg : s.good) : ∃ st, Good s.w r2 ⟨0, 0, s.b⟩ s.now.rs st := by
  obtain ⟨fd, t, h⟩ := gone_rule (r2 := r2) (t := ⟨0, 0, s.b⟩) sg.run rfl [s.b] 0
  obtain ⟨_, qs, hq, g⟩ := gone_fd h
  rw [← map_rd_inj (as := s.now.rs) (bs := qs) hq] at g
  exact ⟨t, g⟩
theorem cs_reruled {C p : Addr} {s : PSt} {r : Rul} {H : Hp} {R : PX} (hp : PairAt H p C s) (sg : s.good) (hr : r.ok)
    (k : ∀ H2 q st e, Same H H2 → H q = none → gone s.w r ⟨0, 0, s.b⟩ [s.b] 0 (s.now.rs.map Rnd.rd) = (none, s.b :: e, st) → PairAt H2 q C (rer s r st e) → R (.o (.ref q)) H2) : CallS (S_p_reruled C) [.o (.ref p), .d (encR r)] H Eno R :=
  CallS.pure (S := S_p_reruled C) ((p, s), r, H) rfl (fun H' e => ⟨hp.same e, sg.ok, hr, rer_can sg, e⟩) rfl fun x H2 e po => by
    obtain ⟨q, st, e', rfl, h1, h2, h3⟩ := po
    exact k H2 q st e' e h1 h2 h3
theorem eqP_same {s t : PSt} (h1 : s.w = t.w) (h2 : s.b = t.b) (h3 : s.now.rs = t.now.rs) : eqP s t = PyData.eqv (encR s.r) (encR t.r) := by
  simp only [eqP, h1, h2, h3, t.w.shp.self, (rds_shp t.now.rs).self, decide_true, Bool.true_and, Bool.and_true]
theorem eqP_begin {s t : PSt} (h : s.b ≠ t.b) : eqP s t = false := by
  simp only [eqP, decide_eq_false h, Bool.and_false, Bool.false_and]
theorem eqP_world {s t : PSt} (h : PyData.eqv s.w.enc t.w.enc = false) : eqP s t = false := by
  simp only [eqP, h, Bool.false_and]
theorem widen_ne (w : Wld) : PyData.eqv w.enc (widen w).enc = false := by
  have e : decide (w.e1 = w.e1 + 1) = false := decide_eq_false (by omega)
  simp only [Wld.enc, widen, PyData.eqv, PyData.eqvAll]
  simp
  omega
theorem eqv_bb (a : Bool) : PyData.eqv (.bool a) (.bool a) = true := by cases a <;> rfl
theorem rds_ne {l : List Rnd} (h : l ≠ []) : PyData.eqv (.tuple (l.map rde)) (.tuple []) = false := by
  cases l with
  | nil => exact absurd rfl h
  | cons a l => simp [PyData.eqv, PyData.eqvAll]
theorem Fr.newq {M : List Addr} {H H1 H2 : Hp} {q : Addr} (f : Fr M H H1) (hq : H q = none) (g : Fr [q] H1 H2) : Fr M H H2 := ⟨fun c o hc z => g.kp c o (f.kp c o hc z) (.inl (by simpa using ne_of_none hc hq)), fun c hc => f.fr c (g.fr c hc)⟩
theorem pair_ne_new {H : Hp} {p q C : Addr} {d1 d2 d3 d4 d5 d6 : PyData} (k : PairD H p C d1 d2 d3 d4 d5 d6) (h : H q = none) : p ≠ q := by
  obtain ⟨dx, fs, hk⟩ := k.ins
  exact ne_of_none hk h
section
variable {H H' : Hp} {dr : Addr × Addr} {bd bd' : Nat} {p q C T : Addr} {s t : PSt} {x : Str}
theorem Br.onN {d1 d2 d3 d4 d5 d6 : PyData} (b : Br H dr bd p C s T x) (k : PairD H q C d1 d2 d3 d4 d5 d6) (n : p ≠ q) (f : Fr [q] H H') : Br H' dr bd p C s T x := ⟨b.d.fr (draw_ne_pair b.d k) f, b.p.fr f n, TabS.frP b.t f k⟩
end
section
variable {Γ : List Gh} {ρ : Rho} {H : Hp} {E : EX} {K : PySem.W.Frag}
/-- x, y = a, b by a tuple (a name of which is a cell) -/
theorem go_asg2 {ta : TA} {g1 g2 : TG} (h : WA Γ ta ρ H fun xs H1 => ∃ x y, xs = [x, y] ∧ WGs Γ (gCons g1 (gCons g2 gNil)) [x, y] ρ H1 E.nx) : Go Γ (tAsg (tTup ta) (gTup K 2 (gCons g1 (gCons g2 gNil)))) E ρ H := fun D le σ H' e s =>
  h σ H' e s _ fun xs vs H1 H1' k e1 f1 d1 => by
    obtain ⟨x, y, rfl, k⟩ := k
    have hl : vs.length = 2 := d1.len
    refine ⟨by rw [hl]; decide, fun p hp => ?_⟩
    have sm : Same H1' (upd H1' p (.tup vs)) := Same.new hp
    exact ⟨p, vs, rfl, SqT.of upd_same, hl, k vs σ _ (e1.trans sm) ((s.ft f1).ft sm.ftq) (ft_dxs sm.ftq d1) _ fun ρ2 H2 σ2 H2' k2 e2 f2 s2 => le.nx ρ2 H2 σ2 H2' k2 e2 s2⟩
end
end K2

set_option Elab.async false
set_option linter.all false
set_option maxRecDepth 100000
set_option pp.deepTerms false
set_option pp.deepTerms.threshold 10
set_option maxHeartbeats 4000000
namespace K2
open PySem L2 PySem.Spec PyProof.Rows StX RZ
local macro_rules | `(tactic| walk_at "k2") => `(tactic| first
  | with_reducible refine w_var rfl ?_
  | with_reducible refine w_int ?_
  | with_reducible refine w_bl ?_
  | with_reducible refine w_non ?_
  | with_reducible refine w_str ?_
  | with_reducible refine w_o ?_
  | with_reducible refine wa_cons ?_
  | with_reducible refine wa_nil ?_
  | with_reducible refine w_op ?_
  | with_reducible refine w_un ?_
  | with_reducible refine w_cb ?_
  | with_reducible refine w_call0 ?_
  | with_reducible refine w_chain ?_
  | with_reducible refine w_tup ?_
  | with_reducible refine w_lst ?_
  | with_reducible refine w_andV ?_
  | with_reducible refine w_orV ?_
  | with_reducible refine w_notV ?_
  | with_reducible refine w_if ?_
  | with_reducible refine wt_test ?_
  | with_reducible refine wt_B ?_
  | with_reducible refine wt_and ?_
  | with_reducible refine wt_or ?_
  | with_reducible refine wt_not ?_
  | with_reducible refine go_seq ?_
  | with_reducible refine go_ret ?_
  | with_reducible refine go_retN ?_
  | with_reducible refine go_set ?_
  | with_reducible refine go_par ?_
  | with_reducible refine go_par3 ?_
  | with_reducible refine go_asg ?_
  | with_reducible refine go_next ?_
  | with_reducible refine go_if ?_
  | with_reducible refine o2_ii ?_
  | with_reducible refine o2_ib ?_
  | with_reducible refine o1_i ?_
  | with_reducible refine o2_isN ?_
  | with_reducible refine o2_notN ?_
  | with_reducible refine oa_isiI ?_
  | with_reducible refine oa_isiB ?_
  | with_reducible refine oa_isiT ?_
  | with_reducible refine oa_isiS ?_
  | with_reducible refine oa_abs ?_
  | with_reducible refine oa_max ?_
  | with_reducible refine oa_min ?_
  | with_reducible refine oa_len ?_
  | with_reducible refine oa_lenL ?_
  | with_reducible refine oa_intB ?_
  | refine ⟨[_, _], rfl, Nat.le_of_ble_eq_true rfl, ?_⟩
  | refine ⟨[_, _, _], rfl, Nat.le_of_ble_eq_true rfl, ?_⟩
  | refine ⟨[_, _, _, _], rfl, Nat.le_of_ble_eq_true rfl, ?_⟩
  | refine ⟨[_], rfl, Nat.le_of_ble_eq_true rfl, ?_⟩
  | refine ⟨[], rfl, Nat.le_of_ble_eq_true rfl, ?_⟩)

local macro_rules | `(tactic| walk_at "k2") => `(tactic| first
  | with_reducible refine ex_b ?_
  | refine both_t rfl ?_
  | refine both_f rfl ?_
  | refine both_f2 rfl ?_
  | refine both_t2 rfl ?_
  | with_reducible refine cs_is_integer fun _ _ => ?_
  | with_reducible refine cs_is_whole fun _ _ => ?_
  | refine oa_len ?_
  | refine oa_lenL ?_
  | refine o2_ixT rfl ?_
  | refine o2_ixL rfl ?_
  | refine o2_in rfl rfl ?_
  | refine o2_eqI ?_
  | refine o2_neI ?_
  | refine o2_eqS (by decide +kernel) (by decide +kernel) ?_
  | refine o2_neS (by decide +kernel) (by decide +kernel) ?_
  | refine o2_eqD (Deed.shp _).ok rfl ?_
  | refine both_t (by decide +kernel) ?_
  | refine both_f (by decide +kernel) ?_
  | refine both_f2 (by decide +kernel) ?_
  | refine both_t2 (by decide +kernel) ?_
  | with_reducible refine w_slT ?_
  | with_reducible refine wg_name ?_
  | with_reducible refine wgs_cons ?_
  | with_reducible refine wgs_nil ?_
  | refine o2_ii ?_
  | refine o2_ib ?_
  | refine o2_isN ?_
  | refine o2_notN ?_
  | refine wg_tup rfl ?_
  | refine wgs_cons ?_
  | refine wgs_nil ?_
  | with_reducible refine w_slL ?_
  | with_reducible refine wo_no ?_
  | with_reducible refine wo_some ?_
  | with_reducible refine ⟨_, _, rfl, rfl, ?_⟩
  | with_reducible refine ⟨_, rfl, ?_⟩
  | with_reducible refine ⟨_, _, rfl, ?_⟩
  | with_reducible refine ⟨_, _, _, rfl, ?_⟩)
local macro_rules | `(tactic| walk_at "same") => `(tactic| ((repeat (first | exact Same.refl _ | assumption | refine Same.trans ?_ (by assumption)))))

local macro_rules | `(tactic| walk_at "k3") => `(tactic| first
  | walk_at "k2"
  | refine both_t (by first | (simp; done) | (simp; omega)) ?_
  | refine both_f (by first | (simp; done) | (simp; omega)) ?_
  | refine both_f2 (by first | (simp; done) | (simp; omega)) ?_
  | refine both_t2 (by first | (simp; done) | (simp; omega)) ?_
  | refine go_next ?_
  | refine go_drop ?_)
open LamX
def S__law_others_right (C T : Addr) : Spc where
  ι := (Addr × Addr) × Nat × Addr × PSt
  args i := [.o (.ref i.1.1), .o (.ref i.2.2.1), .d i.2.2.2.w.enc, .d (encR i.2.2.2.r), .d (.int i.2.2.2.b), .d (.tuple (i.2.2.2.now.rs.map rde))]
  pre i H := Br H i.1 i.2.1 i.2.2.1 C i.2.2.2 T (qLam "_law_others_right") ∧ i.2.1 ≤ 500000000 ∧ i.2.2.2.good ∧ i.2.2.2.w.e1 ≤ 59 ∧ i.2.2.2.b ≤ 499
  mod i := [i.1.1, T]
  post i x H := x = .d (.bool true) ∧ Br H i.1 (i.2.1 + 57) i.2.2.1 C i.2.2.2 T (qLam "_law_others_right")
section
variable {ca : EC → Addr} {P : Program} {w : World} {K : PySem.W.Frag} {mg : Str → Option Value} {base : Heap} {f C cc PP : Addr} {fd : FuncData} (G : GF mg) (Pf : PF P w K mg base C (ca .round) (ca .run) (ca .number) (ca .left))
include G Pf
omit G Pf in
theorem sc__law_others_right : FnScope ["_law_draw", "_law_pair", "_law_world_here", "_law_manner", "_law_begin_here", "_law_rounds_here", "_law_other", "_law_far", "_law_wide"] ["_law_draw", "_law_pair", "_law_world_here", "_law_manner", "_law_begin_here", "_law_rounds_here"] (defScope (top 71)) := ⟨rfl, rfl, rfl, by decide +kernel, rfl, by decide +kernel, by decide +kernel⟩
theorem ok__law_others_right (D__law_rule : DefOk P w K mg base 5 "_law_rule" ["_law_draw", "_law_modes", "_law_wide"] (S__law_rule)) (D__law_is_so : DefOkG P w K mg base 12 "_law_is_so" ["_law_pair", "_law_world_here", "_law_manner", "_law_begin_here", "_law_rounds_here"] (S__law_is_so C)) (SD : SaidD P w K mg base ca) (TB : TabB base mg cc PP) (hcc : fd.code = .ref cc) (F : FnP K "_law_others_right" "_law_others_right" (top 71) [] f fd) : FnOkG P w K mg base (L2.CX P w) 13 f fd ["_law_draw", "_law_pair", "_law_world_here", "_law_manner", "_law_begin_here", "_law_rounds_here"] (sp (S__law_others_right C PP)) := by
  have sc := sc__law_others_right
  obtain ⟨gO, fdO, FO, MO, gfO, gVO, gXO, KBO, gvo, gxo⟩ := Pf.reruledK
  obtain ⟨ddU, hvU, MU⟩ := Pf.undo0
  obtain ⟨ddR, hvR, MRd⟩ := Pf.redo0
  refine ok_pureGC F hcc sc (fun _ => rfl) fun cdv A outer s H E hcd hgd hr => ⟨_, pss_cons (ps_asg (pe_tup (pa_cons (pe_mkD Pf.mkP (hr.mono (by decide)) rfl Pf.k.mgC pass_none (pa_cons (pe_var (i := 2) rfl (.inl rfl)) (pa_cons (pe_var (i := 3) rfl (.inl rfl)) (pa_cons (pe_var (i := 4) rfl (.inl rfl)) (pa_nil))))) (pa_cons (pe_D D__law_rule (hr.mono (by decide)) rfl pass_none (pa_cons (pe_var (i := 0) rfl (.inl rfl)) (pa_cons (pe_int) (pa_cons (pe_int) (pa_nil))))) (pa_nil)))) (pg_tup rfl (pgs_cons (pg_name (i := 6) sc.nd rfl (.inr rfl)) (pgs_cons (pg_name (i := 7) sc.nd rfl (.inl rfl)) (pgs_nil))))) (pss_cons (ps_aug (i := 6) sc.nd rfl (.inr rfl) (pe_var (i := 5) rfl (.inl rfl)) (ip_D Pf.k Pf.add (hr.mono (by decide)) pass_none)) (pss_cons (ps_if (PW.pt (pw_or (pt_cmpR (op_nePD Pf.k Pf.eq (hr.mono (by decide))) (pe_var (i := 6) rfl (.inr (.inl rfl))) (pe_var (i := 1) rfl (.inl rfl)) (nomark _)) (pw_or1 (pt_cmpR (op_eqPD Pf.k Pf.eq (hr.mono (by decide))) (pe_var (i := 1) rfl (.inl rfl)) (pe_int) (nomark _))))) (pss_one (ps_ret (pe_bl))) (pss_nil)) (pss_cons (ps_if (pt_not (pt_val (pe_DG D__law_is_so hgd (hr.mono (by decide)) rfl pass_none (pa_cons (pe_mD Pf.reruled Pf.k.cls (hr.mono (by decide)) pass_none (pe_var (i := 1) rfl (.inl rfl)) (pa_cons (pe_var (i := 7) rfl (.inl rfl)) (pa_nil))) (pa_cons (pe_var (i := 2) rfl (.inl rfl)) (pa_cons (pe_var (i := 7) rfl (.inl rfl)) (pa_cons (pe_var (i := 4) rfl (.inl rfl)) (pa_cons (pe_var (i := 5) rfl (.inl rfl)) (pa_nil))))))))) (pss_one (ps_ret (pe_bl))) (pss_nil)) (pss_cons (ps_set (i := 6) sc.nd rfl (.inr rfl) (pe_methK (pe_var (i := 1) rfl (.inl rfl)) Pf.k.cls MO FO (hr.mono (by decide)) KBO pass_none (pk_cons (pe_var (i := 7) rfl (.inl rfl)) pk_nil))) (pss_cons (ps_if (PW.pt (pw_or (pt_cmpR (op_neD hr.units) (pe_callB (call_lenD Pf.len (hr.mono (by decide))) rfl (G.gfree "len" (by decide +kernel)) (by decide +kernel) (pa_cons (pe_var (i := 6) rfl (.inr (.inl rfl))) (pa_nil))) (pe_callB (call_lenD Pf.len (hr.mono (by decide))) rfl (G.gfree "len" (by decide +kernel)) (by decide +kernel) (pa_cons (pe_var (i := 1) rfl (.inl rfl)) (pa_nil))) (nomark _)) (pw_or1 (pt_cmpR (op_neD hr.units) (pe_cmpR (op_eqPD Pf.k Pf.eq (hr.mono (by decide))) (pe_var (i := 6) rfl (.inr (.inl rfl))) (pe_var (i := 1) rfl (.inl rfl)) (nomark _)) (pe_cmpR (op_eqD hr.units) (pe_var (i := 7) rfl (.inl rfl)) (pe_var (i := 3) rfl (.inl rfl)) (nomark _)) (nomark _))))) (pss_one (ps_ret (pe_bl))) (pss_nil)) (pss_cons (ps_if (PW.pt (pw_and (pt_cmpR (op_neD hr.units) (pe_var (i := 5) rfl (.inl rfl)) (pe_tup (pa_nil)) (nomark _)) (pw_and1 (PW.pt (pw_or (pt_cmpR op_notN (pe_m0 MU hvU Pf.k.cls (hr.mono (by decide)) pass_none (pe_var (i := 6) rfl (.inr (.inl rfl)))) (pe_non) (nomark _)) (pw_or1 (pt_cmpR (op_neD hr.units) (pe_pD Pf.rounds Pf.k.cls (hr.mono (by decide)) (pe_var (i := 6) rfl (.inr (.inl rfl)))) (pe_tup (pa_nil)) (nomark _)))))))) (pss_one (ps_ret (pe_bl))) (pss_nil)) (pss_cons (ps_if (pt_cmpR (op_neD hr.units) (pe_said (t := fun E => tMeth C "undo" (sp (S_p_undo C (ca .number) (ca .left))) [.int 1] E (tVar 6) (tNil)) SD rfl TB hcd (k := 7) (by decide) (hr.mono (by decide)) (lamN_by (N := ["_law_draw", "_law_pair", "_law_world_here", "_law_manner", "_law_begin_here", "_law_rounds_here", "_law_other", "_law_far", "_law_wide"]) (sc := defScope (top 71)) (by decide +kernel)) defEv0 bind0 (fun A outer s H E f c' hr => pe_m0 MU hvU Pf.k.cls (hr.mono (by decide)) (passLam rfl rfl) (pe_var (i := 6) rfl (.inr (.inr rfl))))) (pe_tup (pa_cons (pe_str) (pa_cons (pe_int) (pa_nil)))) (nomark _)) (pss_one (ps_ret (pe_bl))) (pss_nil)) (pss_cons (ps_if (PW.pt (pw_and (pt_cmpR (op_neD hr.units) (pe_var (i := 5) rfl (.inl rfl)) (pe_tup (pa_nil)) (nomark _)) (pw_and1 (PW.pt (pw_or (pt_cmpR op_notN (pe_m0 MRd hvR Pf.k.cls (hr.mono (by decide)) pass_none (pe_var (i := 6) rfl (.inr (.inl rfl)))) (pe_non) (nomark _)) (pw_or1 (pt_cmpR (op_neD hr.units) (pe_pD Pf.rounds Pf.k.cls (hr.mono (by decide)) (pe_var (i := 6) rfl (.inr (.inl rfl)))) (pe_var (i := 5) rfl (.inl rfl)) (nomark _)))))))) (pss_one (ps_ret (pe_bl))) (pss_nil)) (pss_cons (ps_set (i := 8) sc.nd rfl (.inl rfl) (pe_mkD Pf.mkP (hr.mono (by decide)) rfl Pf.k.mgC pass_none (pa_cons (pe_op op_catA (pe_op op_catA (pe_slice sl_tupA (pe_var (i := 2) rfl (.inl rfl)) (po_none) (po_some (pe_int))) (pe_tup (pa_cons (pe_op op_add (pe_ix ix_seq (pe_var (i := 2) rfl (.inl rfl)) (pe_int) (fun _ _ => rfl)) (pe_int)) (pa_nil)))) (pe_slice sl_tupA (pe_var (i := 2) rfl (.inl rfl)) (po_some (pe_int)) (po_none))) (pa_cons (pe_var (i := 3) rfl (.inl rfl)) (pa_cons (pe_var (i := 4) rfl (.inl rfl)) (pa_nil)))))) (pss_cons (ps_aug (i := 8) sc.nd rfl (.inl rfl) (pe_var (i := 5) rfl (.inl rfl)) (ip_D Pf.k Pf.add (hr.mono (by decide)) pass_none)) (pss_one (ps_ret (pe_and (pe_cmpR (op_nePD Pf.k Pf.eq (hr.mono (by decide))) (pe_var (i := 1) rfl (.inl rfl)) (pe_mkD Pf.mkP (hr.mono (by decide)) rfl Pf.k.mgC pass_none (pa_cons (pe_var (i := 2) rfl (.inl rfl)) (pa_cons (pe_var (i := 3) rfl (.inl rfl)) (pa_cons (pe_op op_add (pe_var (i := 4) rfl (.inl rfl)) (pe_int)) (pa_nil))))) (nomark _)) (pe_and (pe_cmpR (op_nePD Pf.k Pf.eq (hr.mono (by decide))) (pe_var (i := 1) rfl (.inl rfl)) (pe_var (i := 8) rfl (.inl rfl)) (nomark _)) (pe_one (pe_cmpR (op_eqD hr.units) (pe_pD Pf.rounds Pf.k.cls (hr.mono (by decide)) (pe_var (i := 8) rfl (.inl rfl))) (pe_pD Pf.rounds Pf.k.cls (hr.mono (by decide)) (pe_var (i := 1) rfl (.inl rfl))) (nomark _))))))))))))))))), fun (i : (Addr × Addr) × Nat × Addr × PSt) hp => ?_⟩
  obtain ⟨dr, bd, p, s⟩ := i
  obtain ⟨b0, hb, sg, he1, hb1⟩ := (show Br H dr bd p C s PP (qLam "_law_others_right") ∧ bd ≤ 500000000 ∧ s.good ∧ s.w.e1 ≤ 59 ∧ s.b ≤ 499 from hp)
  show Go [] _ (EB [dr.1, PP] H _) [some (.o (.ref dr.1)), some (.o (.ref p)), some (.d s.w.enc), some (.d (encR s.r)), some (.d (.int s.b)), some (.d (.tuple (s.now.rs.map rde))), none, none, none] H
  have so := sg.ok
  have nr := so.nr
  have sb := so.b
  obtain ⟨e0, run⟩ : ∃ e, gone s.w s.r ⟨0, 0, s.b⟩ [s.b] 0 (s.now.rs.map Rnd.rd) = (none, s.b :: e, s.now.st) := by
    obtain ⟨e, he, _⟩ := (gone_fd sg.run).1
    exact ⟨e, by rw [sg.run, he]; rfl⟩
  have io := ini_ok so.w so.r so.b.1 so.b.2
  refine go_seq (go_asg2 (wa_cons (w_pair (wa_cons (w_var rfl (wa_cons (w_var rfl (wa_cons (w_var rfl (wa_nil ⟨s.w, s.r, s.b, rfl, so.w, so.r, so.b.1, so.b.2, fun q H1 hq e1 hq1 => ?_⟩))))))))))
  have b1 := b0.same e1
  refine wa_cons (w_call0 (wa_cons (w_var rfl (wa_cons (w_int (wa_cons (w_int (wa_nil ?_))))))))
  refine cs_lrule b1.d (by omega) fun far H2 f2 d2 fok => ?_
  have b2 := b1.onD f2 d2
  have hq2 := hq1.fr f2 (draw_ne_pair b1.d hq1)
  have g2 : Fr [dr.1, PP] H H2 := e1.frq.trans f2.one
  refine wa_nil ⟨_, _, rfl, wgs_cons (wg_name (wgs_cons (wg_name (wgs_nil ?_))))⟩
  dsimp only [List.set_cons_succ, List.set_cons_zero]
  refine go_seq (go_aug (x := .o (.ref q)) rfl (w_var rfl (o2_ownAdd hq2.ins ?_)))
  refine cs_iadd (s := ini s.w s.r s.b) io (by omega) run hq2 fun H3 f3 hq3 => ?_
  have b3 := b2.onN hq2 (pair_ne_new b0.p hq) f3
  have g3 := g2.newq hq f3
  dsimp only [List.set_cons_succ, List.set_cons_zero]
  have eq1 : eqP (PSt.did (ini s.w s.r s.b) s.now.rs s.now.st e0) s = true := (eqP_same rfl rfl rfl).trans (encR_shp _).self
  refine go_seq (go_if (wt_or (wt_test (w_op (w_var rfl (w_var rfl (o2_pne hq3 b3.p fun H4 e4 => ⟨_, rfl, both_f2 (by rw [eq1]; rfl) ?_⟩)))))))
  have b4 := b3.same e4
  refine wt_test (w_op (w_var rfl (w_int (o2_peq5 b4.p fun H5 e5 => ⟨_, rfl, both_f rfl (go_next ?_)⟩))))
  have b5 := b4.same e5
  have g5 := (g3.trans e4.frq).trans e5.frq
  refine go_seq (go_if (wt_not (wt_B (w_call0 (wa_cons (w_mP (by decide) (w_var rfl ⟨p, _, _, _, _, _, _, rfl, b5.p, wa_cons (w_var rfl (wa_nil ?_))⟩)))))))
  refine cs_reruled b5.p sg fok fun H6 q2 st2 e2 e6 nq2 run2 hq26 => ?_
  have b6 := b5.same e6
  refine wa_cons (w_var rfl (wa_cons (w_var rfl (wa_cons (w_var rfl (wa_cons (w_var rfl (wa_nil ?_))))))))
  refine cs_isso hq26 (rer_good so fok run2) fun H7 e7 => ⟨_, rfl, both_f rfl (go_next ?_)⟩
  have b7 := b6.same e7
  have g7 := (g5.trans e6.frq).trans e7.frq
  obtain ⟨dx, fs, hi, hl⟩ := b7.p.noMeth (m := "reruled") (by decide)
  refine go_seq (go_set (w_methK gvo (w_var rfl ⟨p, dx, fs, rfl, hi, hl, wa_cons (w_var rfl (wa_nil ?_))⟩)))
  rw [gxo]
  refine cs_reruled b7.p sg fok fun H8 q3 st3 e3 e8 nq3 run3 hq38 => ?_
  have b8 := b7.same e8
  have g8 := g7.trans e8.frq
  have nq : H q3 = none := g7.fr _ nq3
  have np3 := pair_ne_new b0.p nq
  have og := rer_good so fok run3
  dsimp only [List.set_cons_succ, List.set_cons_zero]
  have eq2 : eqP (rer s far st3 e3) s = PyData.eqv (encR far) (encR s.r) := eqP_same rfl rfl rfl
  refine go_seq (go_if (wt_or (wt_test (w_op (w_cb (wa_cons (w_var rfl (wa_nil (oa_plen hq38 (show s.now.rs.length ≤ 1000 by omega) fun H9 e9 => ?_)))))))))
  have b9 := b8.same e9
  have hq9 := hq38.same e9
  refine w_cb (wa_cons (w_var rfl (wa_nil (oa_plen b9.p (by omega) fun H10 e10 => o2_neI ⟨_, rfl, both_f2 (by simp) ?_⟩))))
  have b10 := b9.same e10
  have hq10 := hq9.same e10
  refine wt_test (w_op (w_op (w_var rfl (w_var rfl (o2_peq hq10 b10.p fun H11 e11 => ?_)))))
  have b11 := b10.same e11
  have hq11 := hq10.same e11
  have g11 := ((g8.trans e9.frq).trans e10.frq).trans e11.frq
  refine w_op (w_var rfl (w_var rfl (o2_eqD (encR_shp _).ok (encR_shp _).ok ?_)))
  rw [eq2]
  refine o2_neD rfl rfl ⟨_, rfl, both_f (by rw [eqv_bb]; rfl) (go_next ?_)⟩
  refine go_seqM (fun ρ' H' => ρ' = [some (.o (.ref dr.1)), some (.o (.ref p)), some (.d s.w.enc), some (.d (encR s.r)), some (.d (.int s.b)), some (.d (.tuple (s.now.rs.map rde))), some (.o (.ref q3)), some (.d (encR far)), none] ∧ Fr [dr.1, PP] H H' ∧ Br H' dr (bd + 57) p C s PP (qLam "_law_others_right") ∧ ∃ t, PairAt H' q3 C t ∧ t.ok ∧ t.past = [] ∧ (s.now.rs ≠ [] → ∃ nw, t.coming = [nw] ∧ nw.rs = s.now.rs)) ?_ fun ρ' H' hM => ?_
  · refine go_if (wt_and (wt_test (w_op (w_var rfl (w_tup (wa_nil ⟨[], rfl, Nat.le_of_ble_eq_true rfl, o2_neD (rds_shp _).ok (by decide +kernel) ⟨_, rfl, fun hne => ?_, fun heq => ?_⟩⟩))))))
    · have hn : s.now.rs ≠ [] := fun z => by rw [z] at hne; exact absurd hne (by decide +kernel)
      obtain ⟨dx2, fs2, hi2, hl2⟩ := hq11.noMeth (m := "undo") (by decide)
      have hp1 : (rer s far st3 e3).past = [⟨[], ⟨0, 0, s.b⟩, [s.b]⟩] := if_neg hn
      refine wt_or (wt_test (w_op (w_meth (dxs := [.d (.int 1)]) (fun _ => .cons (Dq.int 1) .nil) (w_var rfl ⟨q3, dx2, fs2, rfl, hi2, hl2, wa_nil ?_⟩))))
      refine cs_undo (n := 1) hq11 og.ok (by decide) (by rw [hp1]; exact Nat.le_of_ble_eq_true rfl) fun H12 f12 hq12 => ?_
      have b12 := b11.onN hq11 np3 f12
      have g12 := g11.newq nq f12
      have un : (rer s far st3 e3).undo 1 = ⟨s.w, far, s.b, ⟨[], ⟨0, 0, s.b⟩, [s.b]⟩, [], [⟨s.now.rs, st3, s.b :: e3⟩]⟩ := by
        simp [PSt.undo, hn]
      rw [un] at hq12
      refine w_non (o2_notN ⟨_, rfl, both_f2 rfl ?_⟩)
      refine wt_test (w_op (w_pr (w_var rfl ⟨q3, _, rfl, hq12, cs_prounds hq12 fun H13 e13 => w_tup (wa_nil ⟨[], rfl, Nat.le_of_ble_eq_true rfl, o2_neD (rds_shp []).ok (rds_shp []).ok ⟨_, rfl, both_f rfl (go_next ?_)⟩⟩)⟩)))
      exact ⟨rfl, g12.trans e13.frq, b12.same e13, _, hq12.same e13, ⟨fok, so.w, ⟨Int.le_refl 0, by have := fok.pos; show (0 : Int) < (far.length : Nat); omega⟩, so.b, by simp, by simp, by simp, by simp⟩, rfl, fun _ => ⟨_, rfl, rfl⟩⟩
    · have hn : s.now.rs = [] := by
        by_cases z : s.now.rs = []
        · exact z
        · rw [rds_ne z] at heq
          exact absurd heq (by decide)
      refine ⟨fun z => (by cases z), fun _ => go_next ?_⟩
      exact ⟨rfl, g11, b11, _, hq11, og.ok, if_pos hn, fun z => absurd hn z⟩
  obtain ⟨rfl, g12, b12, t, hq12, tok, tp, tc⟩ := hM
  have np12 := np3
  refine go_seq (go_if (wt_test (w_op (w_said b12.t fun H13 f13 t13 E13 k13 => ?_))))
  have b13 := b12.onT f13 t13
  have hq13 := hq12.fr f13 (tab_ne_pair b12.t hq12)
  obtain ⟨dx3, fs3, hi3, hl3⟩ := hq13.noMeth (m := "undo") (by decide)
  refine w_meth (dxs := [.d (.int 1)]) (fun _ => .cons (Dq.int 1) .nil) (w_var rfl ⟨q3, dx3, fs3, rfl, hi3, hl3, wa_nil ?_⟩)
  refine cs_undoX hq13 tok (.inr ⟨1, rfl, by decide, by rw [tp]; decide⟩) fun c d H14 f14 hq14 _ th14 => k13 _ _ _ f14.ft (Raised.of .lf (th14 ⟨1, rfl, by decide⟩) rfl fun H15 e15 => ?_)
  have b15 := (b13.onN hq13 np12 f14).same e15
  have hq15 := hq14.same e15
  have g15 := ((g12.trans f13.two).newq nq f14).trans e15.frq
  refine w_tup (wa_cons (w_str (wa_cons (w_int (wa_nil ⟨[_, _], rfl, Nat.le_of_ble_eq_true rfl, ?_⟩)))))
  refine o2_neD (by decide +kernel) (by decide +kernel) ⟨_, rfl, both_f (by decide +kernel) (go_next ?_)⟩
  refine go_seqM (fun ρ' H' => ρ' = [some (.o (.ref dr.1)), some (.o (.ref p)), some (.d s.w.enc), some (.d (encR s.r)), some (.d (.int s.b)), some (.d (.tuple (s.now.rs.map rde))), some (.o (.ref q3)), some (.d (encR far)), none] ∧ Fr [dr.1, PP] H H' ∧ Br H' dr (bd + 57) p C s PP (qLam "_law_others_right")) ?_ fun ρ' H' hM => ?_
  · refine go_if (wt_and (wt_test (w_op (w_var rfl (w_tup (wa_nil ⟨[], rfl, Nat.le_of_ble_eq_true rfl, o2_neD (rds_shp _).ok (by decide +kernel) ⟨_, rfl, fun hne => ?_, fun heq => ?_⟩⟩))))))
    · have hn : s.now.rs ≠ [] := fun z => by rw [z] at hne; exact absurd hne (by decide +kernel)
      obtain ⟨nw, tc1, tc2⟩ := tc hn
      obtain ⟨dx2, fs2, hi2, hl2⟩ := hq15.noMeth (m := "redo") (by decide)
      refine wt_or (wt_test (w_op (w_meth (dxs := [.d (.int 1)]) (fun _ => .cons (Dq.int 1) .nil) (w_var rfl ⟨q3, dx2, fs2, rfl, hi2, hl2, wa_nil ?_⟩))))
      refine cs_redo (n := 1) hq15 tok (by decide) (by rw [tc1]; exact Nat.le_of_ble_eq_true rfl) fun H16 f16 hq16 => ?_
      have b16 := b15.onN hq15 np12 f16
      have g16 := g15.newq nq f16
      have rd : (t.redo 1).now.rs = s.now.rs := by
        simp [PSt.redo, tc1, tc2]
      refine w_non (o2_notN ⟨_, rfl, both_f2 rfl ?_⟩)
      refine wt_test (w_op (w_pr (w_var rfl ⟨q3, _, rfl, hq16, cs_prounds hq16 fun H17 e17 => ?_⟩)))
      rw [rd]
      refine w_var rfl (o2_neD (rds_shp _).ok (rds_shp _).ok ⟨_, rfl, both_f (by rw [(rds_shp _).self]; rfl) (go_next ?_)⟩)
      exact ⟨rfl, g16.trans e17.frq, b16.same e17⟩
    · exact ⟨fun z => (by cases z), fun _ => go_next ⟨rfl, g15, b15⟩⟩
  obtain ⟨rfl, g16, b16⟩ := hM
  have wok := widen_ok so.w he1
  refine go_seq (go_set (w_pair (wa_cons (w_op (w_op (w_slT (w_var rfl ⟨_, rfl, wo_no (wo_some (w_int ⟨_, rfl, ?_⟩))⟩)))))))
  refine w_tup (wa_cons (w_op (w_op (w_var rfl (w_int (o2_ixT rfl (w_int (o2_ii (wa_nil ⟨[_], rfl, Nat.le_of_ble_eq_true rfl, ?_⟩)))))))))
  refine o2_catT (Nat.le_of_ble_eq_true rfl) ?_
  refine w_slT (w_var rfl ⟨_, rfl, wo_some (w_int ⟨_, rfl, wo_no ?_⟩)⟩)
  refine o2_catT (Nat.le_of_ble_eq_true rfl) ?_
  refine wa_cons (w_var rfl (wa_cons (w_var rfl (wa_nil ⟨widen s.w, s.r, s.b, rfl, wok, so.r, so.b.1, so.b.2, fun q4 H17 nq4 e17 hq17 => ?_⟩))))
  have b17 := b16.same e17
  have g17 := g16.trans e17.frq
  have nq4' : H q4 = none := g16.fr _ nq4
  have np4 := pair_ne_new b0.p nq4'
  dsimp only [List.set_cons_succ, List.set_cons_zero]
  have runw := gone_wide (w2 := widen s.w) (fun _ _ h => widen_rd h) run
  refine go_seq (go_aug (x := .o (.ref q4)) rfl (w_var rfl (o2_ownAdd hq17.ins ?_)))
  refine cs_iadd (s := ini (widen s.w) s.r s.b) (ini_ok wok so.r so.b.1 so.b.2) (by omega) runw hq17 fun H18 f18 hq18 => ?_
  have b18 := b17.onN hq17 np4 f18
  have g18 := g17.newq nq4' f18
  dsimp only [List.set_cons_succ, List.set_cons_zero]
  refine go_ret (w_andV (w_op (w_var rfl (w_pair (wa_cons (w_var rfl (wa_cons (w_var rfl (wa_cons (w_op (w_var rfl (w_int (o2_ii (wa_nil ⟨s.w, s.r, s.b + 1, rfl, so.w, so.r, by omega, by omega, fun q5 H19 nq5 e19 hq19 => ?_⟩))))))))))))))
  have b19 := b18.same e19
  refine o2_pne b19.p hq19 fun H20 e20 => ⟨_, rfl, fun _ => ?_, fun h => ?_⟩
  · have b20 := b19.same e20
    have hq20 := (hq18.same e19).same e20
    refine w_andV (w_op (w_var rfl (w_var rfl (o2_pne b20.p hq20 fun H21 e21 => ⟨_, rfl, fun _ => ?_, fun h => ?_⟩))))
    · have b21 := b20.same e21
      have hq21 := hq20.same e21
      refine w_op (w_pr (w_var rfl ⟨q4, _, rfl, hq21, cs_prounds hq21 fun H22 e22 => ?_⟩))
      have b22 := b21.same e22
      refine w_pr (w_var rfl ⟨p, s, rfl, b22.p, cs_prounds b22.p fun H23 e23 => ?_⟩)
      refine o2_eqD (rds_shp _).ok (rds_shp _).ok ?_
      show (EB [dr.1, PP] H _).rt (.d (.bool (PyData.eqv (.tuple (s.now.rs.map rde)) (.tuple (s.now.rs.map rde))))) H23
      rw [(rds_shp s.now.rs).self]
      exact rt_fr (((((g18.trans e19.frq).trans e20.frq).trans e21.frq).trans e22.frq).trans e23.frq) fun H24 e24 => ⟨rfl, (b22.same e23).same e24⟩
    · rw [eqP_world (widen_ne s.w)] at h
      exact absurd h (by decide)
  · rw [eqP_begin (by show s.b ≠ s.b + 1; omega)] at h
    exact absurd h (by decide)
end
end K2

set_option Elab.async false
set_option linter.all false
set_option maxRecDepth 100000
set_option pp.deepTerms false
set_option pp.deepTerms.threshold 10
set_option maxHeartbeats 4000000
namespace K2
open PySem L2 PySem.Spec PyProof.Rows StX RZ
local macro_rules | `(tactic| walk_at "k2") => `(tactic| first
  | with_reducible refine w_var rfl ?_
  | with_reducible refine w_int ?_
  | with_reducible refine w_bl ?_
  | with_reducible refine w_non ?_
  | with_reducible refine w_str ?_
  | with_reducible refine w_o ?_
  | with_reducible refine wa_cons ?_
  | with_reducible refine wa_nil ?_
  | with_reducible refine w_op ?_
  | with_reducible refine w_un ?_
  | with_reducible refine w_cb ?_
  | with_reducible refine w_call0 ?_
  | with_reducible refine w_chain ?_
  | with_reducible refine w_tup ?_
  | with_reducible refine w_lst ?_
  | with_reducible refine w_andV ?_
  | with_reducible refine w_orV ?_
  | with_reducible refine w_notV ?_
  | with_reducible refine w_if ?_
  | with_reducible refine wt_test ?_
  | with_reducible refine wt_B ?_
  | with_reducible refine wt_and ?_
  | with_reducible refine wt_or ?_
  | with_reducible refine wt_not ?_
  | with_reducible refine go_seq ?_
  | with_reducible refine go_ret ?_
  | with_reducible refine go_retN ?_
  | with_reducible refine go_set ?_
  | with_reducible refine go_par ?_
  | with_reducible refine go_par3 ?_
  | with_reducible refine go_asg ?_
  | with_reducible refine go_next ?_
  | with_reducible refine go_if ?_
  | with_reducible refine o2_ii ?_
  | with_reducible refine o2_ib ?_
  | with_reducible refine o1_i ?_
  | with_reducible refine o2_isN ?_
  | with_reducible refine o2_notN ?_
  | with_reducible refine oa_isiI ?_
  | with_reducible refine oa_isiB ?_
  | with_reducible refine oa_isiT ?_
  | with_reducible refine oa_isiS ?_
  | with_reducible refine oa_abs ?_
  | with_reducible refine oa_max ?_
  | with_reducible refine oa_min ?_
  | with_reducible refine oa_len ?_
  | with_reducible refine oa_lenL ?_
  | with_reducible refine oa_intB ?_
  | refine ⟨[_, _], rfl, Nat.le_of_ble_eq_true rfl, ?_⟩
  | refine ⟨[_, _, _], rfl, Nat.le_of_ble_eq_true rfl, ?_⟩
  | refine ⟨[_, _, _, _], rfl, Nat.le_of_ble_eq_true rfl, ?_⟩
  | refine ⟨[_], rfl, Nat.le_of_ble_eq_true rfl, ?_⟩
  | refine ⟨[], rfl, Nat.le_of_ble_eq_true rfl, ?_⟩)

local macro_rules | `(tactic| walk_at "k2") => `(tactic| first
  | with_reducible refine ex_b ?_
  | refine both_t rfl ?_
  | refine both_f rfl ?_
  | refine both_f2 rfl ?_
  | refine both_t2 rfl ?_
  | with_reducible refine cs_is_integer fun _ _ => ?_
  | with_reducible refine cs_is_whole fun _ _ => ?_
  | refine oa_len ?_
  | refine oa_lenL ?_
  | refine o2_ixT rfl ?_
  | refine o2_ixL rfl ?_
  | refine o2_in rfl rfl ?_
  | refine o2_eqI ?_
  | refine o2_neI ?_
  | refine o2_eqS (by decide +kernel) (by decide +kernel) ?_
  | refine o2_neS (by decide +kernel) (by decide +kernel) ?_
  | refine o2_eqD (Deed.shp _).ok rfl ?_
  | refine both_t (by decide +kernel) ?_
  | refine both_f (by decide +kernel) ?_
  | refine both_f2 (by decide +kernel) ?_
  | refine both_t2 (by decide +kernel) ?_
  | with_reducible refine w_slT ?_
  | with_reducible refine wg_name ?_
  | with_reducible refine wgs_cons ?_
  | with_reducible refine wgs_nil ?_
  | refine o2_ii ?_
  | refine o2_ib ?_
  | refine o2_isN ?_
  | refine o2_notN ?_
  | refine wg_tup rfl ?_
  | refine wgs_cons ?_
  | refine wgs_nil ?_
  | with_reducible refine w_slL ?_
  | with_reducible refine wo_no ?_
  | with_reducible refine wo_some ?_
  | with_reducible refine ⟨_, _, rfl, rfl, ?_⟩
  | with_reducible refine ⟨_, rfl, ?_⟩
  | with_reducible refine ⟨_, _, rfl, ?_⟩
  | with_reducible refine ⟨_, _, _, rfl, ?_⟩)
local macro_rules | `(tactic| walk_at "same") => `(tactic| ((repeat (first | exact Same.refl _ | assumption | refine Same.trans ?_ (by assumption)))))

local macro_rules | `(tactic| walk_at "k3") => `(tactic| first
  | walk_at "k2"
  | refine both_t (by first | (simp; done) | (simp; omega)) ?_
  | refine both_f (by first | (simp; done) | (simp; omega)) ?_
  | refine both_f2 (by first | (simp; done) | (simp; omega)) ?_
  | refine both_t2 (by first | (simp; done) | (simp; omega)) ?_
  | refine go_next ?_
  | refine go_drop ?_)
open LamX
/-- the law's promise: no frame is told -/
def spLaw (K : PySem.W.Frag) (T1 T2 T3 : Addr) : Sp := fun vs H Q _ => ∃ (a : Addr) (ns : List Int), vs = [.ref a] ∧ SqL K H a (ns.map V.int) ∧ ns.length ≤ 1000 ∧ TabS H T1 (qLam "_law_refused_right") ∧ TabS H T2 (qLam "_law_others_right") ∧ TabS H T3 (qLam "law") ∧ ∀ H', Q (.bl true) H'
theorem TabS.frM {H H' : Hp} {T : Addr} {M : List Addr} {q : Str} (t : TabS H T q) (f : Fr M H H') (hM : ∀ m ∈ M, m ≠ T ∧ ∃ o, H m = some o ∧ ∀ c q, o ≠ CodeO c q) : TabS H' T q := by
  obtain ⟨ps, h1, h2, h3⟩ := t
  refine ⟨ps, f.kp _ _ h1 (.inl fun z => (hM _ z).1 rfl), h2, fun pos cv hv => ?_⟩
  obtain ⟨c, e1, e2⟩ := h3 pos cv hv
  refine ⟨c, e1, f.kp _ _ e2 (.inl fun z => ?_)⟩
  obtain ⟨_, o, ho, hc⟩ := hM _ z
  rw [ho] at e2
  exact hc c q (Option.some.inj e2)
section
variable {H H' : Hp} {dr : Addr × Addr} {bd : Nat} {p C T : Addr} {q : Str}
theorem tab_no (t : TabS H T q) : ∃ o, H T = some o ∧ ∀ c q, o ≠ CodeO c q := by
  obtain ⟨ps, h1, _⟩ := t
  exact ⟨_, h1, fun c q z => (by unfold CodeO at z; cases z)⟩
theorem draw_no (k : DrawAt H dr bd) : ∃ o, H dr.1 = some o ∧ ∀ c q, o ≠ CodeO c q := by
  obtain ⟨ns, at_, lf, us, hd, _⟩ := k
  exact ⟨_, hd.d, fun c q z => (by unfold CodeO at z; cases z)⟩
theorem pair_no {d1 d2 d3 d4 d5 d6 : PyData} (k : PairD H p C d1 d2 d3 d4 d5 d6) : ∃ o, H p = some o ∧ ∀ c q, o ≠ CodeO c q := by
  obtain ⟨dx, fs, h⟩ := k.ins
  exact ⟨_, h, fun c q z => (by unfold CodeO at z; cases z)⟩
end
/-- the three tables -/
structure Tb (H : Hp) (T1 T2 T3 : Addr) : Prop where
  a : TabS H T1 (qLam "_law_refused_right")
  b : TabS H T2 (qLam "_law_others_right")
  c : TabS H T3 (qLam "law")
section
variable {H H' : Hp} {dr : Addr × Addr} {bd bd' : Nat} {p C T1 T2 T3 : Addr} {s : PSt}
theorem Tb.same (t : Tb H T1 T2 T3) (e : Same H H') : Tb H' T1 T2 T3 := ⟨t.a.ext e, t.b.ext e, t.c.ext e⟩
theorem Tb.onD (t : Tb H T1 T2 T3) (d : DrawAt H dr bd) (f : Fr [dr.1] H H') : Tb H' T1 T2 T3 := ⟨TabS.frD t.a f d, TabS.frD t.b f d, TabS.frD t.c f d⟩
theorem Tb.onP {d1 d2 d3 d4 d5 d6 : PyData} (t : Tb H T1 T2 T3) (k : PairD H p C d1 d2 d3 d4 d5 d6) (f : Fr [p] H H') : Tb H' T1 T2 T3 := ⟨TabS.frP t.a f k, TabS.frP t.b f k, TabS.frP t.c f k⟩
theorem mem2 {a b : Addr} {P : Addr → Prop} (h1 : P a) (h2 : P b) : ∀ m ∈ [a, b], P m := fun m hm => by
  rcases List.mem_cons.mp hm with rfl | hm
  · exact h1
  · rw [List.mem_singleton.mp hm]
    exact h2
theorem mem3 {a b c : Addr} {P : Addr → Prop} (h1 : P a) (h2 : P b) (h3 : P c) : ∀ m ∈ [a, b, c], P m := fun m hm => by
  rcases List.mem_cons.mp hm with rfl | hm
  · exact h1
  · exact mem2 h2 h3 m hm
theorem Tb.onDP {d1 d2 d3 d4 d5 d6 : PyData} (t : Tb H T1 T2 T3) (d : DrawAt H dr bd) (k : PairD H p C d1 d2 d3 d4 d5 d6) (f : Fr [dr.1, p] H H') : Tb H' T1 T2 T3 :=
  ⟨TabS.frM t.a f (mem2 ⟨(tab_ne_draw t.a d).symm, draw_no d⟩ ⟨tab_ne_pair t.a k, pair_no k⟩), TabS.frM t.b f (mem2 ⟨(tab_ne_draw t.b d).symm, draw_no d⟩ ⟨tab_ne_pair t.b k, pair_no k⟩), TabS.frM t.c f (mem2 ⟨(tab_ne_draw t.c d).symm, draw_no d⟩ ⟨tab_ne_pair t.c k, pair_no k⟩)⟩
theorem Tb.onR {d1 d2 d3 d4 d5 d6 : PyData} (t : Tb H T1 T2 T3) (n12 : T1 ≠ T2) (n13 : T1 ≠ T3) (d : DrawAt H dr bd) (k : PairD H p C d1 d2 d3 d4 d5 d6) (f : Fr [dr.1, p, T1] H H') (t1 : TabS H' T1 (qLam "_law_refused_right")) : Tb H' T1 T2 T3 :=
  ⟨t1, TabS.frM t.b f (mem3 ⟨(tab_ne_draw t.b d).symm, draw_no d⟩ ⟨tab_ne_pair t.b k, pair_no k⟩ ⟨n12, tab_no t.a⟩), TabS.frM t.c f (mem3 ⟨(tab_ne_draw t.c d).symm, draw_no d⟩ ⟨tab_ne_pair t.c k, pair_no k⟩ ⟨n13, tab_no t.a⟩)⟩
theorem Tb.onO (t : Tb H T1 T2 T3) (n12 : T1 ≠ T2) (n23 : T2 ≠ T3) (d : DrawAt H dr bd) (f : Fr [dr.1, T2] H H') (t2 : TabS H' T2 (qLam "_law_others_right")) : Tb H' T1 T2 T3 :=
  ⟨TabS.frM t.a f (mem2 ⟨(tab_ne_draw t.a d).symm, draw_no d⟩ ⟨n12.symm, tab_no t.b⟩), t2, TabS.frM t.c f (mem2 ⟨(tab_ne_draw t.c d).symm, draw_no d⟩ ⟨n23, tab_no t.b⟩)⟩
end
def r0 : Rul := [⟨[-10, 10], [⟨.jump 1 2, 0⟩, ⟨.run 4, 0⟩, ⟨.jump 1 2, 0⟩], ⟨.hold, 0⟩⟩]
def w0 : Wld := ⟨-2, 3, 1, 1, 1⟩
theorem r0_ok : r0.ok := by
  refine ⟨by decide, by decide, fun m hm => ?_⟩
  rw [show m = ⟨[-10, 10], [⟨.jump 1 2, 0⟩, ⟨.run 4, 0⟩, ⟨.jump 1 2, 0⟩], ⟨.hold, 0⟩⟩ from List.mem_singleton.mp hm]
  refine ⟨by decide, by decide, by decide, rfl, fun e he => ?_, ⟨trivial, by decide, by decide⟩, trivial⟩
  rcases List.mem_cons.mp he with rfl | he
  · exact ⟨⟨by decide, by decide, by decide, by decide⟩, by decide, by decide⟩
  rcases List.mem_cons.mp he with rfl | he
  · exact ⟨⟨by decide, by decide⟩, by decide, by decide⟩
  rcases List.mem_cons.mp he with rfl | he
  · exact ⟨⟨by decide, by decide, by decide, by decide⟩, by decide, by decide⟩
  cases he
theorem w0_ok : w0.ok := ⟨by decide, by decide, by decide, by decide, by decide, by decide, by decide, by decide, by decide⟩
theorem rer_past {s : PSt} {r : Rul} {st : Std} {e : List Int} (h : ¬ s.now.rs = []) : (rer s r st e).past = [⟨[], ⟨0, 0, s.b⟩, [s.b]⟩] := if_neg h
/-- one round more -/
def one (s : PSt) (q : Rnd) : PSt := s.did [q] (stepped s.r s.now.st q.1 q.2).2.2.2 [(stepped s.r s.now.st q.1 q.2).1, (stepped s.r s.now.st q.1 q.2).2.2.2.df]
theorem one_good {s : PSt} {q : Rnd} (sg : s.good) (hq : isRound s.w s.now.st.ms q.rd = true) (h1 : s.now.rs.length ≤ 400) (h2 : s.past.length ≤ 400) : (one s q).good := by
  have hgq : gone s.w s.r s.now.st [s.now.st.df] 0 ([q].map Rnd.rd) = (none, s.now.st.df :: [(stepped s.r s.now.st q.1 q.2).1, (stepped s.r s.now.st q.1 q.2).2.2.2.df], (stepped s.r s.now.st q.1 q.2).2.2.2) := by
    rw [List.map_cons, gone, if_pos hq, (rd_of q).1, (rd_of q).2]
    rfl
  exact sg.did hgq (by show s.now.rs.length + 1 ≤ 500; omega) (by omega)
abbrev a0 : PSt := ini w0 r0 5
abbrev a1 : PSt := one a0 (3, some 1)
abbrev a2 : PSt := one a1 (-2, none)
abbrev a3 : PSt := one a2 (3, some (-1))
theorem a0_good : a0.good := ⟨ini_ok w0_ok r0_ok (by decide) (by decide), rfl⟩
theorem a1_good : a1.good := one_good a0_good (by decide +kernel) (by decide +kernel) (by decide +kernel)
theorem a2_good : a2.good := one_good a1_good (by decide +kernel) (by decide +kernel) (by decide +kernel)
theorem a3_good : a3.good := one_good a2_good (by decide +kernel) (by decide +kernel) (by decide +kernel)
theorem a_told : (stepped a0.r a0.now.st 3 (some 1)).2.2.1 = 4 ∧ (stepped a1.r a1.now.st (-2) none).2.2.1 = 0 ∧ (stepped a2.r a2.now.st 3 (some (-1))).2.2.1 = 4 := by decide +kernel
theorem a3_st : a3.now.st = ⟨0, 0, 1⟩ := by
  have h1 : a3.now.st.m = 0 ∧ a3.now.st.ms = 0 ∧ a3.now.st.df = 1 := by decide +kernel
  obtain ⟨x1, x2, x3⟩ := h1
  generalize a3.now.st = st at x1 x2 x3
  cases st
  cases x1
  cases x2
  cases x3
  rfl
theorem a3_rs : a3.now.rs = [(3, some 1), (-2, none), (3, some (-1))] := rfl
theorem a3_df : a3.now.df = [5, 8, 4, 2, 2, 5, 1] := by decide +kernel
section
variable {ca : EC → Addr} {P : Program} {w : World} {K : PySem.W.Frag} {mg : Str → Option Value} {base : Heap} {f C cc T1 T2 T3 : Addr} {fd : FuncData} (G : GF mg) (Pf : PF P w K mg base C (ca .round) (ca .run) (ca .number) (ca .left))
include G Pf
omit G Pf in
theorem sc_law : FnScope ["_law_script", "_law_draw", "_law_turn", "_law_world_here", "_law_manner", "_law_begin_here", "_law_pair", "_law_rows", "_law_told", "_law_other"] ["_law_script"] (defScope (top 72)) := ⟨rfl, rfl, rfl, by decide +kernel, rfl, by decide +kernel, by decide +kernel⟩
theorem ok_law (D__law_begin : DefOk P w K mg base 1 "_law_begin" ["_law_script"] (S__law_begin K)) (D__law_world : DefOk P w K mg base 2 "_law_world" ["_law_draw", "_law_wide"] (S__law_world)) (D__law_rule : DefOk P w K mg base 5 "_law_rule" ["_law_draw", "_law_modes", "_law_wide"] (S__law_rule)) (D__law_next : DefOk P w K mg base 1 "_law_next" ["_law_draw", "_law_total"] (S__law_next)) (D__law_steps_right : DefOkG P w K mg base 14 "_law_steps_right" ["_law_draw", "_law_pair", "_law_world_here", "_law_manner", "_law_begin_here"] (S__law_steps_right C)) (D__law_refused_right : DefOkG P w K mg base 11 "_law_refused_right" ["_law_draw", "_law_pair", "_law_world_here"] (S__law_refused_right C T1)) (D__law_others_right : DefOkG P w K mg base 13 "_law_others_right" ["_law_draw", "_law_pair", "_law_world_here", "_law_manner", "_law_begin_here", "_law_rounds_here"] (S__law_others_right C T2)) (n12 : T1 ≠ T2) (n13 : T1 ≠ T3) (n23 : T2 ≠ T3) (SD : SaidD P w K mg base ca) (TB : TabB base mg cc T3) (hcc : fd.code = .ref cc) (F : FnP K "law" "law" (top 72) [] f fd) : FnOkG P w K mg base (L2.CX P w) 16 f fd ["_law_script"] (spLaw K T1 T2 T3) := by
  have sc := sc_law
  obtain ⟨ddU, hvU, MU⟩ := Pf.undo0
  obtain ⟨gLc, fdLc, FLc, CLc, _, gfc, gVc, gXc, KBc, gvc, gxc⟩ := Pf.call
  obtain ⟨oc, od, dV, kV, doc, pm, an, cdv, ct, osl, rfl, lk, hcd', _, _⟩ := F.ex
  refine ⟨fun vs H Q E h => ?_, fun A outer s H args us vs Q E hgd0 hr0 e0 hbd r h => ?_⟩
  · obtain ⟨a, ns, rfl, _⟩ := h
    rfl
  obtain ⟨a, ns, rfl, hs, hn, t1, t2, t3, hq⟩ := h
  refine LamX.run_ofS lk hcd' sc hr0 e0 hbd r rfl fun hr => ?_
  have hgd := guards_deeper (env := envOfC "law" (defScope (top 72)) s.heap.objs.size f cdv) hgd0
  have hcd : cdv = .ref cc := hcc
  refine ⟨_, PSs.nox (pss_cons (ps_set (i := 1) sc.nd rfl (.inl rfl) (pe_D D__law_begin (hr.mono (by decide)) rfl pass_none (pa_cons (pe_var (i := 0) rfl (.inl rfl)) (pa_nil)))) (pss_cons (ps_for PassesOwn.never rfl (pi_range1 rfl (G.gfree "range" (by decide +kernel)) (pa_cons (pe_int) (pa_nil))) (pg_name (i := 2) sc.nd rfl (.inl rfl)) (pss_cons (ps_par3 (i := 3) (j := 4) (l := 5) rfl sc.nd rfl rfl rfl (by decide) (by decide) (by decide) rfl rfl rfl (pa_cons (pe_D D__law_world (hr.mono (by decide)) rfl pass_none (pa_cons (pe_var (i := 1) rfl (.inl rfl)) (pa_cons (pe_int) (pa_nil)))) (pa_cons (pe_D D__law_rule (hr.mono (by decide)) rfl pass_none (pa_cons (pe_var (i := 1) rfl (.inl rfl)) (pa_cons (pe_int) (pa_cons (pe_int) (pa_nil))))) (pa_cons (pe_op op_sub (pe_D D__law_next (hr.mono (by decide)) rfl pass_none (pa_cons (pe_var (i := 1) rfl (.inl rfl)) (pa_cons (pe_int) (pa_nil)))) (pe_int)) (pa_nil)))) (by rfl)) (pss_cons (ps_set (i := 6) sc.nd rfl (.inr rfl) (pe_mkD Pf.mkP (hr.mono (by decide)) rfl Pf.k.mgC pass_none (pa_cons (pe_var (i := 3) rfl (.inl rfl)) (pa_cons (pe_var (i := 4) rfl (.inl rfl)) (pa_cons (pe_var (i := 5) rfl (.inl rfl)) (pa_nil)))))) (pss_cons (ps_set (i := 7) sc.nd rfl (.inl rfl) (pe_DG D__law_steps_right hgd (hr.mono (by decide)) rfl pass_none (pa_cons (pe_var (i := 1) rfl (.inl rfl)) (pa_cons (pe_var (i := 6) rfl (.inr (.inl rfl))) (pa_cons (pe_var (i := 3) rfl (.inl rfl)) (pa_cons (pe_var (i := 4) rfl (.inl rfl)) (pa_cons (pe_var (i := 5) rfl (.inl rfl)) (pa_nil)))))))) (pss_cons (ps_if (PW.pt (pw_or (pt_cmpR (op_eqD hr.units) (pe_var (i := 7) rfl (.inl rfl)) (pe_lst (pa_nil)) (nomark _)) (pw_or1 (pt_not (pt_val (pe_DG D__law_refused_right hgd (hr.mono (by decide)) rfl pass_none (pa_cons (pe_var (i := 1) rfl (.inl rfl)) (pa_cons (pe_var (i := 6) rfl (.inr (.inl rfl))) (pa_cons (pe_var (i := 3) rfl (.inl rfl)) (pa_nil)))))))))) (pss_one (ps_ret (pe_bl))) (pss_nil)) (pss_one (ps_if (pt_not (pt_val (pe_DG D__law_others_right hgd (hr.mono (by decide)) rfl pass_none (pa_cons (pe_var (i := 1) rfl (.inl rfl)) (pa_cons (pe_var (i := 6) rfl (.inr (.inl rfl))) (pa_cons (pe_var (i := 3) rfl (.inl rfl)) (pa_cons (pe_var (i := 4) rfl (.inl rfl)) (pa_cons (pe_var (i := 5) rfl (.inl rfl)) (pa_cons (pe_ix ix_seq (pe_var (i := 7) rfl (.inl rfl)) (pe_int) (fun _ _ => rfl)) (pa_nil)))))))))) (pss_one (ps_ret (pe_bl))) (pss_nil)))))))) (pss_cons (ps_set (i := 4) sc.nd rfl (.inl rfl) (pe_tup (pa_cons (pe_tup (pa_cons (pe_tup (pa_cons (pe_un un_neg (pe_int)) (pa_cons (pe_int) (pa_nil)))) (pa_cons (pe_tup (pa_cons (pe_tup (pa_cons (pe_tup (pa_cons (pe_str) (pa_cons (pe_int) (pa_cons (pe_int) (pa_nil))))) (pa_cons (pe_int) (pa_nil)))) (pa_cons (pe_tup (pa_cons (pe_tup (pa_cons (pe_str) (pa_cons (pe_int) (pa_nil)))) (pa_cons (pe_int) (pa_nil)))) (pa_cons (pe_tup (pa_cons (pe_tup (pa_cons (pe_str) (pa_cons (pe_int) (pa_cons (pe_int) (pa_nil))))) (pa_cons (pe_int) (pa_nil)))) (pa_nil))))) (pa_cons (pe_tup (pa_cons (pe_tup (pa_cons (pe_str) (pa_nil))) (pa_cons (pe_int) (pa_nil)))) (pa_nil))))) (pa_nil)))) (pss_cons (ps_set (i := 6) sc.nd rfl (.inr rfl) (pe_mkD Pf.mkP (hr.mono (by decide)) rfl Pf.k.mgC pass_none (pa_cons (pe_tup (pa_cons (pe_un un_neg (pe_int)) (pa_cons (pe_int) (pa_cons (pe_int) (pa_cons (pe_int) (pa_cons (pe_int) (pa_nil))))))) (pa_cons (pe_var (i := 4) rfl (.inl rfl)) (pa_cons (pe_int) (pa_nil)))))) (pss_cons (ps_set (i := 8) sc.nd rfl (.inl rfl) (pe_lst (pa_cons (pe_cP Pf (hr.mono (by decide)) pass_none (pe_var (i := 6) rfl (.inr (.inl rfl))) (pa_cons (pe_int) (pa_cons (pe_int) (pa_nil)))) (pa_cons (pe_callOK (pe_var (i := 6) rfl (.inr (.inl rfl))) CLc FLc (hr.mono (by decide)) KBc pass_none (pk_cons (pe_non) (pk_cons (pe_un un_neg (pe_int)) (pk_nil)))) (pa_cons (pe_cP Pf (hr.mono (by decide)) pass_none (pe_var (i := 6) rfl (.inr (.inl rfl))) (pa_cons (pe_int) (pa_cons (pe_un un_neg (pe_int)) (pa_nil)))) (pa_nil)))))) (pss_cons (ps_if (PW.pt (pw_or (pt_cmpR (op_neD hr.units) (pe_var (i := 8) rfl (.inl rfl)) (pe_lst (pa_cons (pe_int) (pa_cons (pe_int) (pa_cons (pe_int) (pa_nil))))) (nomark _)) (pw_or (pt_cmpR (op_neD hr.units) (pe_pD Pf.stand Pf.k.cls (hr.mono (by decide)) (pe_var (i := 6) rfl (.inr (.inl rfl)))) (pe_tup (pa_cons (pe_int) (pa_cons (pe_int) (pa_cons (pe_int) (pa_nil))))) (nomark _)) (pw_or1 (pt_cmpR (op_neD hr.units) (pe_pD Pf.farthest Pf.k.cls (hr.mono (by decide)) (pe_var (i := 6) rfl (.inr (.inl rfl)))) (pe_tup (pa_cons (pe_int) (pa_cons (pe_int) (pa_nil)))) (nomark _)))))) (pss_one (ps_ret (pe_bl))) (pss_nil)) (pss_cons (ps_set (i := 9) sc.nd rfl (.inl rfl) (pe_mD Pf.reruled Pf.k.cls (hr.mono (by decide)) pass_none (pe_var (i := 6) rfl (.inr (.inl rfl))) (pa_cons (pe_var (i := 4) rfl (.inl rfl)) (pa_nil)))) (pss_cons (ps_expr (pe_m0 MU hvU Pf.k.cls (hr.mono (by decide)) pass_none (pe_var (i := 9) rfl (.inl rfl)))) (pss_cons (ps_if (PW.pt (pw_or (pt_cmpR (op_neD hr.units) (pe_pD Pf.rounds Pf.k.cls (hr.mono (by decide)) (pe_var (i := 9) rfl (.inl rfl))) (pe_tup (pa_nil)) (nomark _)) (pw_or (pt_cmpR (op_neD hr.units) (pe_callB (call_lenD Pf.len (hr.mono (by decide))) rfl (G.gfree "len" (by decide +kernel)) (by decide +kernel) (pa_cons (pe_var (i := 6) rfl (.inr (.inl rfl))) (pa_nil))) (pe_int) (nomark _)) (pw_or1 (pt_cmpR (op_eqPD Pf.k Pf.eq (hr.mono (by decide))) (pe_var (i := 9) rfl (.inl rfl)) (pe_var (i := 6) rfl (.inr (.inl rfl))) (nomark _)))))) (pss_one (ps_ret (pe_bl))) (pss_nil)) (pss_one (ps_ret (pe_cmpR (op_eqD hr.units) (pe_said (t := fun E => tCO C (sp (S_p___call__ C (ca .round))) E (tVar 6) (tCons (tC (.int 0)) (tCons (tC (.int 5)) (tNil)))) SD rfl TB hcd (k := 7) (by decide) (hr.mono (by decide)) (lamN_by (N := ["_law_script", "_law_draw", "_law_turn", "_law_world_here", "_law_manner", "_law_begin_here", "_law_pair", "_law_rows", "_law_told", "_law_other"]) (sc := defScope (top 72)) (by decide +kernel)) defEv0 bind0 (fun A outer s H E f c' hr => pe_cPL Pf (hr.mono (by decide)) (passLam rfl rfl) (pe_var (i := 6) rfl (.inr (.inr rfl))) (pa_cons (pe_int) (pa_cons (pe_int) (pa_nil))))) (pe_tup (pa_cons (pe_str) (pa_cons (pe_tup (pa_cons (pe_int) (pa_cons (pe_int) (pa_nil)))) (pa_nil)))) (nomark _))))))))))))), go_run0 (xs := [.o (.ref a)]) (.cons rfl .nil) ?_⟩
  show Go [] _ _ [some (.o (.ref a)), none, none, none, none, none, none, none, none, none] H
  refine go_seq (go_set (w_call0 (wa_cons (w_var rfl (wa_nil ?_)))))
  refine CallS.pure (S := S__law_begin K) (a, ns) rfl (fun H' e => ⟨SqL.same hs e, hn⟩) rfl fun x H1 e1 po => ?_
  obtain ⟨dr, l, rfl, d1⟩ := po
  have t0 : Tb H1 T1 T2 T3 := Tb.same ⟨t1, t2, t3⟩ e1
  dsimp only [List.set_cons_succ, List.set_cons_zero]
  refine go_seq (go_forR1 (wa_cons (w_int (wa_nil ⟨4, rfl, by decide, fun j ρ H2 => DrawAt H2 (dr, l) (300 * j) ∧ Tb H2 T1 T2 T3 ∧ ∃ c1 c2 c3 c4 c5 c6, ρ = [some (.o (.ref a)), some (.o (.ref dr)), c1, c2, c3, c4, c5, c6, none, none],
    ⟨d1, t0, none, none, none, none, none, none, rfl⟩, fun j ρ2 H2 hj hJ => ?_, fun ρ2 H2 hJ => ?_⟩))))
  · obtain ⟨d2, tb2, c1, c2, c3, c4, c5, c6, rfl⟩ := hJ
    have hj' : j < 4 := hj
    refine wg_name (go_seq (go_par3 (wa_cons (w_call0 (wa_cons (w_var rfl (wa_cons (w_int (wa_nil ?_))))))))) 
    refine cs_lworld d2 (by omega) fun W H3 f3 d3 ws => ?_
    have tb3 := tb2.onD d2 f3
    refine wa_cons (w_call0 (wa_cons (w_var rfl (wa_cons (w_int (wa_cons (w_int (wa_nil ?_))))))))
    refine cs_lrule d3 (by omega) fun M H4 f4 d4 mo => ?_
    have tb4 := tb3.onD d3 f4
    refine wa_cons (w_op (w_call0 (wa_cons (w_var rfl (wa_cons (w_int (wa_nil ?_)))))))
    refine cs_next d4 (by omega) (by decide) (by decide) fun n H5 f5 d5 n0 n1 => ?_
    have tb5 := tb4.onD d4 f5
    refine w_int (o2_ii (wa_nil ⟨_, _, _, rfl, ?_⟩))
    dsimp only [List.set_cons_succ, List.set_cons_zero]
    refine go_seq (go_set (w_pair (wa_cons (w_var rfl (wa_cons (w_var rfl (wa_cons (w_var rfl (wa_nil ⟨W, M, n - 4, rfl, ws.ok, mo, by omega, by omega, fun p H6 np e6 hp6 => ?_⟩)))))))))
    have d6 := d5.same e6
    have tb6 := tb5.same e6
    dsimp only [List.set_cons_succ, List.set_cons_zero]
    refine go_seq (go_set (w_call0 (wa_cons (w_var rfl (wa_cons (w_var rfl (wa_cons (w_var rfl (wa_cons (w_var rfl (wa_cons (w_var rfl (wa_nil ?_)))))))))))))
    refine CallS.mk (S := S__law_steps_right C) ((dr, l), 300 * j + 6 + 57 + 1, p, W, M, n - 4) rfl (fun H' e => ⟨d6.same e, by show 300 * j + 6 + 57 + 1 ≤ 400000000; omega, hp6.same e, ws.ok, mo, by show -500 ≤ n - 4; omega, by show n - 4 ≤ 500; omega⟩) (fun x H7 f7 po => ?_) fun _ _ _ h => h
    obtain ⟨s, rows, und, rfl, d7, hp7, iv⟩ := po
    have d7 : DrawAt H7 (dr, l) (300 * j + 6 + 57 + 1 + 100) := d7
    have tb7 := tb6.onDP d6 hp6 f7
    have sg := iv.good (by decide)
    have ew : s.w = W := iv.hw
    have er : s.r = M := iv.hr
    have eb : s.b = n - 4 := iv.hb
    dsimp only [List.set_cons_succ, List.set_cons_zero]
    refine go_seq (go_if (wt_or (wt_test (w_op (w_var rfl (w_lst (wa_nil ⟨[], rfl, Nat.le_of_ble_eq_true rfl, o2_eqD (shp_l (n := 2) (all_cons (rds_shp _) all_nil)).ok (by decide +kernel) ⟨_, rfl, both_f2 (by simp [PyData.eqv, PyData.eqvAll]) ?_⟩⟩)))))))
    refine wt_not (wt_B (w_call0 (wa_cons (w_var rfl (wa_cons (w_var rfl (wa_cons (w_var rfl (wa_nil ?_)))))))))
    refine CallS.mk (S := S__law_refused_right C T1) ((dr, l), 300 * j + 6 + 57 + 1 + 100, p, s) (by rw [← ew]; rfl) (fun H' e => ⟨⟨d7.same e, hp7.same e, (tb7.same e).a⟩, by show 300 * j + 6 + 57 + 1 + 100 ≤ 500000000; omega, sg⟩) (fun x H8 f8 po => ?_) fun _ _ _ h => h
    obtain ⟨rfl, b8⟩ := po
    have tb8 := tb7.onR n12 n13 d7 hp7 f8 b8.t
    have d8 : DrawAt H8 (dr, l) (300 * j + 6 + 57 + 1 + 100 + 4) := b8.d
    have hp8 : PairAt H8 p C s := b8.p
    refine ⟨_, rfl, both_f rfl (go_next ?_)⟩
    refine go_if (wt_not (wt_B (w_call0 (wa_cons (w_var rfl (wa_cons (w_var rfl (wa_cons (w_var rfl (wa_cons (w_var rfl (wa_cons (w_var rfl (wa_cons (w_op (w_var rfl (w_int (o2_ixL (d := encRow s.now.rs) rfl (wa_nil ?_)))))))))))))))))))
    have we1 := ws.b
    refine CallS.mk (S := S__law_others_right C T2) ((dr, l), 300 * j + 6 + 57 + 1 + 100 + 4, p, s) (by rw [← ew, ← er, ← eb]; rfl) (fun H' e => ⟨⟨d8.same e, hp8.same e, (tb8.same e).b⟩, by show 300 * j + 6 + 57 + 1 + 100 + 4 ≤ 500000000; omega, sg, by show s.w.e1 ≤ 59; rw [ew]; omega, by show s.b ≤ 499; omega⟩) (fun x H9 f9 po => ?_) fun _ _ _ h => h
    obtain ⟨rfl, b9⟩ := po
    have tb9 := tb8.onO n12 n23 d8 f9 b9.t
    refine ⟨_, rfl, both_f rfl (go_next ?_)⟩
    exact ⟨b9.d.mono (by show 300 * j + 6 + 57 + 1 + 100 + 4 + 57 ≤ 300 * (j + 1); omega), tb9, _, _, _, _, _, _, rfl⟩
  obtain ⟨d2, tb2, c1, c2, c3, c4, c5, c6, rfl⟩ := hJ
  refine (go_seq (go_set (w_tup (wa_cons (w_tup (wa_cons (w_tup (wa_cons (w_un (w_int (o1_i (wa_cons (w_int (wa_nil ⟨[_, _], rfl, Nat.le_of_ble_eq_true rfl, ?_⟩))))))))))))))
  refine wa_cons (w_tup (wa_cons (w_tup (wa_cons (w_tup (wa_cons (w_str (wa_cons (w_int (wa_cons (w_int (wa_nil ⟨[_, _, _], rfl, Nat.le_of_ble_eq_true rfl, wa_cons (w_int (wa_nil ⟨[_, _], rfl, Nat.le_of_ble_eq_true rfl, ?_⟩))⟩))))))))))))
  refine wa_cons (w_tup (wa_cons (w_tup (wa_cons (w_str (wa_cons (w_int (wa_nil ⟨[_, _], rfl, Nat.le_of_ble_eq_true rfl, wa_cons (w_int (wa_nil ⟨[_, _], rfl, Nat.le_of_ble_eq_true rfl, ?_⟩))⟩))))))))
  refine wa_cons (w_tup (wa_cons (w_tup (wa_cons (w_str (wa_cons (w_int (wa_cons (w_int (wa_nil ⟨[_, _, _], rfl, Nat.le_of_ble_eq_true rfl, wa_cons (w_int (wa_nil ⟨[_, _], rfl, Nat.le_of_ble_eq_true rfl, ?_⟩))⟩))))))))))
  refine wa_nil ⟨[_, _, _], rfl, Nat.le_of_ble_eq_true rfl, ?_⟩
  refine wa_cons (w_tup (wa_cons (w_tup (wa_cons (w_str (wa_nil ⟨[_], rfl, Nat.le_of_ble_eq_true rfl, wa_cons (w_int (wa_nil ⟨[_, _], rfl, Nat.le_of_ble_eq_true rfl, ?_⟩))⟩))))))
  refine wa_nil ⟨[_, _, _], rfl, Nat.le_of_ble_eq_true rfl, wa_nil ⟨[_], rfl, Nat.le_of_ble_eq_true rfl, ?_⟩⟩
  show Go [] _ _ [some (.o (.ref a)), some (.o (.ref dr)), c1, c2, some (.d (encR r0)), c4, c5, c6, none, none] H2
  refine go_seq (go_set (w_pair (wa_cons (w_tup (wa_cons (w_un (w_int (o1_i (wa_cons (w_int (wa_cons (w_int (wa_cons (w_int (wa_cons (w_int (wa_nil ⟨[_, _, _, _, _], rfl, Nat.le_of_ble_eq_true rfl, ?_⟩)))))))))))))))))
  refine wa_cons (w_var rfl (wa_cons (w_int (wa_nil ⟨w0, r0, 5, rfl, w0_ok, r0_ok, by decide, by decide, fun p H3 np e3 hp3 => ?_⟩))))
  have tb3 := tb2.same e3
  dsimp only [List.set_cons_succ, List.set_cons_zero]
  refine go_seq (go_set (w_lst (wa_cons (w_callO (w_var rfl ⟨p, rfl, wa_cons (w_int (wa_cons (w_int (wa_nil ⟨hp3.ins, ?_⟩))))⟩)))))
  refine cs_pcall (s := a0) (q := (3, some 1)) a0_good.ok (by decide +kernel) hp3 fun H4 f4 hp4 => ?_
  have hp4 : PairAt H4 p C a1 := hp4
  have tb4 := tb3.onP hp3 f4
  refine wa_cons (w_callOK gvc (w_var rfl ⟨p, rfl, wa_cons (w_non (wa_cons (w_un (w_int (o1_i (wa_nil ⟨hp4.ins, ?_⟩))))))⟩))
  rw [gxc]
  refine cs_pcall (s := a1) (q := (-2, none)) a1_good.ok (by decide +kernel) hp4 fun H5 f5 hp5 => ?_
  have hp5 : PairAt H5 p C a2 := hp5
  have tb5 := tb4.onP hp4 f5
  refine wa_cons (w_callO (w_var rfl ⟨p, rfl, wa_cons (w_int (wa_cons (w_un (w_int (o1_i (wa_nil ⟨hp5.ins, ?_⟩))))))⟩))
  refine cs_pcall (s := a2) (q := (3, some (-1))) a2_good.ok (by decide +kernel) hp5 fun H6 f6 hp6 => ?_
  have hp6 : PairAt H6 p C a3 := hp6
  have tb6 := tb5.onP hp5 f6
  refine wa_nil ⟨[.int (stepped a0.r a0.now.st 3 (some 1)).2.2.1, .int (stepped a1.r a1.now.st (-2) none).2.2.1, .int (stepped a2.r a2.now.st 3 (some (-1))).2.2.1], rfl, Nat.le_of_ble_eq_true rfl, ?_⟩
  rw [a_told.1, a_told.2.1, a_told.2.2]
  dsimp only [List.set_cons_succ, List.set_cons_zero]
  refine go_seq (go_if (wt_or (wt_test (w_op (w_var rfl (w_lst (wa_cons (w_int (wa_cons (w_int (wa_cons (w_int (wa_nil ⟨[_, _, _], rfl, Nat.le_of_ble_eq_true rfl, ?_⟩)))))))))))))
  refine o2_neD (by decide +kernel) (by decide +kernel) ⟨_, rfl, both_f2 (by decide +kernel) ?_⟩
  refine wt_or (wt_test (w_op (w_pr (w_var rfl ⟨p, a3, rfl, hp6, cs_pstand hp6 fun H7 e7 => ?_⟩))))
  have hp7 := hp6.same e7
  refine w_tup (wa_cons (w_int (wa_cons (w_int (wa_cons (w_int (wa_nil ⟨[_, _, _], rfl, Nat.le_of_ble_eq_true rfl, ?_⟩)))))))
  rw [a3_st]
  refine o2_neD (by decide +kernel) (by decide +kernel) ⟨_, rfl, both_f2 (by decide +kernel) ?_⟩
  refine wt_test (w_op (w_pr (w_var rfl ⟨p, a3, rfl, hp7, cs_pfar hp7 (by rw [a3_df]; decide) fun H8 m n e8 m1 m2 n1 n2 => ?_⟩)))
  have hp8 := hp7.same e8
  rw [a3_df] at m1 m2 n1 n2
  obtain rfl : m = 1 := by
    have h1 := m2 1 (by decide)
    have h2 : ∀ y ∈ [(5 : Int), 8, 4, 2, 2, 5, 1], 1 ≤ y := by decide
    have h3 := h2 m m1
    omega
  obtain rfl : n = 8 := by
    have h1 := n2 8 (by decide)
    have h2 : ∀ y ∈ [(5 : Int), 8, 4, 2, 2, 5, 1], y ≤ 8 := by decide
    have h3 := h2 n n1
    omega
  refine w_tup (wa_cons (w_int (wa_cons (w_int (wa_nil ⟨[_, _], rfl, Nat.le_of_ble_eq_true rfl, ?_⟩)))))
  refine o2_neD (by decide +kernel) (by decide +kernel) ⟨_, rfl, both_f (by decide +kernel) (go_next ?_)⟩
  have tb8 := (tb6.same e7).same e8
  refine go_seq (go_set (w_mP (by decide) (w_var rfl ⟨p, _, _, _, _, _, _, rfl, hp8, wa_cons (w_var rfl (wa_nil ?_))⟩)))
  refine cs_reruled (s := a3) hp8 a3_good r0_ok fun H9 q st e e9 nq run hq9 => ?_
  have hp9 := hp8.same e9
  have tb9 := tb8.same e9
  have np9 := pair_ne_new hp8 nq
  have og := rer_good (s := a3) a3_good.ok r0_ok run
  have pst : (rer a3 r0 st e).past = [⟨[], ⟨0, 0, a3.b⟩, [a3.b]⟩] := by
    have z : ¬ a3.now.rs = [] := by rw [a3_rs]; simp
    exact rer_past z
  dsimp only [List.set_cons_succ, List.set_cons_zero]
  obtain ⟨dx2, fs2, hi2, hl2⟩ := hq9.noMeth (m := "undo") (by decide)
  refine go_seq (go_drop (w_meth (dxs := [.d (.int 1)]) (fun _ => .cons (Dq.int 1) .nil) (w_var rfl ⟨q, dx2, fs2, rfl, hi2, hl2, wa_nil ?_⟩)))
  refine cs_undo (n := 1) hq9 og.ok (by decide) (by rw [pst]; exact Nat.le_of_ble_eq_true rfl) fun H10 f10 hq10 => ?_
  have un : (rer a3 r0 st e).undo 1 = ⟨w0, r0, 5, ⟨[], ⟨0, 0, 5⟩, [5]⟩, [], [⟨a3.now.rs, st, 5 :: e⟩]⟩ := by
    rw [PSt.undo, pst]
    rfl
  rw [un] at hq10
  have hp10 := hp9.fr f10 np9
  have tb10 := tb9.onP hq9 f10
  refine go_seq (go_if (wt_or (wt_test (w_op (w_pr (w_var rfl ⟨q, _, rfl, hq10, cs_prounds hq10 fun H11 e11 => w_tup (wa_nil ⟨[], rfl, Nat.le_of_ble_eq_true rfl, o2_neD (rds_shp []).ok (rds_shp []).ok ⟨_, rfl, both_f2 rfl ?_⟩⟩)⟩)))))) 
  have hp11 := hp10.same e11
  have hq11 := hq10.same e11
  refine wt_or (wt_test (w_op (w_cb (wa_cons (w_var rfl (wa_nil (oa_plen hp11 (by rw [a3_rs]; exact Nat.le_of_ble_eq_true rfl) fun H12 e12 => w_int (o2_neI ⟨_, rfl, both_f2 (by rw [a3_rs]; decide +kernel) ?_⟩))))))))
  have hp12 := hp11.same e12
  have hq12 := hq11.same e12
  refine wt_test (w_op (w_var rfl (w_var rfl (o2_peq hq12 hp12 fun H13 e13 => ⟨_, rfl, both_f ?_ (go_next ?_)⟩))))
  · have z : PyData.eqv (.tuple (List.map rde [])) (.tuple (a3.now.rs.map rde)) = false := by rw [a3_rs]; decide +kernel
    simp only [eqP, z, Bool.and_false]
  have hp13 := hp12.same e13
  have tb13 := ((tb10.same e11).same e12).same e13
  refine go_ret (w_op (w_said tb13.c fun H14 f14 t14 E14 k14 => ?_))
  have hp14 := hp13.fr f14 (tab_ne_pair tb13.c hp13)
  refine w_cO (w_var rfl ⟨p, rfl, wa_cons (w_int (wa_cons (w_int (wa_nil ⟨hp14.ins, ?_⟩))))⟩)
  refine cs_pcallX (s := a3) hp14 a3_good.ok (.inr ⟨rfl, rfl, by rw [a3_st]; decide +kernel⟩) fun c d H15 f15 th15 hp15 => k14 _ _ _ f15.ft (Raised.of .rd th15 rfl fun H16 e16 => ?_)
  refine w_tup (wa_cons (w_str (wa_cons (w_tup (wa_cons (w_int (wa_cons (w_int (wa_nil ⟨[_, _], rfl, Nat.le_of_ble_eq_true rfl, wa_nil ⟨[_, _], rfl, Nat.le_of_ble_eq_true rfl, ?_⟩⟩)))))))))
  refine o2_eqD (by decide +kernel) (by decide +kernel) ?_
  intro v H17 e17 dv
  have z : v = .bl true := by
    cases dv
    exact congrArg V.bl (by decide +kernel)
  subst z
  exact hq H17
end
end K2

set_option Elab.async false
set_option linter.all false
set_option maxRecDepth 100000
set_option maxHeartbeats 4000000
/-! ## what the top has left: the facts, as one Bool -/
namespace K2
open PySem L2 PySem.Spec PyProof.Rows LamX
/-! ### defs -/
theorem DG.funD {K : PySem.W.Frag} {d : DG} (e : sigAt K (d.ad K) = d.sig) (c : fits K d = true) : ∃ fd, FnP K d.name d.qual d.st d.dfl (d.ad K) fd ∧ fd.code = .ref (codeAt K (d.ad K)) := by
  obtain ⟨kp, c2⟩ := He.ba c
  rcases ho : K.lookup (d.ad K) with _ | ob
  · rw [ho] at c2
    cases c2
  obtain ⟨oc, od, da, sl⟩ := ob
  unfold sigAt at e
  rw [ho] at c2 e
  have kc : codeAt K (d.ad K) = (match (some da : Option Data) with
      | some (.func fd) => (match fd.code with
        | .ref c => c
        | _ => 0)
      | _ => 0) := by
    unfold codeAt
    rw [ho]
    rfl
  cases da with
  | func fd =>
    obtain ⟨a1, a2, a3, a4, a5, a6, a7, dflt, kwd, a10, a11, a12, code, a14, a15⟩ := fd
    have e2 : some (sigF ⟨a1, a2, a3, a4, a5, a6, a7, dflt, kwd, a10, a11, a12, code, a14, a15⟩) = d.sig := e
    simp only [sigF, DG.sig, Option.some.injEq, Prod.mk.injEq] at e2
    obtain ⟨⟨z1, z2⟩, ⟨z3, z4, z5⟩, z6, z7, z8⟩ := e2
    subst z1 z2 z3 z4 z5 z6 z7 z8
    obtain ⟨q1, q2⟩ := He.ba (show (PySem.W.codeIn K code d.qual && He.dflB K dflt d.dfl) = true from c2)
    obtain ⟨cc, rfl⟩ := He.codeIn_ref q1
    exact ⟨_, ⟨⟨oc, od, dflt, kwd, a10, a11, a12, .ref cc, a14, sl, rfl, ho, q1, He.dflB_ok q2, .inl rfl⟩, kp⟩, by rw [kc]⟩
  | _ => cases c2
/-! ### the getter of a property -/
theorem propB_ok {K : PySem.W.Frag} {m : Str} (h : propB K m = true) : PropOf K (He.ga K "Pair") m (He.ma K (He.ga K "Pair") m) (gtr K m) := by
  obtain ⟨h1, h⟩ := He.ba h
  obtain ⟨h2, h⟩ := He.ba h
  obtain ⟨h3, h4⟩ := He.ba h
  refine ⟨He.eqO_ok h1, He.eqO_ok h2, of_decide_eq_true h3, ?_⟩
  unfold gtr
  split at h4
  · rename_i g rest e
    rw [e]
    exact ⟨rest, rfl⟩
  · cases h4
/-! ### exceptions -/
theorem oexB_ok {K : PySem.W.Frag} {C : Addr} {newId : String} {bmB : List Value} (h : oexB K C newId bmB = true) : ∃ nm q N bs bm sn sub ab col dd k0 k1 k2 k3 k5, K.lookup C = some (excClassObj nm q C N bs bm true sn sub ab col dd k0 k1 k2 k3 k5 newId) ∧ refsB bmB bm = true := by
  unfold oexB at h
  split at h
  · rename_i t dd cd sl ho
    obtain ⟨h1, h⟩ := He.ba h
    obtain ⟨nm, bs, mro, ns, qn, hd, sn, sb, ab, col, del⟩ := cd
    unfold oexC at h
    split at h
    · rename_i D bm k0 k1 k2 k3 n k5 hm hs
      obtain ⟨h2, h⟩ := He.ba h
      obtain ⟨h3, h⟩ := He.ba h
      obtain ⟨h4, h⟩ := He.ba h
      obtain ⟨h5, h6⟩ := He.ba h
      have hm : mro = .ref D :: bm := hm
      have h4 : (!del) = true := h4
      have h5 : hd = true := h5
      have es : sl = #[k0, k1, k2, k3, some (.builtin n), k5] := by
        rw [← Array.toArray_toList (xs := sl), hs]
      obtain rfl := of_decide_eq_true h1
      obtain rfl := of_decide_eq_true h2
      obtain rfl := of_decide_eq_true h3
      subst hm h5 es
      cases del with
      | true => cases h4
      | false => exact ⟨nm, qn, ns, bs, bm, sn, sb, ab, col, dd, k0, k1, k2, k3, k5, ho, h6⟩
    · cases h
  · cases h
theorem eks_all (e : EK) : e ∈ eks := by cases e <;> simp [eks]
theorem ecs_all (e : EC) : e ∈ ecs := by cases e <;> simp [ecs]
theorem excB_ok {K : PySem.W.Frag} {e : EK} (h : excB K e = true) : OexG K (caK K e.c) (excNew e) (excBm e) ∧ PySem.W.findIn K (.ref (caK K e.c)) e.fld = some none ∧ PySem.W.findIn K (.ref (caK K e.c)) "__init__" = some (some (.ref (He.ma K (caK K e.c) "__init__"))) ∧ PySem.W.typeIn K (.ref (He.ma K (caK K e.c) "__init__")) = some (.type "function") := by
  obtain ⟨h1, h⟩ := He.ba h
  obtain ⟨h2, h⟩ := He.ba h
  obtain ⟨h3, h⟩ := He.ba h
  obtain ⟨h4, h⟩ := He.ba h
  obtain ⟨h5, h⟩ := He.ba h
  obtain ⟨h6, h⟩ := He.ba h
  obtain ⟨h7, h8⟩ := He.ba h
  exact ⟨⟨oexB_ok h1, He.eqO_ok h2, of_decide_eq_true h3, of_decide_eq_true h4, h5⟩, He.eqO_ok h6, He.eqO_ok h7, of_decide_eq_true h8⟩
theorem keptB_ok {K : PySem.W.Frag} {D : Addr} (h : keptB K D = true) : ExcC K D ∧ XfC K D := by
  obtain ⟨h1, h⟩ := He.ba h
  obtain ⟨h2, h⟩ := He.ba h
  obtain ⟨h3, h⟩ := He.ba h
  obtain ⟨h4, h⟩ := He.ba h
  obtain ⟨h5, h⟩ := He.ba h
  obtain ⟨h6, h⟩ := He.ba h
  obtain ⟨h7, h8⟩ := He.ba h
  exact ⟨⟨He.eqO_ok h1, He.eqO_ok h2, of_decide_eq_true h3, h4, He.eqO_ok h5, He.eqO_ok h6, of_decide_eq_true h7, of_decide_eq_true h8⟩, ⟨He.eqO_ok h1, He.eqO_ok h2, of_decide_eq_true h3, h4⟩⟩
theorem cfB_ok {o : Option PySem.W.CFound} {y : String} (h : cfB o y = true) : o = some (.val (.builtin y)) := by
  unfold cfB at h
  split at h
  · rw [of_decide_eq_true h]
  · cases h
/-! ### the class Pair -/
theorem pairB_ok {K : PySem.W.Frag} {mg : Str → Option Value} (h : pairB K = true) (hm : mg "Pair" = some (.ref (He.ga K "Pair"))) : PairK K mg (He.ga K "Pair") := by
  obtain ⟨h1, h⟩ := He.ba h
  obtain ⟨h2, h⟩ := He.ba h
  obtain ⟨h3, h⟩ := He.ba h
  obtain ⟨h4, h⟩ := He.ba h
  obtain ⟨h5, h⟩ := He.ba h
  obtain ⟨h6, h⟩ := He.ba h
  obtain ⟨h7, h⟩ := He.ba h
  obtain ⟨h8, h⟩ := He.ba h
  obtain ⟨h9, h⟩ := He.ba h
  obtain ⟨h10, h⟩ := He.ba h
  obtain ⟨h11, h12⟩ := He.ba h
  have c := He.cls_ok h1
  exact ⟨c, fun f hf => He.noat_ok (List.all_eq_true.mp h2 f hf), hm, h3, ⟨c, He.eqO_ok h4, He.eqO_ok h5, of_decide_eq_true h6, of_decide_eq_true h7, of_decide_eq_true h8⟩, of_decide_eq_true h9, h10, h11, He.eqO_ok h12, of_decide_eq_true h7⟩
/-! ### the tables of the defs that make lambdas -/
/-! ### all -/
/-- what is told of the heap behind the top -/
structure Says (h : Heap) (K : PySem.W.Frag) : Prop where
  sig : ∀ d ∈ defsL, ∃ fd, FnP K d.name d.qual d.st d.dfl (d.ad K) fd ∧ fd.code = .ref (codeAt K (d.ad K))
  fx : facA K = true
  hd : ∀ x ∈ lamD, PySem.W.codeHdIn K (cdL K x) (tbL K x) = true
  empty : ∀ x ∈ lamD, h.get? (tbL K x) = some { cls := .none, data := .fields #[] }
  out : ∀ x ∈ lamD, K.lookup (tbL K x) = none
theorem pr4 {α β γ δ : Type} {a a' : α} {b b' : β} {c c' : γ} {d d' : δ} (h : (a, b, c, d) = (a', b', c', d')) : a = a' ∧ b = b' ∧ c = c' ∧ d = d' := by
  cases h
  exact ⟨rfl, rfl, rfl, rfl⟩
theorem says_gen {h : Heap} {K : PySem.W.Frag} {l : List DG} (e1 : (l.map fun d => sigAt K (d.ad K)) = l.map DG.sig) (e4 : (l.all fun d => fits K d) = true) : ∀ d ∈ l, ∃ fd, FnP K d.name d.qual d.st d.dfl (d.ad K) fd ∧ fd.code = .ref (codeAt K (d.ad K)) := fun d hd => by
  obtain ⟨i, hi, rfl⟩ := List.mem_iff_getElem.mp hd
  refine DG.funD ?_ (List.all_eq_true.mp e4 _ hd)
  have e3 := congrArg (fun l => l[i]?) e1
  simp only [List.getElem?_map, List.getElem?_eq_getElem hi, Option.map_some, Option.some.injEq] at e3
  exact e3
theorem says_of {h : Heap} (e : obsG h.get? = valK) : Says h (seen h.get?) := by
  have e : obsK h.get? (seen h.get?) = valK := e
  unfold obsK valK at e
  obtain ⟨e1, e2, e3, e4⟩ := pr4 e
  have tb : ∀ x ∈ lamD, PySem.W.codeHdIn (seen h.get?) (cdL (seen h.get?) x) (tbL (seen h.get?) x) = true ∧ ∃ o, h.get? (tbL (seen h.get?) x) = some o ∧ He.emptyTab o = true := fun x hx => by
    obtain ⟨q1, q⟩ := He.ba (List.all_eq_true.mp e3 x hx)
    refine ⟨q1, ?_⟩
    rcases z : h.get? (tbL (seen h.get?) x) with _ | o
    · rw [z] at q
      cases q
    · rw [z] at q
      exact ⟨o, rfl, q⟩
  refine ⟨says_gen (h := h) e1 e4, e2, fun x hx => (tb x hx).1, fun x hx => ?_, fun x hx => ?_⟩
  · obtain ⟨_, o, z1, z2⟩ := tb x hx
    rw [z1, He.emptyTab_eq z2]
  · obtain ⟨_, o, z1, z2⟩ := tb x hx
    exact He.frT_none z1 z2
def hookK : PySem.W.Hook where
  α := AlK
  obs := fun s => obsG s.heap.get?
  val := fun _ => valK
  says := fun _ h => ∃ K : PySem.W.Frag, K.In h ∧ Says h K
  of := fun _ _ e => ⟨_, He.frT_in, says_of e⟩
  keeps := fun _ _ _ ⟨K, hK, c⟩ k => ⟨K, PySem.W.Frag.In.keeps hK k, ⟨c.sig, c.fx, c.hd, fun x hx => k _ _ (c.empty x hx), c.out⟩⟩
theorem obT_eq (s : PySem.W.SharedT) : obT s = hookK.obs s.abs := by
  show obsG (HandSHeadRun.getT s) = obsG s.abs.heap.get?
  rw [funext (HandSHeadRun.getT_eq s)]
end K2

set_option Elab.async false
set_option linter.all false
set_option maxRecDepth 100000
set_option maxHeartbeats 4000000
/-! ## the law entered where no guard stands, tables tracked -/
namespace K2
open PySem L2 PySem.Spec PyProof.Rows LamX
/-- what is tracked as the law is entered: the tables T, empty; the script, if the top does not hold it -/
def lawHp (T : List Addr) (own : Bool) (a : Addr) (scr : Obj) (xs : List V) : Hp := fun b => if b ∈ T then some (.tbl #[]) else if own = true ∧ b = a then some (.frz scr (.lst xs)) else none
section
variable {T : List Addr} {own : Bool} {a b : Addr} {scr : Obj} {xs : List V}
theorem lawHp_tab (h : b ∈ T) : lawHp T own a scr xs b = some (.tbl #[]) := if_pos h
theorem lawHp_none (h : b ∉ T) (n : ¬ (own = true ∧ b = a)) : lawHp T own a scr xs b = none := (if_neg h).trans (if_neg n)
theorem lawHp_scr (h : a ∉ T) (o : own = true) : lawHp T own a scr xs a = some (.frz scr (.lst xs)) := (if_neg h).trans (if_pos ⟨o, rfl⟩)
theorem lawHp_some {u : HO} (h : lawHp T own a scr xs b = some u) : (b ∈ T ∧ u = .tbl #[]) ∨ (b ∉ T ∧ own = true ∧ b = a ∧ u = .frz scr (.lst xs)) := by
  by_cases z : b ∈ T
  · rw [lawHp_tab z] at h
    exact .inl ⟨z, (Option.some.inj h).symm⟩
  · by_cases y : own = true ∧ b = a
    · obtain ⟨y1, rfl⟩ := y
      rw [lawHp_scr z y1] at h
      exact .inr ⟨z, y1, rfl, (Option.some.inj h).symm⟩
    · rw [lawHp_none z y] at h
      cases h
end
theorem law_guarded {P : Program} {w : World} {K : PySem.W.Frag} {mg mb : Str → Option Value} {CX : CXT} {k : Nat} {fa a : Addr} {cs : List (Addr × Addr)} {fd : FuncData} {x : Str} {S : Sp} {s1 : Shared} {vs : List Value} {ns : List Int}
    (kin : K.In s1.heap) (globN : s1.heap.Ns mainGlobals mg) (bltN : s1.heap.Ns builtinsNs mb) (bltE : ∀ y : Str, y ≠ "__name__" → mb y = bootBuiltins y) (noLim : s1.heap.NoLimit) (noGen : s1.gens = #[])
    (tabE : ∀ p ∈ cs, s1.heap.get? p.2 = some { cls := .none, data := .fields #[] }) (tabO : ∀ p ∈ cs, K.lookup p.2 = none) (tabC : ∀ p ∈ cs, PySem.W.codeHdIn K p.1 p.2 = true)
    (modB : ∃ (bm : Addr) (ob : Obj), mg "__builtins__" = some (.ref bm) ∧ bm ≠ builtinsNs ∧ s1.heap.get? bm = some ob ∧ ob.cls = .type "module" ∧ ob.dict = some builtinsNs ∧ ob.data = .plain)
    (scrA : s1.heap.get? a = some { cls := .type "list", data := .seq vs.toArray }) (scrI : IntsAre vs ns) (scrL : ns.length ≤ sizeLine) (room : Room k callerA)
    (FG : ∀ base : Heap, K.In base → base.Ns mainGlobals mg → (∀ p ∈ cs, TabB base mg p.1 p.2) → FnOkG P w K mg base CX k fa fd [x] S) (binds : ∀ (s : Shared) (u : Value), BindsTo s fd ⟨[u], []⟩ [(x, u)])
    (prom : ∀ H : Hp, (∀ p ∈ cs, H p.2 = some (.tbl #[])) → SqL K H a (ns.map V.int) → S [.ref a] H (fun v _ => v = .bl true) fun _ _ _ => False)
    (noX : ∀ H e s', CX [] H s1 (fun _ _ _ => False) e s' → False) :
    codeAny (model P w) callerA (.call (.ref fa) ⟨[.ref a], []⟩) (fun r s' => r = .ok (.ret (.bool true)) ∧ OldK s1.heap s'.heap ∧ s'.os = s1.os ∧ AllBare s'.gens) s1 := by
  have inT : ∀ {b : Addr}, b ∈ cs.map Prod.snd → ∃ p ∈ cs, p.2 = b := fun {b} hb => List.mem_map.mp hb
  have ofT : ∀ {p : Addr × Addr}, p ∈ cs → p.2 ∈ cs.map Prod.snd := fun {p} hp => List.mem_map_of_mem hp
  have scrT : a ∉ cs.map Prod.snd := fun hb => by
    obtain ⟨p, hp, e⟩ := inT hb
    have q := tabE p hp
    rw [e, scrA] at q
    have q2 := congrArg Obj.data (Option.some.inj q)
    simp at q2
  generalize hH : lawHp (cs.map Prod.snd) (K.lookup a).isNone a { cls := .type "list", data := .seq vs.toArray } (ns.map V.int) = Hs
  have some_of : ∀ {b : Addr} {u : HO}, Hs b = some u → (b ∈ cs.map Prod.snd ∧ u = .tbl #[]) ∨ (b ∉ cs.map Prod.snd ∧ (K.lookup a).isNone = true ∧ b = a ∧ u = .frz { cls := .type "list", data := .seq vs.toArray } (.lst (ns.map V.int))) := fun {b u} h => by
    rw [← hH] at h
    exact lawHp_some h
  have atT : ∀ p ∈ cs, Hs p.2 = some (.tbl #[]) := fun p hp => by
    rw [← hH]
    exact lawHp_tab (ofT hp)
  -- objects that are neither a table nor the script are not tracked
  have free : ∀ {b : Addr} {o : Obj}, s1.heap.get? b = some o → o.data ≠ .fields #[] → (∀ us n, o.data ≠ .seq us n) → Hs b = none := fun {b o} ho n1 n2 => by
    rcases hq : Hs b with _ | u
    · rfl
    · rcases some_of hq with ⟨hb, _⟩ | ⟨_, _, rfl, _⟩
      · obtain ⟨p, hp, rfl⟩ := inT hb
        rw [tabE p hp] at ho
        cases ho
        exact absurd rfl n1
      · rw [scrA] at ho
        cases ho
        exact absurd rfl (n2 _ _)
  have dictFree : ∀ {b : Addr} {o : Obj} {es : Array DictEntry} {ep : Nat}, s1.heap.get? b = some o → o.data = .dict es ep → Hs b = none := fun {b o es ep} ho hd => free ho (by rw [hd]; simp) fun us n => by rw [hd]; simp
  have nsB : ∀ {b : Addr} {m : Str → Option Value}, s1.heap.Ns b m → (hidT s1.heap Hs).Ns b m := fun {b m} ⟨o, es, ep, ho, hd, rest⟩ => ⟨o, es, ep, hidT_get ho (dictFree ho hd), hd, rest⟩
  have kinB : K.In (hidT s1.heap Hs) := fun b o ho => hidT_get (kin b o ho) (by
    rcases hq : Hs b with _ | u
    · rfl
    · rcases some_of hq with ⟨hb, _⟩ | ⟨_, hn, rfl, _⟩
      · obtain ⟨p, hp, rfl⟩ := inT hb
        rw [tabO p hp] at ho
        cases ho
      · rw [ho] at hn
        cases hn)
  have tabs : ∀ p ∈ cs, TabB (hidT s1.heap Hs) mg p.1 p.2 := fun p hp => by
    obtain ⟨bm, ob, m1, m2, m3, m4, m5, m6⟩ := modB
    refine ⟨PySem.W.codeHd_of_K kinB (tabC p hp), ⟨bm, ob, m1, m2, fun z => ?_, fun z => ?_, hidT_get m3 (free m3 (by rw [m6]; simp) fun us n => by rw [m6]; simp), m4, m5, m6⟩, fun z => ?_⟩
    · obtain ⟨o, es, ep, ho, hd, _⟩ := globN
      rw [z, ho] at m3
      cases m3
      rw [hd] at m6
      cases m6
    · rw [z, tabE p hp] at m3
      cases m3
      cases m6
    · obtain ⟨o, es, ep, ho, hd, _⟩ := globN
      rw [z, tabE p hp] at ho
      cases ho
      cases hd
  have scrS : SqL K Hs a (ns.map V.int) := by
    rcases hk : K.lookup a with _ | o
    · refine .inl (.inr ⟨{ cls := .type "list", data := .seq vs.toArray }, ?_⟩)
      rw [← hH]
      exact lawHp_scr scrT (by rw [hk]; rfl)
    · have q := kin a o hk
      rw [scrA] at q
      cases q
      exact .inr ⟨_, vs.toArray, _, hk, rfl, rfl, rfl, by rw [List.size_toArray, scrI.length]; exact scrL, by simpa using vals_ints scrI⟩
  have held : HOk P w Hs s1.heap := fun b u hu => by
    rcases some_of hu with ⟨hb, rfl⟩ | ⟨_, _, rfl, rfl⟩
    · obtain ⟨p, hp, rfl⟩ := inT hb
      exact tabE p hp
    · exact ⟨scrA, by rw [List.length_map]; exact scrL, vs, _, vals_ints scrI, scrA⟩
  have start : Env0 P w K mg (hidT s1.heap Hs) callerA [] s1 Hs :=
    { frames := rfl, mod := ⟨kinB, nsB globN, ⟨mb, nsB bltN, bltE⟩, by
        obtain ⟨mc, l1, l2⟩ := noLim
        exact ⟨mc, nsB l1, l2⟩⟩, bs := fun b o ho => of_hidT ho, bsz := Nat.le_of_eq (hidT_size _ _), funs := trivial, frf := fun b hb => (List.not_mem_nil hb).elim, hok := held, bare := .of_eq noGen }
  have run := (FG _ kinB (nsB globN) tabs).run callerA [] s1 Hs ⟨[.ref a], []⟩ [.ref a] [.ref a] _ _ rfl room start (binds s1 (.ref a)) (.cons rfl .nil) (prom Hs atT scrS)
  refine codeAny_mono run fun r s' h => ?_
  rcases r with e | fl
  · exact (noX Hs e s' h).elim
  cases fl with
  | next => exact h.elim
  | brk => exact h.elim
  | cont => exact h.elim
  | ret u =>
    obtain ⟨v, H2, os, bare, un, held2, rel, q⟩ := h
    obtain rfl : v = .bl true := q
    obtain rfl : u = Value.bool true := rel
    have grow : ∀ p ∈ cs, ∃ more : Array Value, s'.heap.get? p.2 = some { cls := .none, data := .fields (#[] ++ more) } := fun p hp => by
      obtain ⟨more, z⟩ := un.tbls p.2 #[] (atT p hp)
      exact ⟨more, held2 p.2 _ z⟩
    have kept : ∀ b o, b ∉ cs.map Prod.snd → s1.heap.get? b = some o → s'.heap.get? b = some o := fun b o hb ho => by
      rcases hq : Hs b with _ | u
      · exact un.keep b o ho hq (fun z => (List.not_mem_nil (show b ∈ ([] : List Addr) from z)).elim) List.not_mem_nil
      · rcases some_of hq with ⟨hb2, _⟩ | ⟨_, _, rfl, rfl⟩
        · exact absurd hb2 hb
        · rw [scrA] at ho
          cases ho
          exact (held2 b _ (un.frzs b _ _ hq)).1
    refine ⟨rfl, ⟨fun b o ho => ?_, fun b o ho => ?_⟩, os, bare⟩
    · by_cases hb : b ∈ cs.map Prod.snd
      · obtain ⟨p, hp, rfl⟩ := inT hb
        obtain ⟨more, z⟩ := grow p hp
        rw [tabE p hp] at ho
        cases ho
        exact .inr (.inl ⟨((PySem.W.codeHd_of_K kin (tabC p hp)).tab (tabE p hp)).isCodeTable, rfl, #[], more, rfl, z⟩)
      · exact .inl (kept b o hb ho)
    · by_cases hb : b ∈ cs.map Prod.snd
      · obtain ⟨p, hp, rfl⟩ := inT hb
        obtain ⟨more, z⟩ := grow p hp
        exact ⟨_, z⟩
      · exact ⟨o, kept b o hb ho⟩
/-- the end of the row by such a promise -/
theorem walk_guarded {l : PySem.W.OpenLaw} {n k : Nat} {q : Program} {loose : List Str} {XP : (Str → Option Value) → Heap → Prop} {YP : World → Heap → Prop} {d : DefRec} {CX : World → CXT} {x : Str}
    (hn : l.most = some n) (hs : n ≤ sizeLine) (hd : d.params.defaults = []) (room : Room k callerA)
    (told : ∀ (w : World) (mg : Str → Option Value) (fa : Addr) (h : Heap), YP w h → h.Ns mainGlobals mg → mg d.name = some (.ref fa) → ∃ (K : PySem.W.Frag) (fd : FuncData) (cs : List (Addr × Addr)) (S : Sp), K.In h ∧ (∀ p ∈ cs, h.get? p.2 = some { cls := .none, data := .fields #[] }) ∧ (∀ p ∈ cs, K.lookup p.2 = none) ∧ (∀ p ∈ cs, PySem.W.codeHdIn K p.1 p.2 = true) ∧
      (∀ (s : Shared) (u : Value), BindsTo s fd ⟨[u], []⟩ [(x, u)]) ∧ (∀ (H : Hp) (a : Addr) (ns : List Int), ns.length ≤ n → (∀ p ∈ cs, H p.2 = some (.tbl #[])) → SqL K H a (ns.map V.int) → S [.ref a] H (fun v _ => v = .bl true) fun _ _ _ => False) ∧
      ∀ base : Heap, K.In base → base.Ns mainGlobals mg → (∀ p ∈ cs, TabB base mg p.1 p.2) → FnOkG l.prog w K mg base (CX w) k fa fd [x] S)
    (noX : ∀ (w : World) (H : Hp) (s : Shared) (e : Value) (s' : Shared), CX w [] H s (fun _ _ _ => False) e s' → False) :
    PySem.W.WalkO q loose XP YP l.row.toRowW d [] (fun f vs => PySem.call f vs) :=
  Att.attach_callB hn hd fun w s0 s1 mg mb fa o pm cd doc a vs ns G Y _ _ _ hmg hobj hints hlen _ hg => by
    obtain ⟨K, fd, cs, S, kin, c1, c2, c3, hb, hp, hF⟩ := told w mg fa _ Y G.T.g hmg
    exact law_guarded kin G.T.g G.T.b G.T.builtins G.T.nolimit hg c1 c2 c3 G.T.bmain hobj hints (Nat.le_trans hlen hs) room hF hb (fun H hH hS => hp H a ns hlen hH hS) fun H e s' => noX w H s1 e s'
end K2

set_option Elab.async false
set_option linter.all false
set_option maxRecDepth 100000
set_option maxHeartbeats 2000000
/-! ## the head's equation -/
namespace K2
open PySem PySem.W PySem.Calls PyProof.Rows
theorem runK (w : World) : HandSHeadRun.RunEq RWK qvK hookK obT 15000 looseK w := fun os => run0 w os
end K2

set_option Elab.async false
set_option linter.all false
set_option maxRecDepth 100000
set_option maxHeartbeats 4000000
/-! ## all together -/
namespace K2
open PySem L2 PySem.Spec PyProof.Rows LamX
section
variable {K : PySem.W.Frag} {x q : Str} {st : Stmt} {f : Addr} {fd : FuncData} {ps ks : List Str} {y : V}
/-- every parameter is given, though the last has a default -/
theorem binds_full (F : FnP K x q st [y] f fd) (n : Nat) (hn : n = ps.length)
    (h : ∀ (T : Addr) (kV doc pm : Value) (an : Option Addr) (cdv ct : Value) (us its : List Value), us.length = n → its.length = 1 →
      ∃ k, bindArgs (PySem.W.fnOf x q (defArgs st) (defBody st) (defScope st) (.ref T) kV doc pm an cdv ct) ⟨us, []⟩ = seqItems? (.ref T) >>= k ∧ k (some its.toArray) = pure (ps.zip (us ++ its.drop 1))) : Binds K fd ps [] := by
  obtain ⟨ds, r, b⟩ := FunD.binds1 F n 1 (List.cons_ne_nil _ _) (by simpa using hn) h
  cases r
  exact b
/-- the default is taken -/
theorem binds_dfl (F : FnP K x q st [y] f fd) (n : Nat) (hn : n + 1 = ps.length)
    (h : ∀ (T : Addr) (kV doc pm : Value) (an : Option Addr) (cdv ct : Value) (us its : List Value), us.length = n → its.length = 1 →
      ∃ k, bindArgs (PySem.W.fnOf x q (defArgs st) (defBody st) (defScope st) (.ref T) kV doc pm an cdv ct) ⟨us, []⟩ = seqItems? (.ref T) >>= k ∧ k (some its.toArray) = pure (ps.zip (us ++ its.drop 0))) : ∃ dd, RelV y dd ∧ Binds K fd ps [dd] := by
  obtain ⟨ds, r, b⟩ := FunD.binds1 F n 0 (List.cons_ne_nil _ _) (by simpa using hn) h
  cases r with
  | cons r1 r2 =>
    cases r2
    exact ⟨_, r1, b⟩
theorem kb_dfl {g : List Value → List Value → List Value} {gV : List V → List V → List V} (F : FnP K x q st [y] f fd)
    (h : ∀ (T : Addr) (kV doc pm : Value) (an : Option Addr) (cdv ct : Value) (us ws its : List Value), (g us ws).length = ps.length → its.length = 1 →
      ∃ k, bindArgs (PySem.W.fnOf x q (defArgs st) (defBody st) (defScope st) (.ref T) kV doc pm an cdv ct) ⟨us, ks.zip ws⟩ = seqItems? (.ref T) >>= k ∧ k (some its.toArray) = pure (ps.zip (g us ws)))
    (rel : ∀ {vs : List V} {us : List Value} {zs : List V} {ws : List Value}, Vals vs us → Vals zs ws → Vals (gV vs zs) (g us ws)) : KBinds K fd ps ks g gV := by
  obtain ⟨oc, od, dV, kV, doc, pm, an, cdv, ct, osl, rfl, lk, hcd, hD, hK⟩ := F.ex
  rcases hD with ⟨e, _⟩ | ⟨_, T, o, its, m, rfl, lT, oT, rT⟩
  · cases e
  · refine ⟨fun s us ws X hlen => ?_, rel⟩
    obtain ⟨k, e1, e2⟩ := h T kV doc pm an cdv ct us ws its hlen rT.length.symm
    refine BindsTo.of_looks fun M => ?_
    rw [e1]
    exact looks_items X lT oT (.of_pure e2)
theorem kb_all {g : List Value → List Value → List Value} {gV : List V → List V → List V} (F : FnP K x q st [] f fd)
    (h : ∀ (kV doc pm : Value) (an : Option Addr) (cdv ct : Value) (us ws : List Value), (g us ws).length = ps.length → bindArgs (PySem.W.fnOf x q (defArgs st) (defBody st) (defScope st) .none kV doc pm an cdv ct) ⟨us, ks.zip ws⟩ = pure (ps.zip (g us ws)))
    (rel : ∀ {vs : List V} {us : List Value} {zs : List V} {ws : List Value}, Vals vs us → Vals zs ws → Vals (gV vs zs) (g us ws)) : KBinds K fd ps ks g gV := by
  obtain ⟨oc, od, dV, kV, doc, pm, an, cdv, ct, osl, rfl, lk, hcd, hD, hK⟩ := F.ex
  rcases hD with ⟨_, rfl⟩ | ⟨e, _⟩
  · exact ⟨fun s us ws X hlen => .of_eq (h kV doc pm an cdv ct us ws hlen), rel⟩
  · exact absurd rfl e
end
/-- one by place, one by name -/
def g11 {α : Type} : List α → List α → List α
  | [u], [v] => [u, v]
  | _, _ => []
def g12 {α : Type} : List α → List α → List α
  | [u], [a, b] => [u, b, a]
  | _, _ => []
theorem g11_rel {α β : Type} {R : α → β → Prop} : ∀ {vs : List α} {us : List β} {zs : List α} {ws : List β}, Paired R vs us → Paired R zs ws → Paired R (g11 vs zs) (g11 us ws)
  | _, _, _, _, .nil, .nil => .nil
  | _, _, _, _, .nil, .cons _ _ => .nil
  | _, _, _, _, .cons _ .nil, .nil => .nil
  | _, _, _, _, .cons a .nil, .cons b .nil => .cons a (.cons b .nil)
  | _, _, _, _, .cons _ .nil, .cons _ (.cons _ _) => .nil
  | _, _, _, _, .cons _ (.cons _ _), _ => by simp only [g11]; exact .nil
theorem g12_rel {α β : Type} {R : α → β → Prop} : ∀ {vs : List α} {us : List β} {zs : List α} {ws : List β}, Paired R vs us → Paired R zs ws → Paired R (g12 vs zs) (g12 us ws)
  | _, _, _, _, .nil, .nil => .nil
  | _, _, _, _, .nil, .cons _ _ => .nil
  | _, _, _, _, .cons _ .nil, .nil => .nil
  | _, _, _, _, .cons _ .nil, .cons _ .nil => .nil
  | _, _, _, _, .cons a .nil, .cons b (.cons c .nil) => .cons a (.cons c (.cons b .nil))
  | _, _, _, _, .cons _ .nil, .cons _ (.cons _ (.cons _ _)) => .nil
  | _, _, _, _, .cons _ (.cons _ _), _ => by simp only [g12]; exact .nil
theorem g11_gv : GvOk g11 g11 := fun H vs zs xs ys h1 h2 => by
  cases h1 with
  | nil => cases h2 <;> exact .nil
  | cons a h1 =>
    cases h1 with
    | nil =>
      cases h2 with
      | nil => exact .nil
      | cons b h2 =>
        cases h2 with
        | nil => exact .cons a (.cons b .nil)
        | cons _ _ => exact .nil
    | cons _ _ => simp only [g11]; exact .nil
theorem g12_gv : GvOk g12 g12 := fun H vs zs xs ys h1 h2 => by
  cases h1 with
  | nil => cases h2 <;> exact .nil
  | cons a h1 =>
    cases h1 with
    | nil =>
      cases h2 with
      | nil => exact .nil
      | cons b h2 =>
        cases h2 with
        | nil => exact .nil
        | cons c h2 =>
          cases h2 with
          | nil => exact .cons a (.cons c (.cons b .nil))
          | cons _ _ => exact .nil
    | cons _ _ => simp only [g12]; exact .nil
theorem law_all {P : Program} {w : World} {K : PySem.W.Frag} {h : Heap} {mg : Str → Option Value} {base : Heap} (kin : K.In h) (G0 : h.Ns mainGlobals mg) (S : Says h K)
    (TB : ∀ x ∈ lamD, TabB base mg (cdL K x) (tbL K x)) : ∃ fd, FnP K "law" "law" (top 72) [] (He.ga K "law") fd ∧ FnOkG P w K mg base (L2.CX P w) 16 (He.ga K "law") fd ["_law_script"] (spLaw K (tbL K "_law_refused_right") (tbL K "_law_others_right") (tbL K "law")) := by
  obtain ⟨fG, fx⟩ := He.ba S.fx
  obtain ⟨fP, fx⟩ := He.ba fx
  obtain ⟨fE, fx⟩ := He.ba fx
  obtain ⟨fK, fT⟩ := He.ba fx
  obtain ⟨fg1, fg⟩ := He.ba fG
  obtain ⟨fg2, fg⟩ := He.ba fg
  obtain ⟨fg3, fg4⟩ := He.ba fg
  obtain ⟨fp1, fp⟩ := He.ba fP
  obtain ⟨fp2, fp⟩ := He.ba fp
  obtain ⟨fp3, fp⟩ := He.ba fp
  obtain ⟨fp4, fp5⟩ := He.ba fp
  obtain ⟨fe1, fe⟩ := He.ba fE
  obtain ⟨fe2, fe3⟩ := He.ba fe
  obtain ⟨fs1, fs⟩ := He.ba fe3
  obtain ⟨fs2, fs⟩ := He.ba fs
  obtain ⟨fs3, fs4⟩ := He.ba fs
  obtain ⟨fk1, fk⟩ := He.ba fK
  obtain ⟨fk2, fk3⟩ := He.ba fk
  obtain ⟨ft1, ft⟩ := He.ba fT
  obtain ⟨ft2, ft3⟩ := He.ba ft
  have glo : ∀ x ∈ globs, mg x = some (.ref (He.ga K x)) := fun x hx => He.glo_ok kin G0 (List.all_eq_true.mp fg1 x hx)
  have G : GF mg := ⟨fun x hx => He.free_ok kin G0 (List.all_eq_true.mp fg2 x ((by decide +kernel : ∀ y ∈ (["isinstance", "int", "bool", "tuple", "str", "len", "all", "zip", "enumerate", "max", "min", "abs", "sum", "list", "range", "repr"] : List Str), y ∈ frees) x hx)), fun q hq => He.int_ok kin G0 (List.all_eq_true.mp fg3 q hq), fun q hq => He.str_ok kin G0 (List.all_eq_true.mp fg4 q hq)⟩
  have hRT : mg "RuntimeError" = none := He.free_ok kin G0 (List.all_eq_true.mp fg2 "RuntimeError" (by decide +kernel))
  have PK : PairK K mg (He.ga K "Pair") := pairB_ok fp1 (glo "Pair" (by decide +kernel))
  have mth : ∀ m ∈ meths, Meth K (He.ga K "Pair") m (He.ma K (He.ga K "Pair") m) := fun m hm => He.meth_ok (List.all_eq_true.mp fp2 m hm)
  have prp : ∀ m ∈ props, PropOf K (He.ga K "Pair") m (He.ma K (He.ga K "Pair") m) (gtr K m) := fun m hm => propB_ok (List.all_eq_true.mp fp5 m hm)
  have exc : ∀ e : EK, OexG K (caK K e.c) (excNew e) (excBm e) ∧ PySem.W.findIn K (.ref (caK K e.c)) e.fld = some none ∧ PySem.W.findIn K (.ref (caK K e.c)) "__init__" = some (some (.ref (He.ma K (caK K e.c) "__init__"))) ∧ PySem.W.typeIn K (.ref (He.ma K (caK K e.c) "__init__")) = some (.type "function") := fun e => excB_ok (List.all_eq_true.mp fe1 e (eks_all e))
  have ES : ESet K mg := ⟨He.ga K "SetError", .type "type", glo "SetError" (by decide +kernel), ⟨fs1, He.eqO_ok fs2⟩, cfB_ok fs3⟩
  have hRI := cfB_ok fs4
  have CA : CAll K mg (caK K) := ⟨fun x => glo x.nm (by cases x <;> decide +kernel), fun e x => of_decide_eq_true (List.all_eq_true.mp (List.all_eq_true.mp fk1 e (eks_all e)) x (ecs_all x)), fun e => (keptB_ok (List.all_eq_true.mp fe2 e (eks_all e))).1, fun e => (keptB_ok (List.all_eq_true.mp fe2 e (eks_all e))).2, fun e => (exc e).2.1⟩
  have CT : CTry K (caK K) := ⟨fun e => of_decide_eq_true (List.all_eq_true.mp fk2 e (eks_all e)), fun e => of_decide_eq_true (List.all_eq_true.mp fk3 e (eks_all e))⟩
  obtain ⟨fd_is_integer, F_is_integer, cd_is_integer⟩ : ∃ fd, FnP K "is_integer" "is_integer" (top 18) [] (He.ga K "is_integer") fd ∧ fd.code = .ref (codeAt K (He.ga K "is_integer")) := (S.sig _ (List.mem_of_getElem? (i := 0) rfl))
  have D_is_integer : DefOk P w K mg base 1 "is_integer" ["thing"] (S_is_integer) := ⟨_, fd_is_integer, ok_is_integer (G := G)  (F := F_is_integer), glo "is_integer" (by decide +kernel), F_is_integer.kp, (F_is_integer.bindsN fun _ _ _ _ _ _ us hl => match us, hl with | [_], _ => rfl)⟩
  obtain ⟨fd_is_whole, F_is_whole, cd_is_whole⟩ : ∃ fd, FnP K "is_whole" "is_whole" (top 19) [] (He.ga K "is_whole") fd ∧ fd.code = .ref (codeAt K (He.ga K "is_whole")) := (S.sig _ (List.mem_of_getElem? (i := 1) rfl))
  have D_is_whole : DefOk P w K mg base 2 "is_whole" ["thing", "least", "most"] (S_is_whole) := ⟨_, fd_is_whole, ok_is_whole (G := G) (D1 := D_is_integer) (F := F_is_whole), glo "is_whole" (by decide +kernel), F_is_whole.kp, (F_is_whole.bindsN fun _ _ _ _ _ _ us hl => match us, hl with | [_, _, _], _ => rfl)⟩
  obtain ⟨fd_is_world, F_is_world, cd_is_world⟩ : ∃ fd, FnP K "is_world" "is_world" (top 34) [] (He.ga K "is_world") fd ∧ fd.code = .ref (codeAt K (He.ga K "is_world")) := (S.sig _ (List.mem_of_getElem? (i := 2) rfl))
  have D_is_world : DefOk P w K mg base 3 "is_world" ["thing"] (S_is_world) := ⟨_, fd_is_world, ok_is_world (G := G) (D_is_whole := D_is_whole) (F := F_is_world), glo "is_world" (by decide +kernel), F_is_world.kp, (F_is_world.bindsN fun _ _ _ _ _ _ us hl => match us, hl with | [_], _ => rfl)⟩
  obtain ⟨fd_need_world, F_need_world, cd_need_world⟩ : ∃ fd, FnP K "need_world" "need_world" (top 35) [] (He.ga K "need_world") fd ∧ fd.code = .ref (codeAt K (He.ga K "need_world")) := (S.sig _ (List.mem_of_getElem? (i := 3) rfl))
  have D_need_world : DefOk P w K mg base 4 "need_world" ["thing"] (S_need_world) := ⟨_, fd_need_world, ok_need_world (G := G) (D_is_world := D_is_world) (F := F_need_world), glo "need_world" (by decide +kernel), F_need_world.kp, (F_need_world.bindsN fun _ _ _ _ _ _ us hl => match us, hl with | [_], _ => rfl)⟩
  obtain ⟨fd_is_deed, F_is_deed, cd_is_deed⟩ : ∃ fd, FnP K "is_deed" "is_deed" (top 36) [] (He.ga K "is_deed") fd ∧ fd.code = .ref (codeAt K (He.ga K "is_deed")) := (S.sig _ (List.mem_of_getElem? (i := 4) rfl))
  have D_is_deed : DefOk P w K mg base 3 "is_deed" ["thing"] (S_is_deed) := ⟨_, fd_is_deed, ok_is_deed (G := G) (D_is_whole := D_is_whole) (F := F_is_deed), glo "is_deed" (by decide +kernel), F_is_deed.kp, (F_is_deed.bindsN fun _ _ _ _ _ _ us hl => match us, hl with | [_], _ => rfl)⟩
  obtain ⟨fd_is_entry, F_is_entry, cd_is_entry⟩ : ∃ fd, FnP K "is_entry" "is_entry" (top 37) [] (He.ga K "is_entry") fd ∧ fd.code = .ref (codeAt K (He.ga K "is_entry")) := (S.sig _ (List.mem_of_getElem? (i := 5) rfl))
  have D_is_entry : DefOk P w K mg base 4 "is_entry" ["thing", "modes"] (S_is_entry) := ⟨_, fd_is_entry, ok_is_entry (G := G) (D_is_deed := D_is_deed) (D_is_whole := D_is_whole) (F := F_is_entry), glo "is_entry" (by decide +kernel), F_is_entry.kp, (F_is_entry.bindsN fun _ _ _ _ _ _ us hl => match us, hl with | [_, _], _ => rfl)⟩
  obtain ⟨fd_are_cuts, F_are_cuts, cd_are_cuts⟩ : ∃ fd, FnP K "are_cuts" "are_cuts" (top 38) [] (He.ga K "are_cuts") fd ∧ fd.code = .ref (codeAt K (He.ga K "are_cuts")) := (S.sig _ (List.mem_of_getElem? (i := 6) rfl))
  have D_are_cuts : DefOk P w K mg base 3 "are_cuts" ["thing"] (S_are_cuts) := ⟨_, fd_are_cuts, ok_are_cuts (G := G) (D_is_whole := D_is_whole) (F := F_are_cuts), glo "are_cuts" (by decide +kernel), F_are_cuts.kp, (F_are_cuts.bindsN fun _ _ _ _ _ _ us hl => match us, hl with | [_], _ => rfl)⟩
  obtain ⟨fd_is_mode, F_is_mode, cd_is_mode⟩ : ∃ fd, FnP K "is_mode" "is_mode" (top 39) [] (He.ga K "is_mode") fd ∧ fd.code = .ref (codeAt K (He.ga K "is_mode")) := (S.sig _ (List.mem_of_getElem? (i := 7) rfl))
  have D_is_mode : DefOk P w K mg base 5 "is_mode" ["thing", "modes"] (S_is_mode) := ⟨_, fd_is_mode, ok_is_mode (G := G) (D_are_cuts := D_are_cuts) (D_is_entry := D_is_entry) (F := F_is_mode), glo "is_mode" (by decide +kernel), F_is_mode.kp, (F_is_mode.bindsN fun _ _ _ _ _ _ us hl => match us, hl with | [_, _], _ => rfl)⟩
  obtain ⟨fd_need_rule, F_need_rule, cd_need_rule⟩ : ∃ fd, FnP K "need_rule" "need_rule" (top 40) [] (He.ga K "need_rule") fd ∧ fd.code = .ref (codeAt K (He.ga K "need_rule")) := (S.sig _ (List.mem_of_getElem? (i := 8) rfl))
  have D_need_rule : DefOk P w K mg base 6 "need_rule" ["thing"] (S_need_rule) := ⟨_, fd_need_rule, ok_need_rule (G := G) (D_is_mode := D_is_mode) (F := F_need_rule), glo "need_rule" (by decide +kernel), F_need_rule.kp, (F_need_rule.bindsN fun _ _ _ _ _ _ us hl => match us, hl with | [_], _ => rfl)⟩
  obtain ⟨fd_taken_by, F_taken_by, cd_taken_by⟩ : ∃ fd, FnP K "taken_by" "taken_by" (top 41) [] (He.ga K "taken_by") fd ∧ fd.code = .ref (codeAt K (He.ga K "taken_by")) := (S.sig _ (List.mem_of_getElem? (i := 9) rfl))
  have D_taken_by : DefOk P w K mg base 1 "taken_by" ["deed", "estimate"] (S_taken_by) := ⟨_, fd_taken_by, ok_taken_by (G := G)  (F := F_taken_by), glo "taken_by" (by decide +kernel), F_taken_by.kp, (F_taken_by.bindsN fun _ _ _ _ _ _ us hl => match us, hl with | [_, _], _ => rfl)⟩
  obtain ⟨fd_is_round, F_is_round, cd_is_round⟩ : ∃ fd, FnP K "is_round" "is_round" (top 42) [] (He.ga K "is_round") fd ∧ fd.code = .ref (codeAt K (He.ga K "is_round")) := (S.sig _ (List.mem_of_getElem? (i := 10) rfl))
  have D_is_round : DefOk P w K mg base 3 "is_round" ["world", "missed", "thing"] (S_is_round) := ⟨_, fd_is_round, ok_is_round (G := G) (D_is_whole := D_is_whole) (F := F_is_round), glo "is_round" (by decide +kernel), F_is_round.kp, (F_is_round.bindsN fun _ _ _ _ _ _ us hl => match us, hl with | [_, _, _], _ => rfl)⟩
  obtain ⟨fd_entry_at, F_entry_at, cd_entry_at⟩ : ∃ fd, FnP K "entry_at" "entry_at" (top 43) [] (He.ga K "entry_at") fd ∧ fd.code = .ref (codeAt K (He.ga K "entry_at")) := (S.sig _ (List.mem_of_getElem? (i := 11) rfl))
  have D_entry_at : DefOk P w K mg base 1 "entry_at" ["mode", "estimate"] (S_entry_at) := ⟨_, fd_entry_at, ok_entry_at (G := G)  (F := F_entry_at), glo "entry_at" (by decide +kernel), F_entry_at.kp, (F_entry_at.bindsN fun _ _ _ _ _ _ us hl => match us, hl with | [_, _], _ => rfl)⟩
  obtain ⟨fd_stepped, F_stepped, cd_stepped⟩ : ∃ fd, FnP K "stepped" "stepped" (top 44) [] (He.ga K "stepped") fd ∧ fd.code = .ref (codeAt K (He.ga K "stepped")) := (S.sig _ (List.mem_of_getElem? (i := 12) rfl))
  have D_stepped : DefOk P w K mg base 2 "stepped" ["rule", "stand", "drift", "error"] (S_stepped) := ⟨_, fd_stepped, ok_stepped (G := G) (D_taken_by := D_taken_by) (D_entry_at := D_entry_at) (F := F_stepped), glo "stepped" (by decide +kernel), F_stepped.kp, (F_stepped.bindsN fun _ _ _ _ _ _ us hl => match us, hl with | [_, _, _, _], _ => rfl)⟩
  obtain ⟨fd_gone_through, F_gone_through, cd_gone_through⟩ : ∃ fd, FnP K "gone_through" "gone_through" (top 45) [] (He.ga K "gone_through") fd ∧ fd.code = .ref (codeAt K (He.ga K "gone_through")) := (S.sig _ (List.mem_of_getElem? (i := 13) rfl))
  have D_gone_through : DefOk P w K mg base 4 "gone_through" ["world", "rule", "begin", "rounds"] (S_gone_through) := ⟨_, fd_gone_through, ok_gone_through (G := G) (D_is_round := D_is_round) (D_stepped := D_stepped) (F := F_gone_through), glo "gone_through" (by decide +kernel), F_gone_through.kp, (F_gone_through.bindsN fun _ _ _ _ _ _ us hl => match us, hl with | [_, _, _, _], _ => rfl)⟩
  obtain ⟨fd__law_taken, F__law_taken, cd__law_taken⟩ : ∃ fd, FnP K "_law_taken" "_law_taken" (top 58) [] (He.ga K "_law_taken") fd ∧ fd.code = .ref (codeAt K (He.ga K "_law_taken")) := (S.sig _ (List.mem_of_getElem? (i := 22) rfl))
  have D__law_taken : DefOk P w K mg base 1 "_law_taken" ["_law_deed_here", "_law_estimate"] (S__law_taken) := ⟨_, fd__law_taken, ok__law_taken (G := G)  (F := F__law_taken), glo "_law_taken" (by decide +kernel), F__law_taken.kp, (F__law_taken.bindsN fun _ _ _ _ _ _ us hl => match us, hl with | [_, _], _ => rfl)⟩
  obtain ⟨fd__law_entry, F__law_entry, cd__law_entry⟩ : ∃ fd, FnP K "_law_entry" "_law_entry" (top 59) [] (He.ga K "_law_entry") fd ∧ fd.code = .ref (codeAt K (He.ga K "_law_entry")) := (S.sig _ (List.mem_of_getElem? (i := 23) rfl))
  have D__law_entry : DefOk P w K mg base 1 "_law_entry" ["_law_mode_here", "_law_estimate"] (S__law_entry) := ⟨_, fd__law_entry, ok__law_entry (G := G)  (F := F__law_entry), glo "_law_entry" (by decide +kernel), F__law_entry.kp, (F__law_entry.bindsN fun _ _ _ _ _ _ us hl => match us, hl with | [_, _], _ => rfl)⟩
  obtain ⟨fd__law_done, F__law_done, cd__law_done⟩ : ∃ fd, FnP K "_law_done" "_law_done" (top 60) [] (He.ga K "_law_done") fd ∧ fd.code = .ref (codeAt K (He.ga K "_law_done")) := (S.sig _ (List.mem_of_getElem? (i := 24) rfl))
  have D__law_done : DefOk P w K mg base 2 "_law_done" ["_law_manner", "_law_stand", "_law_one"] (S__law_done) := ⟨_, fd__law_done, ok__law_done (G := G) (D__law_taken := D__law_taken) (D__law_entry := D__law_entry) (F := F__law_done), glo "_law_done" (by decide +kernel), F__law_done.kp, (F__law_done.bindsN fun _ _ _ _ _ _ us hl => match us, hl with | [_, _, _], _ => rfl)⟩
  obtain ⟨fd__law_rounds, F__law_rounds, cd__law_rounds⟩ : ∃ fd, FnP K "_law_rounds" "_law_rounds" (top 61) [] (He.ga K "_law_rounds") fd ∧ fd.code = .ref (codeAt K (He.ga K "_law_rounds")) := (S.sig _ (List.mem_of_getElem? (i := 25) rfl))
  have D__law_rounds : DefOk P w K mg base 1 "_law_rounds" ["_law_world_here", "_law_missed"] (S__law_rounds) := ⟨_, fd__law_rounds, ok__law_rounds (G := G)  (F := F__law_rounds), glo "_law_rounds" (by decide +kernel), F__law_rounds.kp, (F__law_rounds.bindsN fun _ _ _ _ _ _ us hl => match us, hl with | [_, _], _ => rfl)⟩
  obtain ⟨fd__law_walked, F__law_walked, cd__law_walked⟩ : ∃ fd, FnP K "_law_walked" "_law_walked" (top 62) [] (He.ga K "_law_walked") fd ∧ fd.code = .ref (codeAt K (He.ga K "_law_walked")) := (S.sig _ (List.mem_of_getElem? (i := 26) rfl))
  have D__law_walked : DefOk P w K mg base 3 "_law_walked" ["_law_world_here", "_law_manner", "_law_run"] (S__law_walked) := ⟨_, fd__law_walked, ok__law_walked (G := G) (D__law_done := D__law_done) (F := F__law_walked), glo "_law_walked" (by decide +kernel), F__law_walked.kp, (F__law_walked.bindsN fun _ _ _ _ _ _ us hl => match us, hl with | [_, _, _], _ => rfl)⟩
  obtain ⟨fd__law_next, F__law_next, cd__law_next⟩ : ∃ fd, FnP K "_law_next" "_law_next" (top 52) [] (He.ga K "_law_next") fd ∧ fd.code = .ref (codeAt K (He.ga K "_law_next")) := (S.sig _ (List.mem_of_getElem? (i := 16) rfl))
  have D__law_next : DefOk P w K mg base 1 "_law_next" ["_law_draw", "_law_total"] (S__law_next) := ⟨_, fd__law_next, ok__law_next (G := G)  (F := F__law_next), glo "_law_next" (by decide +kernel), F__law_next.kp, (F__law_next.bindsN fun _ _ _ _ _ _ us hl => match us, hl with | [_, _], _ => rfl)⟩
  obtain ⟨fd__law_pick, F__law_pick, cd__law_pick⟩ : ∃ fd, FnP K "_law_pick" "_law_pick" (top 53) [] (He.ga K "_law_pick") fd ∧ fd.code = .ref (codeAt K (He.ga K "_law_pick")) := (S.sig _ (List.mem_of_getElem? (i := 17) rfl))
  have D__law_pick : DefOk P w K mg base 2 "_law_pick" ["_law_draw", "_law_some"] (S__law_pick) := ⟨_, fd__law_pick, ok__law_pick (G := G) (D__law_next := D__law_next) (F := F__law_pick), glo "_law_pick" (by decide +kernel), F__law_pick.kp, (F__law_pick.bindsN fun _ _ _ _ _ _ us hl => match us, hl with | [_, _], _ => rfl)⟩
  obtain ⟨fd__law_deed, F__law_deed, cd__law_deed⟩ : ∃ fd, FnP K "_law_deed" "_law_deed" (top 54) [] (He.ga K "_law_deed") fd ∧ fd.code = .ref (codeAt K (He.ga K "_law_deed")) := (S.sig _ (List.mem_of_getElem? (i := 18) rfl))
  have D__law_deed : DefOk P w K mg base 3 "_law_deed" ["_law_draw", "_law_wide"] (S__law_deed) := ⟨_, fd__law_deed, ok__law_deed (G := G) (D__law_next := D__law_next) (D__law_pick := D__law_pick) (F := F__law_deed), glo "_law_deed" (by decide +kernel), F__law_deed.kp, (F__law_deed.bindsN fun _ _ _ _ _ _ us hl => match us, hl with | [_, _], _ => rfl)⟩
  obtain ⟨fd__law_world, F__law_world, cd__law_world⟩ : ∃ fd, FnP K "_law_world" "_law_world" (top 57) [] (He.ga K "_law_world") fd ∧ fd.code = .ref (codeAt K (He.ga K "_law_world")) := (S.sig _ (List.mem_of_getElem? (i := 21) rfl))
  have D__law_world : DefOk P w K mg base 2 "_law_world" ["_law_draw", "_law_wide"] (S__law_world) := ⟨_, fd__law_world, ok__law_world (G := G) (D__law_next := D__law_next) (F := F__law_world), glo "_law_world" (by decide +kernel), F__law_world.kp, (F__law_world.bindsN fun _ _ _ _ _ _ us hl => match us, hl with | [_, _], _ => rfl)⟩
  obtain ⟨fd__law_row, F__law_row, cd__law_row⟩ : ∃ fd, FnP K "_law_row" "_law_row" (top 66) [] (He.ga K "_law_row") fd ∧ fd.code = .ref (codeAt K (He.ga K "_law_row")) := (S.sig _ (List.mem_of_getElem? (i := 30) rfl))
  have D__law_row : DefOk P w K mg base 3 "_law_row" ["_law_draw", "_law_world_here", "_law_stand", "_law_manner", "_law_total"] (S__law_row) := ⟨_, fd__law_row, ok__law_row (G := G) (D__law_pick := D__law_pick) (D__law_rounds := D__law_rounds) (D__law_done := D__law_done) (F := F__law_row), glo "_law_row" (by decide +kernel), F__law_row.kp, (F__law_row.bindsN fun _ _ _ _ _ _ us hl => match us, hl with | [_, _, _, _, _], _ => rfl)⟩
  obtain ⟨fd__law_mode, F__law_mode, cd__law_mode⟩ : ∃ fd, FnP K "_law_mode" "_law_mode" (top 55) [] (He.ga K "_law_mode") fd ∧ fd.code = .ref (codeAt K (He.ga K "_law_mode")) := (S.sig _ (List.mem_of_getElem? (i := 19) rfl))
  have D__law_mode : DefOk P w K mg base 4 "_law_mode" ["_law_draw", "_law_modes", "_law_wide"] (S__law_mode) := ⟨_, fd__law_mode, ok__law_mode (G := G) (D__law_next := D__law_next) (D__law_pick := D__law_pick) (D__law_deed := D__law_deed) (F := F__law_mode), glo "_law_mode" (by decide +kernel), F__law_mode.kp, (F__law_mode.bindsN fun _ _ _ _ _ _ us hl => match us, hl with | [_, _, _], _ => rfl)⟩
  obtain ⟨fd__law_rule, F__law_rule, cd__law_rule⟩ : ∃ fd, FnP K "_law_rule" "_law_rule" (top 56) [] (He.ga K "_law_rule") fd ∧ fd.code = .ref (codeAt K (He.ga K "_law_rule")) := (S.sig _ (List.mem_of_getElem? (i := 20) rfl))
  have D__law_rule : DefOk P w K mg base 5 "_law_rule" ["_law_draw", "_law_modes", "_law_wide"] (S__law_rule) := ⟨_, fd__law_rule, ok__law_rule (G := G) (D__law_next := D__law_next) (D__law_mode := D__law_mode) (F := F__law_rule), glo "_law_rule" (by decide +kernel), F__law_rule.kp, (F__law_rule.bindsN fun _ _ _ _ _ _ us hl => match us, hl with | [_, _, _], _ => rfl)⟩
  obtain ⟨fd__law_begin, F__law_begin, cd__law_begin⟩ : ∃ fd, FnP K "_law_begin" "_law_begin" (top 51) [] (He.ga K "_law_begin") fd ∧ fd.code = .ref (codeAt K (He.ga K "_law_begin")) := (S.sig _ (List.mem_of_getElem? (i := 15) rfl))
  have D__law_begin : DefOk P w K mg base 1 "_law_begin" ["_law_script"] (S__law_begin K) := ⟨_, fd__law_begin, ok__law_begin (G := G)  (F := F__law_begin), glo "_law_begin" (by decide +kernel), F__law_begin.kp, (F__law_begin.bindsN fun _ _ _ _ _ _ us hl => match us, hl with | [_], _ => rfl)⟩
  obtain ⟨fd_rd, F_rd, _⟩ : ∃ fd, FnP K "__init__" "BadRound.__init__" (meth 8 0) [] (He.ma K (He.ga K "BadRound") "__init__") fd ∧ fd.code = .ref (codeAt K (He.ma K (He.ga K "BadRound") "__init__")) := (S.sig _ (List.mem_of_getElem? (i := 52) rfl))
  have MRd : MkE P w K mg base (caK K .round) "BadRound" "given" "given" "ValueError.__new__" veB := ⟨(exc .rd).1, glo "BadRound" (by decide +kernel), _, fd_rd, ok_e_BadRound___init__ (T := (exc .rd).1) (nf := (exc .rd).2.1) (ES := ES) (F := F_rd), (exc .rd).2.2.1, (exc .rd).2.2.2, (F_rd.bindsN fun _ _ _ _ _ _ us hl => match us, hl with | [_, _], _ => rfl)⟩
  obtain ⟨fd_rn, F_rn, _⟩ : ∃ fd, FnP K "__init__" "BadRun.__init__" (meth 9 0) [] (He.ma K (He.ga K "BadRun") "__init__") fd ∧ fd.code = .ref (codeAt K (He.ma K (He.ga K "BadRun") "__init__")) := (S.sig _ (List.mem_of_getElem? (i := 53) rfl))
  have MRn : MkE P w K mg base (caK K .run) "BadRun" "number" "number" "ValueError.__new__" veB := ⟨(exc .rn).1, glo "BadRun" (by decide +kernel), _, fd_rn, ok_e_BadRun___init__ (T := (exc .rn).1) (nf := (exc .rn).2.1) (ES := ES) (F := F_rn), (exc .rn).2.2.1, (exc .rn).2.2.2, (F_rn.bindsN fun _ _ _ _ _ _ us hl => match us, hl with | [_, _], _ => rfl)⟩
  obtain ⟨fd_nb, F_nb, _⟩ : ∃ fd, FnP K "__init__" "BadNumber.__init__" (meth 14 0) [] (He.ma K (He.ga K "BadNumber") "__init__") fd ∧ fd.code = .ref (codeAt K (He.ma K (He.ga K "BadNumber") "__init__")) := (S.sig _ (List.mem_of_getElem? (i := 54) rfl))
  have MNb : MkE P w K mg base (caK K .number) "BadNumber" "given" "given" "ValueError.__new__" veB := ⟨(exc .nb).1, glo "BadNumber" (by decide +kernel), _, fd_nb, ok_e_BadNumber___init__ (T := (exc .nb).1) (nf := (exc .nb).2.1) (ES := ES) (F := F_nb), (exc .nb).2.2.1, (exc .nb).2.2.2, (F_nb.bindsN fun _ _ _ _ _ _ us hl => match us, hl with | [_, _], _ => rfl)⟩
  obtain ⟨fd_lf, F_lf, _⟩ : ∃ fd, FnP K "__init__" "NothingLeft.__init__" (meth 16 0) [] (He.ma K (He.ga K "NothingLeft") "__init__") fd ∧ fd.code = .ref (codeAt K (He.ma K (He.ga K "NothingLeft") "__init__")) := (S.sig _ (List.mem_of_getElem? (i := 55) rfl))
  have MLf : MkE P w K mg base (caK K .left) "NothingLeft" "many" "many" "RuntimeError.__new__" rtB := ⟨(exc .lf).1, glo "NothingLeft" (by decide +kernel), _, fd_lf, ok_e_NothingLeft___init__ (T := (exc .lf).1) (nf := (exc .lf).2.1) (hRT := hRT) (hRI := hRI) (F := F_lf), (exc .lf).2.2.1, (exc .lf).2.2.2, (F_lf.bindsN fun _ _ _ _ _ _ us hl => match us, hl with | [_, _], _ => rfl)⟩
  obtain ⟨fd_need_many, F_need_many, cd_need_many⟩ : ∃ fd, FnP K "need_many" "need_many" (top 49) [] (He.ga K "need_many") fd ∧ fd.code = .ref (codeAt K (He.ga K "need_many")) := (S.sig _ (List.mem_of_getElem? (i := 14) rfl))
  have D_need_many : DefOk P w K mg base 3 "need_many" ["many", "some"] (S_need_many (caK K .number) (caK K .left)) := ⟨_, fd_need_many, ok_need_many (G := G) (D_is_integer := D_is_integer) (MNb := MNb) (MLf := MLf) (F := F_need_many), glo "need_many" (by decide +kernel), F_need_many.kp, (F_need_many.bindsN fun _ _ _ _ _ _ us hl => match us, hl with | [_, _], _ => rfl)⟩
  obtain ⟨fd_initM, F_initM, _⟩ : ∃ fd, FnP K "__init__" "Pair.__init__" (meth 48 0) [] (He.ma K (He.ga K "Pair") "__init__") fd ∧ fd.code = .ref (codeAt K (He.ma K (He.ga K "Pair") "__init__")) := (S.sig _ (List.mem_of_getElem? (i := 37) rfl))
  obtain ⟨fd_doM, F_doM, _⟩ : ∃ fd, FnP K "do" "Pair.do" (meth 48 6) [] (He.ma K (He.ga K "Pair") "do") fd ∧ fd.code = .ref (codeAt K (He.ma K (He.ga K "Pair") "do")) := (S.sig _ (List.mem_of_getElem? (i := 38) rfl))
  obtain ⟨fd_callM, F_callM, _⟩ : ∃ fd, FnP K "__call__" "Pair.__call__" (meth 48 7) [.non] (He.ma K (He.ga K "Pair") "__call__") fd ∧ fd.code = .ref (codeAt K (He.ma K (He.ga K "Pair") "__call__")) := (S.sig _ (List.mem_of_getElem? (i := 39) rfl))
  obtain ⟨fd_iaddM, F_iaddM, _⟩ : ∃ fd, FnP K "__iadd__" "Pair.__iadd__" (meth 48 8) [] (He.ma K (He.ga K "Pair") "__iadd__") fd ∧ fd.code = .ref (codeAt K (He.ma K (He.ga K "Pair") "__iadd__")) := (S.sig _ (List.mem_of_getElem? (i := 40) rfl))
  obtain ⟨fd_lenM, F_lenM, _⟩ : ∃ fd, FnP K "__len__" "Pair.__len__" (meth 48 9) [] (He.ma K (He.ga K "Pair") "__len__") fd ∧ fd.code = .ref (codeAt K (He.ma K (He.ga K "Pair") "__len__")) := (S.sig _ (List.mem_of_getElem? (i := 41) rfl))
  obtain ⟨fd_containsM, F_containsM, _⟩ : ∃ fd, FnP K "__contains__" "Pair.__contains__" (meth 48 11) [] (He.ma K (He.ga K "Pair") "__contains__") fd ∧ fd.code = .ref (codeAt K (He.ma K (He.ga K "Pair") "__contains__")) := (S.sig _ (List.mem_of_getElem? (i := 42) rfl))
  obtain ⟨fd_eqM, F_eqM, _⟩ : ∃ fd, FnP K "__eq__" "Pair.__eq__" (meth 48 12) [] (He.ma K (He.ga K "Pair") "__eq__") fd ∧ fd.code = .ref (codeAt K (He.ma K (He.ga K "Pair") "__eq__")) := (S.sig _ (List.mem_of_getElem? (i := 43) rfl))
  obtain ⟨fd_undoM, F_undoM, _⟩ : ∃ fd, FnP K "undo" "Pair.undo" (meth 48 13) [.int 1] (He.ma K (He.ga K "Pair") "undo") fd ∧ fd.code = .ref (codeAt K (He.ma K (He.ga K "Pair") "undo")) := (S.sig _ (List.mem_of_getElem? (i := 44) rfl))
  obtain ⟨fd_redoM, F_redoM, _⟩ : ∃ fd, FnP K "redo" "Pair.redo" (meth 48 14) [.int 1] (He.ma K (He.ga K "Pair") "redo") fd ∧ fd.code = .ref (codeAt K (He.ma K (He.ga K "Pair") "redo")) := (S.sig _ (List.mem_of_getElem? (i := 45) rfl))
  obtain ⟨fd_reruledM, F_reruledM, _⟩ : ∃ fd, FnP K "reruled" "Pair.reruled" (meth 48 15) [] (He.ma K (He.ga K "Pair") "reruled") fd ∧ fd.code = .ref (codeAt K (He.ma K (He.ga K "Pair") "reruled")) := (S.sig _ (List.mem_of_getElem? (i := 46) rfl))
  obtain ⟨fd_worldM, F_worldM, _⟩ : ∃ fd, FnP K "world" "Pair.world" (meth 48 1) [] (gtr K "world") fd ∧ fd.code = .ref (codeAt K (gtr K "world")) := (S.sig _ (List.mem_of_getElem? (i := 47) rfl))
  obtain ⟨fd_ruleM, F_ruleM, _⟩ : ∃ fd, FnP K "rule" "Pair.rule" (meth 48 2) [] (gtr K "rule") fd ∧ fd.code = .ref (codeAt K (gtr K "rule")) := (S.sig _ (List.mem_of_getElem? (i := 48) rfl))
  obtain ⟨fd_standM, F_standM, _⟩ : ∃ fd, FnP K "stand" "Pair.stand" (meth 48 3) [] (gtr K "stand") fd ∧ fd.code = .ref (codeAt K (gtr K "stand")) := (S.sig _ (List.mem_of_getElem? (i := 49) rfl))
  obtain ⟨fd_roundsM, F_roundsM, _⟩ : ∃ fd, FnP K "rounds" "Pair.rounds" (meth 48 4) [] (gtr K "rounds") fd ∧ fd.code = .ref (codeAt K (gtr K "rounds")) := (S.sig _ (List.mem_of_getElem? (i := 50) rfl))
  obtain ⟨fd_farthestM, F_farthestM, _⟩ : ∃ fd, FnP K "farthest" "Pair.farthest" (meth 48 5) [] (gtr K "farthest") fd ∧ fd.code = .ref (codeAt K (gtr K "farthest")) := (S.sig _ (List.mem_of_getElem? (i := 51) rfl))
  have Mki : MkOk P w K mg base (He.ga K "Pair") 7 ["self", "world", "rule", "difference"] (S_p___init__ (He.ga K "Pair")) := ⟨_, fd_initM, ok_p___init__ (G := G) (PK := PK) (D_need_world := D_need_world) (D_need_rule := D_need_rule) (D_is_whole := D_is_whole) (F := F_initM), He.mkr_ok fp3, (F_initM.bindsN fun _ _ _ _ _ _ us hl => match us, hl with | [_, _, _, _], _ => rfl)⟩
  have Ddo : MethOk P w K mg base (He.ga K "Pair") 5 "do" ["self", "some"] [] (S_p_do (He.ga K "Pair") (caK K .run)) := ⟨_, fd_doM, ok_p_do (G := G) (PK := PK) (D_gone_through := D_gone_through) (MRn := MRn) (F := F_doM), mth "do" (by decide +kernel), (F_doM.bindsN fun _ _ _ _ _ _ us hl => match us, hl with | [_, _], _ => rfl)⟩
  have okundoM : FnOk P w K mg base (L2.CX P w) 4 (He.ma K (He.ga K "Pair") "undo") fd_undoM ["self", "many"] (sp (S_p_undo (He.ga K "Pair") (caK K .number) (caK K .left))) := ok_p_undo (G := G) (PK := PK) (D_need_many := D_need_many) (MNb := MNb) (MLf := MLf) (F := F_undoM)
  have bfundoM : Binds K fd_undoM ["self", "many"] [] := binds_full F_undoM 2 rfl fun _ _ _ _ _ _ _ us its h1 h2 => match us, its, h1, h2 with | [_, _], [_], _, _ => ⟨_, rfl, rfl⟩
  obtain ⟨ddundoM, rvundoM, bdundoM⟩ := binds_dfl (ps := ["self", "many"]) F_undoM 1 rfl fun _ _ _ _ _ _ _ us its h1 h2 => match us, its, h1, h2 with | [_], [_], _, _ => ⟨_, rfl, rfl⟩
  have okredoM : FnOk P w K mg base (L2.CX P w) 4 (He.ma K (He.ga K "Pair") "redo") fd_redoM ["self", "many"] (sp (S_p_redo (He.ga K "Pair") (caK K .number) (caK K .left))) := ok_p_redo (G := G) (PK := PK) (D_need_many := D_need_many) (MNb := MNb) (MLf := MLf) (F := F_redoM)
  have bfredoM : Binds K fd_redoM ["self", "many"] [] := binds_full F_redoM 2 rfl fun _ _ _ _ _ _ _ us its h1 h2 => match us, its, h1, h2 with | [_, _], [_], _, _ => ⟨_, rfl, rfl⟩
  obtain ⟨ddredoM, rvredoM, bdredoM⟩ := binds_dfl (ps := ["self", "many"]) F_redoM 1 rfl fun _ _ _ _ _ _ _ us its h1 h2 => match us, its, h1, h2 with | [_], [_], _, _ => ⟨_, rfl, rfl⟩
  have kbR : KBinds K fd_redoM ["self", "many"] ["many"] g11 g11 := kb_dfl F_redoM (fun _ _ _ _ _ _ _ us ws its h1 h2 => match us, ws, its, h1, h2 with | [_], [_], [_], _, _ => ⟨_, rfl, rfl⟩) g11_rel
  have okcallM : FnOk P w K mg base (L2.CX P w) 6 (He.ma K (He.ga K "Pair") "__call__") fd_callM ["self", "drift", "error"] (sp (S_p___call__ (He.ga K "Pair") (caK K .round))) := ok_p___call__ (G := G) (PK := PK) (D_is_round := D_is_round) (D_stepped := D_stepped) (MRd := MRd) (Ddo := Ddo) (MRn := MRn) (F := F_callM)
  have bfcallM : Binds K fd_callM ["self", "drift", "error"] [] := binds_full F_callM 3 rfl fun _ _ _ _ _ _ _ us its h1 h2 => match us, its, h1, h2 with | [_, _, _], [_], _, _ => ⟨_, rfl, rfl⟩
  have kbC : KBinds K fd_callM ["self", "drift", "error"] ["error", "drift"] g12 g12 := kb_dfl F_callM (fun _ _ _ _ _ _ _ us ws its h1 h2 => match us, ws, its, h1, h2 with | [_], [_, _], [_], _, _ => ⟨_, rfl, rfl⟩) g12_rel
  have okreruledM : FnOk P w K mg base (L2.CX P w) 9 (He.ma K (He.ga K "Pair") "reruled") fd_reruledM ["self", "rule"] (sp (S_p_reruled (He.ga K "Pair"))) := ok_p_reruled (G := G) (PK := PK) (Ddo := Ddo) (Mki := Mki) (F := F_reruledM)
  have kbU : KBinds K fd_reruledM ["self", "rule"] ["rule"] g11 g11 := kb_all F_reruledM (fun _ _ _ _ _ _ us ws h1 => match us, ws, h1 with | [_], [_], _ => rfl) g11_rel
  have Pf : PF P w K mg base (He.ga K "Pair") (caK K .round) (caK K .run) (caK K .number) (caK K .left) := {
    k := PK, mkP := Mki
    world := ⟨⟨_, _, fd_worldM, ok_p_world (G := G) (PK := PK)  (F := F_worldM), prp "world" (by decide +kernel), (F_worldM.bindsN fun _ _ _ _ _ _ us hl => match us, hl with | [_], _ => rfl)⟩⟩
    rule := ⟨⟨_, _, fd_ruleM, ok_p_rule (G := G) (PK := PK)  (F := F_ruleM), prp "rule" (by decide +kernel), (F_ruleM.bindsN fun _ _ _ _ _ _ us hl => match us, hl with | [_], _ => rfl)⟩⟩
    stand := ⟨⟨_, _, fd_standM, ok_p_stand (G := G) (PK := PK)  (F := F_standM), prp "stand" (by decide +kernel), (F_standM.bindsN fun _ _ _ _ _ _ us hl => match us, hl with | [_], _ => rfl)⟩⟩
    rounds := ⟨⟨_, _, fd_roundsM, ok_p_rounds (G := G) (PK := PK)  (F := F_roundsM), prp "rounds" (by decide +kernel), (F_roundsM.bindsN fun _ _ _ _ _ _ us hl => match us, hl with | [_], _ => rfl)⟩⟩
    farthest := ⟨⟨_, _, fd_farthestM, ok_p_farthest (G := G) (PK := PK)  (F := F_farthestM), prp "farthest" (by decide +kernel), (F_farthestM.bindsN fun _ _ _ _ _ _ us hl => match us, hl with | [_], _ => rfl)⟩⟩
    len := ⟨⟨_, fd_lenM, ok_p___len__ (G := G) (PK := PK)  (F := F_lenM), ⟨(mth "__len__" (by decide +kernel)).at_, (mth "__len__" (by decide +kernel)).fn⟩, (F_lenM.bindsN fun _ _ _ _ _ _ us hl => match us, hl with | [_], _ => rfl)⟩⟩
    has := ⟨⟨_, fd_containsM, ok_p___contains__ (G := G) (PK := PK) (D_is_integer := D_is_integer) (F := F_containsM), ⟨(mth "__contains__" (by decide +kernel)).at_, (mth "__contains__" (by decide +kernel)).fn⟩, (F_containsM.bindsN fun _ _ _ _ _ _ us hl => match us, hl with | [_, _], _ => rfl)⟩⟩
    eq := ⟨⟨_, fd_eqM, ok_p___eq__ (G := G) (PK := PK)  (F := F_eqM), ⟨(mth "__eq__" (by decide +kernel)).at_, (mth "__eq__" (by decide +kernel)).fn⟩, (F_eqM.bindsN fun _ _ _ _ _ _ us hl => match us, hl with | [_, _], _ => rfl)⟩⟩
    add := ⟨⟨_, fd_iaddM, ok_p___iadd__ (G := G) (PK := PK) (MRn := MRn) (Ddo := Ddo) (F := F_iaddM), ⟨(mth "__iadd__" (by decide +kernel)).at_, (mth "__iadd__" (by decide +kernel)).fn⟩, (F_iaddM.bindsN fun _ _ _ _ _ _ us hl => match us, hl with | [_, _], _ => rfl)⟩⟩
    call := ⟨_, fd_callM, okcallM, ⟨(mth "__call__" (by decide +kernel)).at_, (mth "__call__" (by decide +kernel)).fn, fp4⟩, bfcallM, g12, g12, g12, kbC, g12_gv, fun _ _ _ => rfl⟩
    undo := ⟨_, fd_undoM, okundoM, mth "undo" (by decide +kernel), bfundoM⟩
    undo0 := ⟨ddundoM, rvundoM, _, fd_undoM, okundoM, mth "undo" (by decide +kernel), bdundoM⟩
    redo := ⟨_, fd_redoM, okredoM, mth "redo" (by decide +kernel), bfredoM⟩
    redo0 := ⟨ddredoM, rvredoM, _, fd_redoM, okredoM, mth "redo" (by decide +kernel), bdredoM⟩
    redoK := ⟨_, fd_redoM, okredoM, mth "redo" (by decide +kernel), g11, g11, g11, kbR, g11_gv, fun _ _ => rfl⟩
    reruled := ⟨_, fd_reruledM, okreruledM, mth "reruled" (by decide +kernel), (F_reruledM.bindsN fun _ _ _ _ _ _ us hl => match us, hl with | [_, _], _ => rfl)⟩
    reruledK := ⟨_, fd_reruledM, okreruledM, mth "reruled" (by decide +kernel), g11, g11, g11, kbU, g11_gv, fun _ _ => rfl⟩ }
  obtain ⟨fd__law_fault, F__law_fault, cd__law_fault⟩ : ∃ fd, FnP K "_law_fault" "_law_fault" (top 63) [] (He.ga K "_law_fault") fd ∧ fd.code = .ref (codeAt K (He.ga K "_law_fault")) := (S.sig _ (List.mem_of_getElem? (i := 27) rfl))
  have D__law_fault : DefOk P w K mg base 1 "_law_fault" ["_law_fault_so"] (S__law_fault (caK K)) := ⟨_, fd__law_fault, ok__law_fault (G := G) (CA := CA) (F := F__law_fault), glo "_law_fault" (by decide +kernel), F__law_fault.kp, (F__law_fault.bindsN fun _ _ _ _ _ _ us hl => match us, hl with | [_], _ => rfl)⟩
  obtain ⟨fd__law_said, F__law_said, _⟩ : ∃ fd, FnP K "_law_said" "_law_said" (top 64) [] (He.ga K "_law_said") fd ∧ fd.code = .ref (codeAt K (He.ga K "_law_said")) := (S.sig _ (List.mem_of_getElem? (i := 28) rfl))
  have SD : SaidD P w K mg base (caK K) := ⟨D__law_fault, CA, CT, _, fd__law_said, F__law_said, glo "_law_said" (by decide +kernel), F__law_said.kp, (F__law_said.bindsN fun _ _ _ _ _ _ us hl => match us, hl with | [_], _ => rfl)⟩
  obtain ⟨fd__law_added, F__law_added, cd__law_added⟩ : ∃ fd, FnP K "_law_added" "_law_added" (top 67) [] (He.ga K "_law_added") fd ∧ fd.code = .ref (codeAt K (He.ga K "_law_added")) := (S.sig _ (List.mem_of_getElem? (i := 31) rfl))
  have D__law_added : DefOk P w K mg base 7 "_law_added" ["_law_pair", "_law_some"] (S_p___iadd__ (He.ga K "Pair") (caK K .run)) := ⟨_, fd__law_added, ok__law_added (G := G) (Pf := Pf)  (F := F__law_added), glo "_law_added" (by decide +kernel), F__law_added.kp, (F__law_added.bindsN fun _ _ _ _ _ _ us hl => match us, hl with | [_, _], _ => rfl)⟩
  obtain ⟨fd__law_is_so, F__law_is_so, cd__law_is_so⟩ : ∃ fd, FnP K "_law_is_so" "_law_is_so" (top 65) [] (He.ga K "_law_is_so") fd ∧ fd.code = .ref (codeAt K (He.ga K "_law_is_so")) := (S.sig _ (List.mem_of_getElem? (i := 29) rfl))
  have D__law_is_so : DefOkG P w K mg base 12 "_law_is_so" ["_law_pair", "_law_world_here", "_law_manner", "_law_begin_here", "_law_rounds_here"] (S__law_is_so (He.ga K "Pair")) := ⟨_, fd__law_is_so, ok__law_is_so (G := G) (Pf := Pf) (D__law_walked := D__law_walked) (F := F__law_is_so), glo "_law_is_so" (by decide +kernel), F__law_is_so.kp, (F__law_is_so.bindsN fun _ _ _ _ _ _ us hl => match us, hl with | [_, _, _, _, _], _ => rfl)⟩
  obtain ⟨fd__law_done_more, F__law_done_more, cd__law_done_more⟩ : ∃ fd, FnP K "_law_done_more" "_law_done_more" (top 69) [] (He.ga K "_law_done_more") fd ∧ fd.code = .ref (codeAt K (He.ga K "_law_done_more")) := (S.sig _ (List.mem_of_getElem? (i := 33) rfl))
  have D__law_done_more : DefOkG P w K mg base 13 "_law_done_more" ["_law_draw", "_law_pair", "_law_world_here", "_law_manner", "_law_begin_here", "_law_rounds_here"] (S__law_done_more (He.ga K "Pair")) := ⟨_, fd__law_done_more, ok__law_done_more (G := G) (Pf := Pf) (D__law_walked := D__law_walked) (D__law_next := D__law_next) (D__law_pick := D__law_pick) (D__law_rounds := D__law_rounds) (D__law_done := D__law_done) (D__law_row := D__law_row) (F := F__law_done_more), glo "_law_done_more" (by decide +kernel), F__law_done_more.kp, (F__law_done_more.bindsN fun _ _ _ _ _ _ us hl => match us, hl with | [_, _, _, _, _, _], _ => rfl)⟩
  obtain ⟨fd__law_steps_right, F__law_steps_right, cd__law_steps_right⟩ : ∃ fd, FnP K "_law_steps_right" "_law_steps_right" (top 70) [] (He.ga K "_law_steps_right") fd ∧ fd.code = .ref (codeAt K (He.ga K "_law_steps_right")) := (S.sig _ (List.mem_of_getElem? (i := 34) rfl))
  have D__law_steps_right : DefOkG P w K mg base 14 "_law_steps_right" ["_law_draw", "_law_pair", "_law_world_here", "_law_manner", "_law_begin_here"] (S__law_steps_right (He.ga K "Pair")) := ⟨_, fd__law_steps_right, ok__law_steps_right (G := G) (Pf := Pf) (D__law_next := D__law_next) (D__law_done_more := D__law_done_more) (D__law_is_so := D__law_is_so) (F := F__law_steps_right), glo "_law_steps_right" (by decide +kernel), F__law_steps_right.kp, (F__law_steps_right.bindsN fun _ _ _ _ _ _ us hl => match us, hl with | [_, _, _, _, _], _ => rfl)⟩
  obtain ⟨fd__law_refused_right, F__law_refused_right, cd__law_refused_right⟩ : ∃ fd, FnP K "_law_refused_right" "_law_refused_right" (top 68) [] (He.ga K "_law_refused_right") fd ∧ fd.code = .ref (codeAt K (He.ga K "_law_refused_right")) := (S.sig _ (List.mem_of_getElem? (i := 32) rfl))
  have D__law_refused_right : DefOkG P w K mg base 11 "_law_refused_right" ["_law_draw", "_law_pair", "_law_world_here"] (S__law_refused_right (He.ga K "Pair") (tbL K "_law_refused_right")) := ⟨_, fd__law_refused_right, ok__law_refused_right (G := G) (Pf := Pf) (D__law_next := D__law_next) (D__law_pick := D__law_pick) (D__law_added := D__law_added) (SD := SD) (TB := TB "_law_refused_right" (by decide +kernel)) (hcc := cd__law_refused_right) (F := F__law_refused_right), glo "_law_refused_right" (by decide +kernel), F__law_refused_right.kp, (F__law_refused_right.bindsN fun _ _ _ _ _ _ us hl => match us, hl with | [_, _, _], _ => rfl)⟩
  obtain ⟨fd__law_others_right, F__law_others_right, cd__law_others_right⟩ : ∃ fd, FnP K "_law_others_right" "_law_others_right" (top 71) [] (He.ga K "_law_others_right") fd ∧ fd.code = .ref (codeAt K (He.ga K "_law_others_right")) := (S.sig _ (List.mem_of_getElem? (i := 35) rfl))
  have D__law_others_right : DefOkG P w K mg base 13 "_law_others_right" ["_law_draw", "_law_pair", "_law_world_here", "_law_manner", "_law_begin_here", "_law_rounds_here"] (S__law_others_right (He.ga K "Pair") (tbL K "_law_others_right")) := ⟨_, fd__law_others_right, ok__law_others_right (G := G) (Pf := Pf) (D__law_rule := D__law_rule) (D__law_is_so := D__law_is_so) (SD := SD) (TB := TB "_law_others_right" (by decide +kernel)) (hcc := cd__law_others_right) (F := F__law_others_right), glo "_law_others_right" (by decide +kernel), F__law_others_right.kp, (F__law_others_right.bindsN fun _ _ _ _ _ _ us hl => match us, hl with | [_, _, _, _, _, _], _ => rfl)⟩
  obtain ⟨fd_law, F_law, cd_law⟩ : ∃ fd, FnP K "law" "law" (top 72) [] (He.ga K "law") fd ∧ fd.code = .ref (codeAt K (He.ga K "law")) := (S.sig _ (List.mem_of_getElem? (i := 36) rfl))
  exact ⟨fd_law, F_law, ok_law (G := G) (Pf := Pf) (D__law_begin := D__law_begin) (D__law_world := D__law_world) (D__law_rule := D__law_rule) (D__law_next := D__law_next) (D__law_steps_right := D__law_steps_right) (D__law_refused_right := D__law_refused_right) (D__law_others_right := D__law_others_right) (n12 := of_decide_eq_true ft1) (n13 := of_decide_eq_true ft2) (n23 := of_decide_eq_true ft3) (SD := SD) (TB := TB "law" (by decide +kernel)) (hcc := cd_law) (F := F_law)⟩
theorem law_told {P : Program} {w : World} {K : PySem.W.Frag} {h : Heap} {mg : Str → Option Value} {fa : Addr} (kin : K.In h) (G : h.Ns mainGlobals mg) (c : Says h K) (hm : mg ("law" : Str) = some (.ref fa)) :
    ∃ (K : PySem.W.Frag) (fd : FuncData) (cs : List (Addr × Addr)) (S : Sp), K.In h ∧ (∀ p ∈ cs, h.get? p.2 = some { cls := .none, data := .fields #[] }) ∧ (∀ p ∈ cs, K.lookup p.2 = none) ∧ (∀ p ∈ cs, PySem.W.codeHdIn K p.1 p.2 = true) ∧
      (∀ (s : Shared) (u : Value), BindsTo s fd ⟨[u], []⟩ [("_law_script", u)]) ∧ (∀ (H : Hp) (a : Addr) (ns : List Int), ns.length ≤ 63 → (∀ p ∈ cs, H p.2 = some (.tbl #[])) → SqL K H a (ns.map V.int) → S [.ref a] H (fun v _ => v = .bl true) fun _ _ _ => False) ∧
      ∀ base : Heap, K.In base → base.Ns mainGlobals mg → (∀ p ∈ cs, TabB base mg p.1 p.2) → FnOkG P w K mg base (L2.CX P w) 16 fa fd ["_law_script"] S := by
  have fG := (He.ba (He.ba c.fx).1).1
  have e := hm.symm.trans (He.glo_ok kin G (List.all_eq_true.mp fG "law" (by decide +kernel)))
  cases e
  obtain ⟨fd, F, _⟩ : ∃ fd, FnP K "law" "law" (top 72) [] (He.ga K "law") fd ∧ fd.code = .ref (codeAt K (He.ga K "law")) := (c.sig _ (List.mem_of_getElem? (i := 36) rfl))
  have inL : ∀ {p : Addr × Addr}, p ∈ lamD.map (fun x => (cdL K x, tbL K x)) → ∃ x ∈ lamD, (cdL K x, tbL K x) = p := fun hp => List.mem_map.mp hp
  refine ⟨K, fd, lamD.map fun x => (cdL K x, tbL K x), spLaw K (tbL K "_law_refused_right") (tbL K "_law_others_right") (tbL K "law"), kin, fun p hp => ?_, fun p hp => ?_, fun p hp => ?_, fun s u => ?_, fun H a ns hl hT hS => ?_, fun base kB _ tb => ?_⟩
  · obtain ⟨x, hx, rfl⟩ := inL hp
    exact c.empty x hx
  · obtain ⟨x, hx, rfl⟩ := inL hp
    exact c.out x hx
  · obtain ⟨x, hx, rfl⟩ := inL hp
    exact c.hd x hx
  · exact FunD.bindsA (ps := ["_law_script"]) F (fun _ _ _ _ _ _ us hl => match us, hl with | [_], _ => rfl) s [u] rfl
  · have nil : ∀ x ∈ lamD, ∀ q, TabS H (tbL K x) q := fun x hx q => TabS.nil (hT _ (List.mem_map_of_mem (f := fun x => (cdL K x, tbL K x)) hx))
    exact ⟨a, ns, rfl, hS, by omega, nil "_law_refused_right" (by decide +kernel) _, nil "_law_others_right" (by decide +kernel) _, nil "law" (by decide +kernel) _, fun _ => rfl⟩
  · obtain ⟨fd2, F2, ok⟩ := law_all (P := P) (w := w) (base := base) kin G c fun x hx => tb _ (List.mem_map_of_mem (f := fun x => (cdL K x, tbL K x)) hx)
    have ef : fd2 = fd := by
      obtain ⟨oc, od, dV, kV, doc, pm, an, cdv, ct, osl, h1, lk, _⟩ := F.ex
      obtain ⟨oc2, od2, dV2, kV2, doc2, pm2, an2, cdv2, ct2, osl2, h2, lk2, _⟩ := F2.ex
      rw [lk] at lk2
      cases lk2
      rfl
    rw [← ef]
    exact ok
end K2
open PySem PySem.W PySem.Calls PyProof.Rows
theorem PySem.Challenge.cw_setbooks_k20_whole_pairs_run_holds : PySem.Challenge.rw_setbooks_k20_whole_pairs_run.Holds := by
  w_on; o_law
  refine HandSHeadRun.head_any (r := OpenLaw.row PySem.Challenge.rw_setbooks_k20_whole_pairs_run) (q := K2.qvK) (H := K2.hookK) (ob := K2.obT) (M := 15000) (loose := K2.looseK) (d := HandSHeadRun.topDef (OpenLaw.row PySem.Challenge.rw_setbooks_k20_whole_pairs_run).prog 72) (kwd := []) K2.obT_eq
    (by kernel_rfl) (fun s => by kernel_rfl) K2.runK (by kernel_rfl) (by kernel_rfl) (by kernel_rfl) (by rfl) (by first | assumption | decide +kernel) (by decide +kernel) ⟨rfl, rfl, rfl, rfl, rfl, by decide +kernel⟩ ?hw ?hc
  case hw => w_witness2
  case hc =>
    refine K2.walk_guarded (l := PySem.Challenge.rw_setbooks_k20_whole_pairs_run) (n := 63) (k := 16) (x := "_law_script") (CX := fun w => L2.CX (PySem.Challenge.rw_setbooks_k20_whole_pairs_run).prog w) rfl (by decide) (by kernel_rfl) ⟨rfl, by decide, by decide⟩ ?F ?X
    case F =>
      intro w mg fa h Y G hmg0
      obtain ⟨K, kin, c⟩ := Y
      have hmg : mg ("law" : PySem.Str) = some (.ref fa) := by
        have e : (HandSHeadRun.topDef (OpenLaw.row PySem.Challenge.rw_setbooks_k20_whole_pairs_run).prog 72).name = ("law" : PySem.Str) := by kernel_rfl
        rw [← e]
        exact hmg0
      exact K2.law_told kin G c hmg
    case X =>
      rintro w H s e s' ⟨_, _, _, _, _, _, _, _, _, _, _, _, z⟩
      exact z.elim

