import PyProof.Rows.All
import Wide.All
import OpenK.AllK
import Wide.FinOn
import HandS.Head0
import HandS.Head1
import HandS.Head2
import HandS.HeadHook4
import HandS.HeadWalk
import HandS.Words
import HandS.ExcField
import KE.KExcInit
import HandS.ForMost
import HandS.ForExc
import HandS.Walk
import HandS.Codes
import HandS.Conv
import HandS.SortInts
import HandS.Defaults
import HandS.Style
import HandS.Steps
import HandS.Evl
import HandS.ExcCtx
import HandS.Hot
import HandS.HotCalls
import KE.GoesComp
import KE.GoesMore
import HandS.ExcIs
import KE.KTryMore
import HandS.Lambda
import HandS.IsInst
import HandS.EndTab
import HandS.ExcInit
import KE.GoesEnum
import KE.DataMinMax
import KE.KSortKeySt
import HandS.SortKw
import HandS.MakeKwOnly
import KE.GoesZip
import KE.GoesEnumKw
import HandS.Zip
import HandS.TupAny
import HandS.TupMul
import HandS.MakeKw
import KE.KSortTupG
import OpenK.KOps
import HandS.DictSub
import HandS.More
import HandS.WordsDict
import HandS.TupSets
import HandS.SetTxt0
import HandS.ExcOwn
import PyProof.SumWalkG
import HandS.Iter
import HandS.Text
import HandS.Flow
import HandS.Deep
import PySem.Challenge.RW_mingleway_k31_tries_counted
set_option Elab.async false
set_option linter.all false
set_option maxRecDepth 100000
set_option maxHeartbeats 4000000
section
set_option Elab.async false
set_option linter.all false
set_option maxRecDepth 100000
set_option maxHeartbeats 4000000
/-! # UG0: what is read of the state that the top leaves (definitions alone, so that the run's text needs nothing else) -/
namespace Hk
open PySem L2
abbrev Fg := PySem.W.Frag
/-- a def: its place, name, qualified name, statement, defaults (keyword-only ones with names) -/
structure Df where
  f : Addr
  x : Str
  q : Str
  st : Stmt
  dv : List V
  kw : List (Str × V)
def face (fd : FuncData) : He.FnW := some (fd.name, fd.qualname, fd.params, fd.body, fd.scope, fd.globals, fd.closure, fd.builtins)
def Df.due (d : Df) : He.FnW := some (d.x, d.q, defArgs d.st, .stmts (defBody d.st), defScope d.st, mainGlobals, [], builtinsNs)
def fdAt (K : Fg) (a : Addr) : Option FuncData := match K.lookup a with
  | some o => (match o.data with
    | .func fd => some fd
    | _ => none)
  | none => none
def Df.seen (K : Fg) (d : Df) : He.FnW := match fdAt K d.f with
  | some fd => face fd
  | none => none
def Df.fit (K : Fg) (d : Df) : Bool := match fdAt K d.f with
  | some fd => (PySem.W.keepIn K (.ref d.f) && PySem.W.codeIn K fd.code d.q) && (He.dflB K fd.defaults d.dv && He.kwdB K fd.kwdefaults d.kw)
  | none => false
/-- bits asked of K, in rows -/
abbrev Bits := Fg → List (List Bool)
def allB (l : List (List Bool)) : Bool := l.all fun r => r.all fun b => b
def isTab (o : Option Obj) : Bool := match o with
  | some o => He.emptyTab o
  | none => false
def look (L : List Addr) (fn : List Df) (ex : Bits) (ts : List Addr) (g : Addr → Option Obj) : Bool × List He.FnW :=
  (allB (ex (He.frG g L)) && ((fn.all fun d => d.fit (He.frG g L)) && ts.all fun p => isTab (g p)), fn.map fun d => d.seen (He.frG g L))
/-- the code object of a def is at c -/
def codeAt (K : Fg) (f c : Addr) : Bool := match fdAt K f with
  | some fd => (match fd.code with
    | .ref a => a == c
    | _ => false)
  | none => false
def tupB (K : Fg) (a : Addr) (xs : List V) : Bool := match K.lookup a with
  | some o => (match o.data with
    | .seq its _ => decide (o.cls = .type "tuple") && (decide (its.toList.length ≤ 1000) && He.relAll xs its.toList)
    | _ => false)
  | none => false
/-- a dict of the module with int keys -/
def entB (e : DictEntry) (p : Int × V) : Bool := match e.key with
  | .int k _ => decide (k = p.1) && (decide (e.hash = hashInt k) && He.relB p.2 e.val)
  | _ => false
def entsB : List DictEntry → List (Int × V) → Bool
  | [], [] => true
  | e :: es, p :: ps => entB e p && entsB es ps
  | _, _ => false
def dicB (K : Fg) (a : Addr) (ps : List (Int × V)) : Bool := match K.lookup a with
  | some o => (match o.data with
    | .dict es _ => (decide (o.cls = .type "dict") && (o.dict.isNone && o.slots.isEmpty)) && (entsB es.toList ps && decide ((ps.map (·.1)).Nodup))
    | _ => false)
  | none => false
/-- a module's name stands for a value -/
def valB (K : Fg) (x : Str) (v : V) : Bool := match PySem.W.nsIn K mainGlobals x with
  | some (some u) => He.relB v u
  | _ => false
end Hk
end

section
set_option Elab.async false
set_option linter.all false
set_option maxRecDepth 100000
set_option maxHeartbeats 4000000
namespace Lw
open PySem L2
def top (i : Nat) : Stmt := PySem.Challenge.pw_mingleway_k31_tries_counted.main.body.getD i (.Pass ⟨0, 0, 0, 0⟩)
end Lw
namespace Hd
open PySem L2 Lw
def d0 : Hk.Df := ⟨1141, "_law_bag", "_law_bag", (top 77), [], []⟩
def d1 : Hk.Df := ⟨1205, "_law_pull", "_law_pull", (top 87), [], []⟩
def d2 : Hk.Df := ⟨1212, "_law_size", "_law_size", (top 88), [], []⟩
def d3 : Hk.Df := ⟨401, "grown", "grown", (top 33), [], []⟩
def d4 : Hk.Df := ⟨414, "__init__", "Field.__init__", (inClass (top 34) 0), [V.int 16], []⟩
def d5 : Hk.Df := ⟨449, "size", "Field.size", (inClass (top 34) 5), [], []⟩
def d6 : Hk.Df := ⟨868, "__init__", "Net.__init__", (inClass (top 65) 0), [], []⟩
def d7 : Hk.Df := ⟨854, "need_name", "need_name", (top 64), [], []⟩
def d8 : Hk.Df := ⟨889, "need_house", "Net.need_house", (inClass (top 65) 3), [], []⟩
def d9 : Hk.Df := ⟨896, "need_line", "Net.need_line", (inClass (top 65) 4), [], []⟩
def d10 : Hk.Df := ⟨903, "house", "Net.house", (inClass (top 65) 5), [], []⟩
def d11 : Hk.Df := ⟨932, "houses", "Net.houses", (inClass (top 65) 9), [], []⟩
def d12 : Hk.Df := ⟨939, "numbers", "Net.numbers", (inClass (top 65) 10), [], []⟩
def d13 : Hk.Df := ⟨944, "lines", "Net.lines", (inClass (top 65) 11), [], []⟩
def d14 : Hk.Df := ⟨949, "into", "Net.into", (inClass (top 65) 12), [], []⟩
def d15 : Hk.Df := ⟨954, "out_of", "Net.out_of", (inClass (top 65) 13), [], []⟩
def d16 : Hk.Df := ⟨961, "ends", "Net.ends", (inClass (top 65) 14), [], []⟩
def d17 : Hk.Df := ⟨966, "told_order", "Net.told_order", (inClass (top 65) 15), [], []⟩
def d18 : Hk.Df := ⟨971, "ring", "Net.ring", (inClass (top 65) 16), [], []⟩
def d19 : Hk.Df := ⟨978, "order", "Net.order", (inClass (top 65) 17), [], []⟩
def d20 : Hk.Df := ⟨985, "twin", "Net.twin", (inClass (top 65) 18), [], []⟩
def d21 : Hk.Df := ⟨911, "line", "Net.line", (inClass (top 65) 6), [], [("slow", V.int 1), ("number", V.non)]⟩
def d22 : Hk.Df := ⟨999, "need_letters", "need_letters", (top 70), [], []⟩
def d23 : Hk.Df := ⟨1004, "is_loss", "is_loss", (top 71), [], []⟩
def d24 : Hk.Df := ⟨1009, "need_losses", "need_losses", (top 72), [], []⟩
def d25 : Hk.Df := ⟨1023, "__init__", "Task.__init__", (inClass (top 73) 0), [], [("letters", V.int 2), ("losses", V.ref 1017), ("size", V.int 16)]⟩
def d26 : Hk.Df := ⟨1044, "net", "Task.net", (inClass (top 73) 3), [], []⟩
def d27 : Hk.Df := ⟨1079, "field", "Task.field", (inClass (top 73) 8), [], []⟩
def d28 : Hk.Df := ⟨1096, "fed_by", "Task.fed_by", (inClass (top 73) 11), [], []⟩
def d29 : Hk.Df := ⟨1103, "inputs", "Task.inputs", (inClass (top 73) 12), [], []⟩
def d30 : Hk.Df := ⟨1179, "_law_kind", "_law_kind", (top 83), [], []⟩
def d31 : Hk.Df := ⟨1240, "_law_why", "_law_why", (top 92), [], []⟩
def d32 : Hk.Df := ⟨226, "__init__", "Heavy.__init__", (inClass (top 16) 0), [], []⟩
def d33 : Hk.Df := ⟨1233, "_law_whole", "_law_whole", (top 91), [], []⟩
def d34 : Hk.Df := ⟨1129, "_law_alike", "_law_alike", (top 75), [], []⟩
def d35 : Hk.Df := ⟨843, "first_plan", "first_plan", (top 55), [], [("most", V.int 4096)]⟩
def d36 : Hk.Df := ⟨849, "first_copying", "first_copying", (top 56), [], [("most", V.int 4096)]⟩
def d37 : Hk.Df := ⟨798, "need_most", "need_most", (top 47), [], []⟩
def d38 : Hk.Df := ⟨805, "need_light", "need_light", (top 48), [], []⟩
def d39 : Hk.Df := ⟨810, "widths", "widths", (top 49), [], []⟩
def d40 : Hk.Df := ⟨815, "tries", "tries", (top 50), [], []⟩
def d41 : Hk.Df := ⟨822, "copying_tries", "copying_tries", (top 51), [], []⟩
def d42 : Hk.Df := ⟨1184, "_law_names", "_law_names", (top 84), [], []⟩
def d43 : Hk.Df := ⟨1191, "_law_order_drawn", "_law_order_drawn", (top 85), [], []⟩
def d44 : Hk.Df := ⟨1198, "_law_plain_net", "_law_plain_net", (top 86), [], []⟩
def d45 : Hk.Df := ⟨1247, "_law_world", "_law_world", (top 93), [], []⟩
def d46 : Hk.Df := ⟨1167, "_law_gone", "_law_gone", (top 81), [], []⟩
def d47 : Hk.Df := ⟨1134, "_law_ask", "_law_ask", (top 76), [], []⟩
def d48 : Hk.Df := ⟨1160, "_law_fed", "_law_fed", (top 80), [], []⟩
def d49 : Hk.Df := ⟨1174, "_law_inputs", "_law_inputs", (top 82), [], []⟩
def d50 : Hk.Df := ⟨1226, "_law_tries", "_law_tries", (top 90), [], []⟩
def d51 : Hk.Df := ⟨1148, "_law_copying_tries", "_law_copying_tries", (top 78), [], []⟩
def d52 : Hk.Df := ⟨1219, "_law_task", "_law_task", (top 89), [], []⟩
def d53 : Hk.Df := ⟨1155, "_law_far", "_law_far", (top 79), [], []⟩
def d54 : Hk.Df := ⟨1252, "law", "law", (top 94), [], []⟩
def e0 (K : Hk.Fg) : List Bool := [
  decide (PySem.W.nsIn K mainGlobals "_law_bag" = some (some (.ref 1141))),
  decide (PySem.W.nsIn K mainGlobals "_law_pull" = some (some (.ref 1205))),
  decide (PySem.W.nsIn K mainGlobals "_law_size" = some (some (.ref 1212))),
  decide (PySem.W.nsIn K mainGlobals "SIZES" = some (some (.ref 388))),
  Hk.tupB K 388 [V.int 2, V.int 3, V.int 4, V.int 5, V.int 7, V.int 8, V.int 9, V.int 11, V.int 13, V.int 16],
  decide (PySem.W.nsIn K mainGlobals "BASES" = some (some (.ref 389))),
  Hk.tupB K 389 [V.int 2, V.int 3, V.int 5, V.int 7, V.int 11, V.int 13],
  decide (PySem.W.nsIn K mainGlobals "RULES" = some (some (.ref 390))),
  Hk.dicB K 390 [(((4) : Int), V.ref 391), (((8) : Int), V.ref 392), (((9) : Int), V.ref 393), (((16) : Int), V.ref 394)],
  Hk.tupB K 391 [V.int 1, V.int 1],
  Hk.tupB K 392 [V.int 1, V.int 1, V.int 0],
  Hk.tupB K 393 [V.int 2, V.int 0],
  Hk.tupB K 394 [V.int 1, V.int 1, V.int 0, V.int 0],
  decide (PySem.W.nsIn K mainGlobals "grown" = some (some (.ref 401))),
  PySem.W.makesIn K 569,
  decide (PySem.W.findIn K (.ref 569) "__init__" = some (some (.ref 414))),
  PySem.W.isFn K (.ref 414),
  PySem.W.keepIn K (.ref 569),
  decide (PySem.W.nsIn K mainGlobals "Field" = some (some (.ref 569))),
  decide (PySem.W.findIn K (.ref 569) "size" = some (some (.ref 449))),
  PySem.W.isFn K (.ref 449),
  PySem.W.keepIn K (.ref 449),
  Hk.valB K "LETTERS" (.str "abcdefghijklmnopqrstuvwxyz"),
  Hk.valB K "LONGEST" (.int 6),
  Hk.valB K "MOST_HOUSES" (.int 12),
  Hk.valB K "MOST_LINES" (.int 30),
  Hk.valB K "MOST_NUMBER" (.int 99),
  Hk.valB K "MOST_SLOW" (.int 4),
  PySem.W.makesIn K 988,
  decide (PySem.W.findIn K (.ref 988) "__init__" = some (some (.ref 868))),
  PySem.W.isFn K (.ref 868),
  PySem.W.keepIn K (.ref 988),
  decide (PySem.W.nsIn K mainGlobals "Net" = some (some (.ref 988))),
  decide (PySem.W.nsIn K mainGlobals "need_name" = some (some (.ref 854))),
  decide (PySem.W.findIn K (.ref 988) "need_house" = some (some (.ref 889))),
  PySem.W.isFn K (.ref 889),
  PySem.W.keepIn K (.ref 889),
  decide (PySem.W.findIn K (.ref 988) "need_line" = some (some (.ref 896))),
  PySem.W.isFn K (.ref 896),
  PySem.W.keepIn K (.ref 896)]
def e1 (K : Hk.Fg) : List Bool := [
  decide (PySem.W.findIn K (.ref 988) "house" = some (some (.ref 903))),
  PySem.W.isFn K (.ref 903),
  PySem.W.keepIn K (.ref 903),
  decide (PySem.W.findIn K (.ref 988) "houses" = some (some (.ref 932))),
  PySem.W.isFn K (.ref 932),
  PySem.W.keepIn K (.ref 932),
  decide (PySem.W.findIn K (.ref 988) "numbers" = some (some (.ref 939))),
  PySem.W.isFn K (.ref 939),
  PySem.W.keepIn K (.ref 939),
  decide (PySem.W.findIn K (.ref 988) "lines" = some (some (.ref 944))),
  PySem.W.isFn K (.ref 944),
  PySem.W.keepIn K (.ref 944),
  decide (PySem.W.findIn K (.ref 988) "into" = some (some (.ref 949))),
  PySem.W.isFn K (.ref 949),
  PySem.W.keepIn K (.ref 949),
  decide (PySem.W.findIn K (.ref 988) "out_of" = some (some (.ref 954))),
  PySem.W.isFn K (.ref 954),
  PySem.W.keepIn K (.ref 954),
  decide (PySem.W.findIn K (.ref 988) "ends" = some (some (.ref 961))),
  PySem.W.isFn K (.ref 961),
  PySem.W.keepIn K (.ref 961),
  decide (PySem.W.findIn K (.ref 988) "told_order" = some (some (.ref 966))),
  PySem.W.isFn K (.ref 966),
  PySem.W.keepIn K (.ref 966),
  decide (PySem.W.findIn K (.ref 988) "ring" = some (some (.ref 971))),
  PySem.W.isFn K (.ref 971),
  PySem.W.keepIn K (.ref 971),
  decide (PySem.W.findIn K (.ref 988) "order" = some (some (.ref 978))),
  PySem.W.isFn K (.ref 978),
  PySem.W.keepIn K (.ref 978),
  decide (PySem.W.findIn K (.ref 988) "twin" = some (some (.ref 985))),
  PySem.W.isFn K (.ref 985),
  PySem.W.keepIn K (.ref 985),
  decide (PySem.W.findIn K (.ref 988) "line" = some (some (.ref 911))),
  PySem.W.isFn K (.ref 911),
  PySem.W.keepIn K (.ref 911),
  Hk.valB K "MOST_HEARERS" (.int 4),
  Hk.valB K "MOST_LETTERS" (.int 4),
  Hk.valB K "MOST_LOSSES" (.int 3),
  decide (PySem.W.nsIn K mainGlobals "need_letters" = some (some (.ref 999)))]
def e2 (K : Hk.Fg) : List Bool := [
  decide (PySem.W.nsIn K mainGlobals "is_loss" = some (some (.ref 1004))),
  decide (PySem.W.nsIn K mainGlobals "need_losses" = some (some (.ref 1009))),
  PySem.W.makesIn K 1120,
  decide (PySem.W.findIn K (.ref 1120) "__init__" = some (some (.ref 1023))),
  PySem.W.isFn K (.ref 1023),
  PySem.W.keepIn K (.ref 1120),
  decide (PySem.W.nsIn K mainGlobals "Task" = some (some (.ref 1120))),
  decide (PySem.W.findIn K (.ref 1120) "net" = some (some (.ref 1044))),
  PySem.W.isFn K (.ref 1044),
  PySem.W.keepIn K (.ref 1044),
  decide (PySem.W.findIn K (.ref 1120) "field" = some (some (.ref 1079))),
  PySem.W.isFn K (.ref 1079),
  PySem.W.keepIn K (.ref 1079),
  decide (PySem.W.findIn K (.ref 1120) "fed_by" = some (some (.ref 1096))),
  PySem.W.isFn K (.ref 1096),
  PySem.W.keepIn K (.ref 1096),
  decide (PySem.W.findIn K (.ref 1120) "inputs" = some (some (.ref 1103))),
  PySem.W.isFn K (.ref 1103),
  PySem.W.keepIn K (.ref 1103),
  decide (PySem.W.nsIn K mainGlobals "_law_kind" = some (some (.ref 1179))),
  decide (PySem.W.nsIn K mainGlobals "_law_why" = some (some (.ref 1240))),
  PySem.W.excInitIn K 229 [.type "ValueError", .type "Exception", .type "BaseException", .type "object"] "ValueError.__new__",
  PySem.W.excOver K 229 [.type "ValueError", .type "Exception", .type "BaseException", .type "object"],
  PySem.W.hasDictIn K 229,
  decide (PySem.W.findIn K (.ref 229) "__setattr__" = some (some (.builtin "object.__setattr__"))),
  decide (PySem.W.subIn K (.ref 229) (.type "BaseException") = some true),
  decide (PySem.W.typeIn K (.ref 229) = some (.type "type")),
  PySem.W.keepIn K (.ref 229),
  decide (PySem.W.findIn K (.ref 229) "__init__" = some (some (.ref 226))),
  decide (PySem.W.typeIn K (.ref 226) = some (.type "function")),
  decide (PySem.W.findIn K (.ref 229) "tries" = some none),
  decide (PySem.W.nsIn K mainGlobals "Heavy" = some (some (.ref 229))),
  L2.xfB K 273,
  decide (PySem.W.findIn K (.ref 273) "name" = some none),
  decide (PySem.W.exmOne K (.ref 273) (.ref 273) = some true),
  L2.xfB K 292,
  decide (PySem.W.findIn K (.ref 292) "number" = some none),
  decide (PySem.W.exmOne K (.ref 292) (.ref 273) = some false),
  decide (PySem.W.exmOne K (.ref 292) (.ref 292) = some true),
  L2.xfB K 348]
def e3 (K : Hk.Fg) : List Bool := [
  decide (PySem.W.findIn K (.ref 348) "number" = some none),
  decide (PySem.W.exmOne K (.ref 348) (.ref 273) = some false),
  decide (PySem.W.exmOne K (.ref 348) (.ref 292) = some false),
  decide (PySem.W.exmOne K (.ref 348) (.ref 348) = some true),
  L2.xfB K 160,
  decide (PySem.W.findIn K (.ref 160) "row" = some none),
  decide (PySem.W.exmOne K (.ref 160) (.ref 273) = some false),
  decide (PySem.W.exmOne K (.ref 160) (.ref 292) = some false),
  decide (PySem.W.exmOne K (.ref 160) (.ref 348) = some false),
  decide (PySem.W.exmOne K (.ref 160) (.ref 160) = some true),
  L2.xfB K 229,
  decide (PySem.W.exmOne K (.ref 229) (.ref 273) = some false),
  decide (PySem.W.exmOne K (.ref 229) (.ref 292) = some false),
  decide (PySem.W.exmOne K (.ref 229) (.ref 348) = some false),
  decide (PySem.W.exmOne K (.ref 229) (.ref 160) = some false),
  decide (PySem.W.exmOne K (.ref 229) (.ref 229) = some true),
  decide (PySem.W.nsIn K mainGlobals "_law_whole" = some (some (.ref 1233))),
  decide (PySem.W.nsIn K mainGlobals "_law_alike" = some (some (.ref 1129))),
  Hk.valB K "MOST_TRIES" (.int 4096),
  decide (PySem.W.nsIn K mainGlobals "first_plan" = some (some (.ref 843))),
  decide (PySem.W.nsIn K mainGlobals "first_copying" = some (some (.ref 849))),
  decide (PySem.W.nsIn K mainGlobals "need_most" = some (some (.ref 798))),
  decide (PySem.W.nsIn K mainGlobals "need_light" = some (some (.ref 805))),
  decide (PySem.W.nsIn K mainGlobals "widths" = some (some (.ref 810))),
  decide (PySem.W.nsIn K mainGlobals "tries" = some (some (.ref 815))),
  decide (PySem.W.nsIn K mainGlobals "copying_tries" = some (some (.ref 822))),
  decide (PySem.W.nsIn K mainGlobals "_law_names" = some (some (.ref 1184))),
  decide (PySem.W.nsIn K mainGlobals "_law_order_drawn" = some (some (.ref 1191))),
  decide (PySem.W.nsIn K mainGlobals "_law_plain_net" = some (some (.ref 1198))),
  decide (PySem.W.nsIn K mainGlobals "_law_world" = some (some (.ref 1247))),
  decide (PySem.W.nsIn K mainGlobals "_law_gone" = some (some (.ref 1167))),
  decide (PySem.W.nsIn K mainGlobals "_law_ask" = some (some (.ref 1134))),
  decide (PySem.W.nsIn K mainGlobals "_law_fed" = some (some (.ref 1160))),
  decide (PySem.W.nsIn K mainGlobals "_law_inputs" = some (some (.ref 1174))),
  decide (PySem.W.nsIn K mainGlobals "_law_tries" = some (some (.ref 1226))),
  decide (PySem.W.nsIn K mainGlobals "_law_copying_tries" = some (some (.ref 1148))),
  decide (PySem.W.nsIn K mainGlobals "_law_task" = some (some (.ref 1219))),
  decide (PySem.W.nsIn K mainGlobals "_law_far" = some (some (.ref 1155))),
  decide (PySem.W.nsIn K mainGlobals "len" = some none),
  decide (PySem.W.nsIn K mainGlobals "abs" = some none)]
def e4 (K : Hk.Fg) : List Bool := [
  decide (PySem.W.nsIn K mainGlobals "list" = some none),
  decide (PySem.W.nsIn K mainGlobals "int" = some none),
  decide (PySem.W.nsIn K mainGlobals "isinstance" = some none),
  decide (PySem.W.nsIn K mainGlobals "str" = some none),
  decide (PySem.W.nsIn K mainGlobals "BadSize" = some (some (.ref 44))),
  PySem.W.keepIn K (.ref 44),
  PySem.W.excIn K 44 [.type "ValueError", .type "Exception", .type "BaseException", .type "object"] "ValueError.__new__",
  decide (PySem.W.subIn K (.ref 44) (.type "BaseException") = some true),
  decide (PySem.W.typeIn K (.ref 44) = some (.type "type")),
  decide (PySem.W.nsIn K mainGlobals "BadNumber" = some (some (.ref 56))),
  PySem.W.keepIn K (.ref 56),
  PySem.W.excIn K 56 [.type "ValueError", .type "Exception", .type "BaseException", .type "object"] "ValueError.__new__",
  decide (PySem.W.subIn K (.ref 56) (.type "BaseException") = some true),
  decide (PySem.W.typeIn K (.ref 56) = some (.type "type")),
  decide (PySem.W.nsIn K mainGlobals "range" = some none),
  decide (PySem.W.nsIn K mainGlobals "bool" = some none),
  PySem.W.plainGet K 569 Str.empty,
  PySem.W.hasDictIn K 569,
  PySem.W.plainOver K 569,
  decide (PySem.W.findIn K (.ref 569) "__setattr__" = some (some (.builtin "object.__setattr__"))),
  decide (PySem.W.findIn K (.ref 569) "many" = some none),
  decide (PySem.W.findIn K (.ref 569) "prime" = some none),
  decide (PySem.W.findIn K (.ref 569) "places" = some none),
  decide (PySem.W.nsIn K mainGlobals "all" = some none),
  decide (PySem.W.nsIn K mainGlobals "sorted" = some none),
  decide (PySem.W.nsIn K mainGlobals "max" = some none),
  PySem.W.plainGet K 988 Str.empty,
  PySem.W.hasDictIn K 988,
  PySem.W.plainOver K 988,
  decide (PySem.W.findIn K (.ref 988) "__setattr__" = some (some (.builtin "object.__setattr__"))),
  decide (PySem.W.findIn K (.ref 988) "named" = some none),
  decide (PySem.W.findIn K (.ref 988) "roads" = some none),
  decide (PySem.W.nsIn K mainGlobals "min" = some none),
  decide (PySem.W.nsIn K mainGlobals "tuple" = some none),
  decide (PySem.W.nsIn K mainGlobals "dict" = some none),
  decide (PySem.W.nsIn K mainGlobals "sum" = some none),
  decide (PySem.W.nsIn K mainGlobals "set" = some none),
  PySem.W.plainGet K 1120 Str.empty,
  PySem.W.hasDictIn K 1120,
  PySem.W.plainOver K 1120]
def e5 (K : Hk.Fg) : List Bool := [
  decide (PySem.W.findIn K (.ref 1120) "__setattr__" = some (some (.builtin "object.__setattr__"))),
  decide (PySem.W.findIn K (.ref 1120) "rank_of" = some none),
  decide (PySem.W.findIn K (.ref 1120) "field_of" = some none),
  decide (PySem.W.findIn K (.ref 1120) "web" = some none),
  decide (PySem.W.findIn K (.ref 1120) "start" = some none),
  decide (PySem.W.findIn K (.ref 1120) "ears" = some none),
  decide (PySem.W.findIn K (.ref 1120) "many" = some none),
  decide (PySem.W.findIn K (.ref 1120) "gone" = some none),
  decide (PySem.W.nsIn K mainGlobals "BadRow" = some (some (.ref 68))),
  decide (PySem.W.nsIn K mainGlobals "BadName" = some (some (.ref 80))),
  decide (PySem.W.nsIn K mainGlobals "BadLine" = some (some (.ref 92))),
  decide (PySem.W.nsIn K mainGlobals "BadHearers" = some (some (.ref 104))),
  decide (PySem.W.nsIn K mainGlobals "BadLoss" = some (some (.ref 116))),
  decide (PySem.W.nsIn K mainGlobals "BadPlan" = some (some (.ref 128))),
  decide (PySem.W.nsIn K mainGlobals "BadDeed" = some (some (.ref 140))),
  decide (PySem.W.nsIn K mainGlobals "BadText" = some (some (.ref 160))),
  decide (PySem.W.nsIn K mainGlobals "Ringed" = some (some (.ref 179))),
  decide (PySem.W.nsIn K mainGlobals "Short" = some (some (.ref 198))),
  decide (PySem.W.nsIn K mainGlobals "Narrow" = some (some (.ref 210))),
  decide (PySem.W.nsIn K mainGlobals "Unsolved" = some (some (.ref 241))),
  decide (PySem.W.nsIn K mainGlobals "NoHouse" = some (some (.ref 273))),
  decide (PySem.W.nsIn K mainGlobals "NoLine" = some (some (.ref 292))),
  decide (PySem.W.nsIn K mainGlobals "Taken" = some (some (.ref 317))),
  decide (PySem.W.nsIn K mainGlobals "Full" = some (some (.ref 329))),
  decide (PySem.W.nsIn K mainGlobals "InUse" = some (some (.ref 348))),
  decide (PySem.W.nsIn K mainGlobals "Told" = some (some (.ref 360))),
  decide (PySem.W.nsIn K mainGlobals "NothingLeft" = some (some (.ref 372))),
  decide (PySem.W.nsIn K mainGlobals "NoShare" = some (some (.ref 384))),
  decide (PySem.W.nsIn K mainGlobals "MingleError" = some (some (.ref 31))),
  decide (PySem.W.nsIn K mainGlobals "Missing" = some (some (.ref 253))),
  decide (PySem.W.nsIn K mainGlobals "Busy" = some (some (.ref 304))),
  decide (PySem.W.nsIn K mainGlobals "law" = some (some (.ref 1252))),
  decide (PySem.W.findIn K (.ref 44) "__getattribute__" = some (some (.builtin "BaseException.__getattribute__"))),
  decide (PySem.W.findIn K (.ref 44) "__getattr__" = some none),
  PySem.W.hasDictIn K 44,
  decide (PySem.W.findIn K (.ref 44) "__class__" = some (some (.builtin "object.__class__"))),
  decide (PySem.W.specialIn K (.builtin "object.__class__") "__get__" = some (some (.builtin "getset_descriptor.__get__"))),
  decide (PySem.W.takesIn K (.builtin "object.__class__") = some true),
  decide (PySem.W.mroIn K 44 (.type "object") = some true),
  decide (PySem.W.kitOne K (.ref 44) (.ref 44) = some true)]
def e6 (K : Hk.Fg) : List Bool := [
  decide (PySem.W.kitOne K (.ref 44) (.ref 56) = some false),
  decide (PySem.W.kitOne K (.ref 44) (.ref 68) = some false),
  decide (PySem.W.kitOne K (.ref 44) (.ref 80) = some false),
  decide (PySem.W.kitOne K (.ref 44) (.ref 92) = some false),
  decide (PySem.W.kitOne K (.ref 44) (.ref 104) = some false),
  decide (PySem.W.kitOne K (.ref 44) (.ref 116) = some false),
  decide (PySem.W.kitOne K (.ref 44) (.ref 128) = some false),
  decide (PySem.W.kitOne K (.ref 44) (.ref 140) = some false),
  decide (PySem.W.kitOne K (.ref 44) (.ref 160) = some false),
  decide (PySem.W.kitOne K (.ref 44) (.ref 179) = some false),
  decide (PySem.W.kitOne K (.ref 44) (.ref 198) = some false),
  decide (PySem.W.kitOne K (.ref 44) (.ref 210) = some false),
  decide (PySem.W.kitOne K (.ref 44) (.ref 229) = some false),
  decide (PySem.W.kitOne K (.ref 44) (.ref 241) = some false),
  decide (PySem.W.kitOne K (.ref 44) (.ref 273) = some false),
  decide (PySem.W.kitOne K (.ref 44) (.ref 292) = some false),
  decide (PySem.W.kitOne K (.ref 44) (.ref 317) = some false),
  decide (PySem.W.kitOne K (.ref 44) (.ref 329) = some false),
  decide (PySem.W.kitOne K (.ref 44) (.ref 348) = some false),
  decide (PySem.W.kitOne K (.ref 44) (.ref 360) = some false),
  decide (PySem.W.kitOne K (.ref 44) (.ref 372) = some false),
  decide (PySem.W.kitOne K (.ref 44) (.ref 384) = some false),
  decide (PySem.W.exmOne K (.ref 44) (.ref 273) = some false),
  decide (PySem.W.exmOne K (.ref 44) (.ref 292) = some false),
  decide (PySem.W.exmOne K (.ref 44) (.ref 348) = some false),
  decide (PySem.W.exmOne K (.ref 44) (.ref 160) = some false),
  decide (PySem.W.exmOne K (.ref 44) (.ref 229) = some false),
  decide (PySem.W.exmAny K (.ref 44) [.ref 31, .ref 253, .ref 304, .ref 384] = some true),
  decide (PySem.W.findIn K (.ref 56) "__getattribute__" = some (some (.builtin "BaseException.__getattribute__"))),
  decide (PySem.W.findIn K (.ref 56) "__getattr__" = some none),
  PySem.W.hasDictIn K 56,
  decide (PySem.W.findIn K (.ref 56) "__class__" = some (some (.builtin "object.__class__"))),
  decide (PySem.W.mroIn K 56 (.type "object") = some true),
  decide (PySem.W.kitOne K (.ref 56) (.ref 44) = some false),
  decide (PySem.W.kitOne K (.ref 56) (.ref 56) = some true),
  decide (PySem.W.kitOne K (.ref 56) (.ref 68) = some false),
  decide (PySem.W.kitOne K (.ref 56) (.ref 80) = some false),
  decide (PySem.W.kitOne K (.ref 56) (.ref 92) = some false),
  decide (PySem.W.kitOne K (.ref 56) (.ref 104) = some false),
  decide (PySem.W.kitOne K (.ref 56) (.ref 116) = some false)]
def e7 (K : Hk.Fg) : List Bool := [
  decide (PySem.W.kitOne K (.ref 56) (.ref 128) = some false),
  decide (PySem.W.kitOne K (.ref 56) (.ref 140) = some false),
  decide (PySem.W.kitOne K (.ref 56) (.ref 160) = some false),
  decide (PySem.W.kitOne K (.ref 56) (.ref 179) = some false),
  decide (PySem.W.kitOne K (.ref 56) (.ref 198) = some false),
  decide (PySem.W.kitOne K (.ref 56) (.ref 210) = some false),
  decide (PySem.W.kitOne K (.ref 56) (.ref 229) = some false),
  decide (PySem.W.kitOne K (.ref 56) (.ref 241) = some false),
  decide (PySem.W.kitOne K (.ref 56) (.ref 273) = some false),
  decide (PySem.W.kitOne K (.ref 56) (.ref 292) = some false),
  decide (PySem.W.kitOne K (.ref 56) (.ref 317) = some false),
  decide (PySem.W.kitOne K (.ref 56) (.ref 329) = some false),
  decide (PySem.W.kitOne K (.ref 56) (.ref 348) = some false),
  decide (PySem.W.kitOne K (.ref 56) (.ref 360) = some false),
  decide (PySem.W.kitOne K (.ref 56) (.ref 372) = some false),
  decide (PySem.W.kitOne K (.ref 56) (.ref 384) = some false),
  decide (PySem.W.exmOne K (.ref 56) (.ref 273) = some false),
  decide (PySem.W.exmOne K (.ref 56) (.ref 292) = some false),
  decide (PySem.W.exmOne K (.ref 56) (.ref 348) = some false),
  decide (PySem.W.exmOne K (.ref 56) (.ref 160) = some false),
  decide (PySem.W.exmOne K (.ref 56) (.ref 229) = some false),
  decide (PySem.W.exmAny K (.ref 56) [.ref 31, .ref 253, .ref 304, .ref 384] = some true),
  (K.lookup 1249).isNone,
  PySem.W.codeHdIn K 1251 1249,
  Hk.codeAt K 1252 1251]
def l0 : List Addr := [2, 3, 15, 17, 18, 20, 21, 22, 29, 30, 31, 32, 35, 42, 43, 44, 47, 54, 55, 56, 59, 66, 67, 68, 71, 78, 79, 80, 83, 90, 91, 92, 95, 102, 103, 104, 107, 114, 115, 116]
def l1 : List Addr := [119, 126, 127, 128, 131, 138, 139, 140, 143, 150, 151, 153, 154, 156, 157, 158, 159, 160, 163, 170, 172, 173, 175, 176, 177, 178, 179, 182, 189, 191, 192, 194, 195, 196, 197, 198, 201, 208, 209, 210]
def l2 : List Addr := [213, 220, 222, 223, 225, 226, 227, 228, 229, 232, 239, 240, 241, 244, 251, 252, 253, 254, 257, 264, 266, 267, 269, 270, 271, 272, 273, 276, 283, 285, 286, 288, 289, 290, 291, 292, 295, 302, 303, 304]
def l3 : List Addr := [305, 308, 315, 316, 317, 320, 327, 328, 329, 332, 339, 341, 342, 344, 345, 346, 347, 348, 351, 358, 359, 360, 363, 370, 371, 372, 375, 382, 383, 384, 385, 388, 389, 390, 391, 392, 393, 394, 395, 397]
def l4 : List Addr := [398, 400, 401, 409, 410, 413, 414, 415, 417, 418, 420, 421, 422, 424, 425, 427, 428, 429, 431, 432, 434, 435, 436, 438, 439, 441, 442, 443, 445, 446, 448, 449, 450, 452, 453, 455, 456, 457, 459, 460]
def l5 : List Addr := [462, 463, 464, 466, 467, 469, 470, 471, 473, 474, 476, 477, 478, 480, 481, 483, 484, 485, 488, 489, 490, 492, 493, 495, 496, 497, 499, 500, 502, 503, 504, 506, 507, 509, 510, 511, 513, 514, 516, 517]
def l6 : List Addr := [518, 521, 522, 523, 525, 526, 528, 529, 530, 532, 533, 535, 536, 537, 540, 541, 542, 545, 546, 547, 548, 551, 552, 553, 555, 556, 558, 559, 560, 562, 563, 565, 566, 567, 568, 569, 570, 571, 574, 577]
def l7 : List Addr := [578, 586, 587, 588, 590, 591, 593, 594, 595, 597, 598, 600, 601, 602, 604, 605, 607, 608, 609, 611, 612, 614, 615, 616, 618, 619, 621, 622, 623, 625, 626, 628, 629, 630, 632, 633, 635, 636, 637, 639]
def l8 : List Addr := [640, 642, 643, 644, 647, 648, 649, 651, 652, 654, 655, 656, 658, 659, 661, 662, 663, 664, 665, 666, 667, 670, 672, 673, 675, 676, 677, 679, 680, 682, 683, 684, 686, 687, 689, 690, 691, 694, 695, 703]
def l9 : List Addr := [706, 707, 708, 710, 711, 713, 714, 715, 717, 718, 720, 721, 722, 724, 725, 727, 728, 729, 732, 733, 734, 735, 736, 738, 739, 741, 742, 743, 746, 747, 748, 749, 750, 752, 753, 755, 756, 757, 760, 761]
def l10 : List Addr := [762, 764, 765, 767, 768, 769, 770, 771, 773, 774, 776, 777, 778, 779, 780, 783, 784, 785, 786, 787, 788, 789, 792, 794, 795, 797, 798, 799, 801, 802, 804, 805, 806, 809, 810, 811, 814, 815, 816, 818]
def l11 : List Addr := [819, 821, 822, 823, 826, 827, 828, 831, 832, 833, 836, 837, 838, 839, 842, 843, 844, 845, 848, 849, 850, 853, 854, 862, 864, 865, 867, 868, 869, 871, 872, 874, 875, 876, 878, 879, 881, 882, 883, 885]
def l12 : List Addr := [886, 888, 889, 890, 892, 893, 895, 896, 897, 899, 900, 902, 903, 904, 905, 907, 908, 910, 911, 912, 914, 915, 917, 918, 919, 921, 922, 924, 925, 926, 928, 929, 931, 932, 933, 935, 936, 938, 939, 940]
def l13 : List Addr := [943, 944, 945, 948, 949, 950, 953, 954, 955, 957, 958, 960, 961, 962, 965, 966, 967, 970, 971, 972, 974, 975, 977, 978, 979, 981, 982, 984, 985, 986, 987, 988, 989, 990, 993, 995, 996, 998, 999, 1000]
def l14 : List Addr := [1003, 1004, 1005, 1008, 1009, 1017, 1018, 1019, 1022, 1023, 1024, 1026, 1027, 1029, 1030, 1031, 1033, 1034, 1036, 1037, 1038, 1040, 1041, 1043, 1044, 1045, 1047, 1048, 1050, 1051, 1052, 1054, 1055, 1057, 1058, 1059, 1061, 1062, 1064, 1065]
def l15 : List Addr := [1066, 1068, 1069, 1071, 1072, 1073, 1075, 1076, 1078, 1079, 1080, 1083, 1084, 1085, 1088, 1089, 1090, 1092, 1093, 1095, 1096, 1097, 1099, 1100, 1102, 1103, 1104, 1106, 1107, 1109, 1110, 1111, 1113, 1114, 1116, 1117, 1118, 1119, 1120, 1121]
def l16 : List Addr := [1122, 1125, 1128, 1129, 1130, 1133, 1134, 1135, 1137, 1138, 1140, 1141, 1142, 1144, 1145, 1147, 1148, 1149, 1151, 1152, 1154, 1155, 1156, 1159, 1160, 1161, 1163, 1164, 1166, 1167, 1168, 1170, 1171, 1173, 1174, 1175, 1178, 1179, 1180, 1183]
def l17 : List Addr := [1184, 1185, 1187, 1188, 1190, 1191, 1192, 1194, 1195, 1197, 1198, 1199, 1201, 1202, 1204, 1205, 1206, 1208, 1209, 1211, 1212, 1213, 1215, 1216, 1218, 1219, 1220, 1222, 1223, 1225, 1226, 1227, 1229, 1230, 1232, 1233, 1234, 1236, 1237, 1239]
def l18 : List Addr := [1240, 1241, 1243, 1244, 1246, 1247, 1248, 1251, 1252]
def LL : List Addr := l0 ++ l1 ++ l2 ++ l3 ++ l4 ++ l5 ++ l6 ++ l7 ++ l8 ++ l9 ++ l10 ++ l11 ++ l12 ++ l13 ++ l14 ++ l15 ++ l16 ++ l17 ++ l18
def n0 : List PySem.Str := ["_wall", "MingleError", "BadSize", "BadNumber", "BadRow", "BadName", "BadLine", "BadHearers", "BadLoss", "BadPlan", "BadDeed", "BadText", "Ringed", "Short", "Narrow", "Heavy", "Unsolved", "Missing", "NoHouse", "NoLine", "Busy", "Taken", "Full", "InUse", "Told", "NothingLeft", "NoShare", "SIZES", "COMMON_SIZE", "BASES"]
def n1 : List PySem.Str := ["RULES", "grown", "Field", "first_place", "Span", "need_lost", "need_words", "unit", "run_through", "Plan", "MOST_TRIES", "need_most", "need_light", "widths", "tries", "copying_tries", "all_rows", "copies", "first_of", "first_plan", "first_copying", "LETTERS", "LONGEST", "MOST_HOUSES", "MOST_LINES", "MOST_NUMBER", "MOST_SLOW", "need_name", "Net", "MOST_HEARERS"]
def n2 : List PySem.Str := ["MOST_LETTERS", "MOST_LOSSES", "need_letters", "is_loss", "need_losses", "Task", "_law_alike", "_law_ask", "_law_bag", "_law_copying_tries", "_law_far", "_law_fed", "_law_gone", "_law_inputs", "_law_kind", "_law_names", "_law_order_drawn", "_law_plain_net", "_law_pull", "_law_size", "_law_task", "_law_tries", "_law_whole", "_law_why", "_law_world"]
def nms : List PySem.Str := n0 ++ n1 ++ n2
abbrev R : PySem.W.OpenRow := PySem.W.OpenLaw.row PySem.Challenge.rw_mingleway_k31_tries_counted
abbrev view : Program := PySem.W.view R.prog [94]
/-- the end of the top -/
noncomputable abbrev endA (w : World) (os : OsState) := HandSHeadRun.endF (HandSHeadRun.stepQ (HandSHeadRun.denQ HandSHeadRun.tabQ) R.prog w) 60000 R.prog w os
noncomputable abbrev bare (w : World) (s : PySem.W.SharedT) := (HandSHeadRun.looksF R.prog (PySem.W.boot_heap w.params) s.abs, HandSHeadRun.seenQ view nms (PySem.importedModules R.prog.main.body) (fun s => PySem.W.xlAt view [] s && PySem.W.recOk R.toRowW.records s) s.abs)
def ex0 : Hk.Bits := fun K => [e0 K, e1 K, e2 K, e3 K]
def fn0 : List Hk.Df := []
def ex1 : Hk.Bits := fun K => [e4 K, e5 K, e6 K, e7 K]
def fn1 : List Hk.Df := [d0, d1, d2, d3, d4, d5, d6, d7, d8, d9, d10, d11, d12, d13, d14, d15, d16, d17, d18, d19, d20, d21, d22, d23, d24, d25, d26, d27, d28, d29, d30, d31, d32, d33, d34, d35, d36, d37, d38, d39, d40, d41, d42, d43, d44, d45, d46, d47, d48, d49, d50, d51, d52, d53, d54]
theorem run0_0 (w : World) : ∀ os : OsState, (endA (w.withFollow "special-get-raises" false) os).map (fun s => (bare (w.withFollow "special-get-raises" false) s, Hk.look LL fn0 ex0 [1249] (HandSHeadRun.getT s))) = some ((true, PySem.W.openGood view nms), (true, fn0.map Hk.Df.due)) := by
  intro os
  kernel_rfl
theorem run0_1 (w : World) : ∀ os : OsState, (endA (w.withFollow "special-get-raises" false) os).map (fun s => Hk.look LL fn1 ex1 [1249] (HandSHeadRun.getT s)) = some (true, fn1.map Hk.Df.due) := by
  intro os
  kernel_rfl
theorem run1_0 (w : World) : ∀ os : OsState, (endA (w.withFollow "special-get-raises" true) os).map (fun s => (bare (w.withFollow "special-get-raises" true) s, Hk.look LL fn0 ex0 [1249] (HandSHeadRun.getT s))) = some ((true, PySem.W.openGood view nms), (true, fn0.map Hk.Df.due)) := by
  intro os
  kernel_rfl
theorem run1_1 (w : World) : ∀ os : OsState, (endA (w.withFollow "special-get-raises" true) os).map (fun s => Hk.look LL fn1 ex1 [1249] (HandSHeadRun.getT s)) = some (true, fn1.map Hk.Df.due) := by
  intro os
  kernel_rfl
end Hd
end

section
set_option Elab.async false
set_option linter.all false
set_option maxRecDepth 100000
set_option maxHeartbeats 4000000
/-! # U: own layer over the hand layer: readings by introduction, heaps as they grow -/
namespace U
open PySem L2
/-! ### named readings -/
def rMul : R2 := rI CMul fun i j => .int (i * j)
def rMod : R2 := rI (fun _ j => 0 < j) fun i j => .int (i % j)
def rFdiv : R2 := rI CDiv fun i j => .int (i / j)
def rPow : R2 := rI CPow fun i j => .int (i ^ j.toNat)
def rIAdd : R2 := rI0 fun i j => .int (i + j)
def rISub : R2 := rI0 fun i j => .int (i - j)
def rLt : R2 := rI0 fun i j => .bl (decide (i < j))
def rLe : R2 := rI0 fun i j => .bl (decide (i ≤ j))
def rAbs : List V → Hp → VK → Prop := fun xs H Q => ∃ i, xs = [.int i] ∧ Q (.int (if i < 0 then -i else i)) H
def rListOf (K : PySem.W.Frag) : List V → Hp → VK → Prop := fun xs H Q => ∃ p ys, xs = [.ref p] ∧ (SqL K H p ys ∨ SqT K H p ys) ∧ ∀ q, H q = none → Q (.ref q) (upd H q (.lst ys))
def rIntB : List V → Hp → VK → Prop := fun xs H Q => ∃ b, xs = [.bl b] ∧ Q (.int (if b then 1 else 0)) H
def rDivmod : List V → Hp → VK → Prop := fun xs H Q => ∃ i j, xs = [.int i, .int j] ∧ CDiv i j ∧ ∀ p, H p = none → Q (.ref p) (upd H p (.tup [.int (i / j), .int (i % j)]))
section
variable {X : Cx}
theorem u_mul : OpR X (binaryOp .Mult) rMul := op_mul
theorem u_mod : OpR X (binaryOp .Mod) rMod := op_mod
theorem u_fdiv : OpR X (binaryOp .FloorDiv) rFdiv := op_fdiv
theorem u_pow : OpR X (binaryOp .Pow) rPow := op_pow
theorem u_add : OpR X (binaryOp .Add) rIAdd := op_add
theorem u_sub : OpR X (binaryOp .Sub) rISub := op_sub
theorem u_lt : OpR X (compareOp .Lt) rLt := op_lt
theorem u_le : OpR X (compareOp .LtE) rLe := op_le
theorem u_gt : OpR X (compareOp .Gt) rGt := op_gt
theorem u_ge : OpR X (compareOp .GtE) rGe := op_ge
theorem u_abs : CallR X (.builtin "abs") rAbs := call_abs
theorem u_len : CallR X (.builtin "len") (Evl.rLenS X.K) := call_len_seq
theorem u_divmod : CallR X (.builtin "divmod") rDivmod := call_divmod
end
/-! ### introduction: one lemma a reading -/
section
variable {σ : St} {H : Hp} {Q : VK} {ta tb tc : TE} {v x y : V} {K : PySem.W.Frag} {D : Ends} {t u : TS}
theorem i_var {i : Nat} (h : σ[i]? = some (some v)) (q : Q v H) : tVar i σ H Q := ⟨v, h, q⟩
theorem i_c (q : Q v H) : tC v σ H Q := q
theorem i_op {r : R2} (q : ta σ H fun x H1 => tb σ H1 fun y H2 => r x y H2 Q) : tOp r ta tb σ H Q := q
theorem i_un {r : V → Hp → VK → Prop} (q : ta σ H fun x H1 => r x H1 Q) : tUn r ta σ H Q := q
theorem i_rU {g : Int → V} {i : Int} (q : Q (g i) H) : rU g (.int i) H Q := ⟨i, rfl, q⟩
theorem i_mul {i j : Int} (c : CMul i j) (q : Q (.int (i * j)) H) : rMul (.int i) (.int j) H Q := ⟨i, j, rfl, rfl, c, q⟩
theorem i_mod {i j : Int} (c : 0 < j) (q : Q (.int (i % j)) H) : rMod (.int i) (.int j) H Q := ⟨i, j, rfl, rfl, c, q⟩
theorem i_fdiv {i j : Int} (c : CDiv i j) (q : Q (.int (i / j)) H) : rFdiv (.int i) (.int j) H Q := ⟨i, j, rfl, rfl, c, q⟩
theorem i_pow {i j : Int} (c : CPow i j) (q : Q (.int (i ^ j.toNat)) H) : rPow (.int i) (.int j) H Q := ⟨i, j, rfl, rfl, c, q⟩
theorem i_add {i j : Int} (q : Q (.int (i + j)) H) : rIAdd (.int i) (.int j) H Q := ⟨i, j, rfl, rfl, q⟩
theorem i_sub {i j : Int} (q : Q (.int (i - j)) H) : rISub (.int i) (.int j) H Q := ⟨i, j, rfl, rfl, q⟩
theorem i_lt {i j : Int} (q : Q (.bl (decide (i < j))) H) : rLt (.int i) (.int j) H Q := ⟨i, j, rfl, rfl, q⟩
theorem i_le {i j : Int} (q : Q (.bl (decide (i ≤ j))) H) : rLe (.int i) (.int j) H Q := ⟨i, j, rfl, rfl, q⟩
theorem i_gt {i j : Int} (q : Q (.bl (decide (j < i))) H) : rGt (.int i) (.int j) H Q := ⟨i, j, rfl, rfl, q⟩
theorem i_ge {i j : Int} (q : Q (.bl (decide (j ≤ i))) H) : rGe (.int i) (.int j) H Q := ⟨i, j, rfl, rfl, q⟩
theorem dInt {i j : Int} : decide (V.int i = V.int j) = decide (i = j) := by
  by_cases h : i = j
  · rw [decide_eq_true h, decide_eq_true (by rw [h])]
  · rw [decide_eq_false h, decide_eq_false (fun q => h (V.int.inj q))]
theorem i_eqI {i j : Int} (q : Q (.bl (decide (i = j))) H) : rEq (.int i) (.int j) H Q := ⟨rfl, by rw [dInt]; exact q⟩
theorem i_neI {i j : Int} (q : Q (.bl (!decide (i = j))) H) : rNe (.int i) (.int j) H Q := ⟨rfl, by rw [dInt]; exact q⟩
theorem i_test (q : ta σ H fun x H' => ∃ k, x = .bl k ∧ R k H') : tTest ta σ H R := q
theorem i_tB (q : ta σ H fun x H' => ∃ k, x = .bl k ∧ R k H') : tB ta σ H R := q
theorem i_bl {k : Bool} {R : Bool → Prop} (q : R k) : ∃ k', V.bl k = .bl k' ∧ R k' := ⟨k, rfl, q⟩
theorem i_not {a : TT} {R : Bool → Hp → Prop} (q : a σ H fun c H1 => R (!c) H1) : tNot a σ H R := q
theorem i_nil {R : List V → Hp → Prop} (q : R [] H) : tNil σ H R := q
theorem i_cons {ts : TA} {R : List V → Hp → Prop} (q : ta σ H fun x H1 => ts σ H1 fun xs H2 => R (x :: xs) H2) : tCons ta ts σ H R := q
theorem i_cb {r : List V → Hp → VK → Prop} {ts : TA} (q : ts σ H fun vs H1 => r vs H1 Q) : tCB r ts σ H Q := q
theorem i_call {sp : Sp} {dvs : List V} {E : XK} {ts : TA} (q : ts σ H fun vs H1 => sp (vs ++ dvs) H1 Q E) : tCall sp dvs E ts σ H Q := q
theorem i_abs {i : Int} (q : Q (.int (if i < 0 then -i else i)) H) : rAbs [.int i] H Q := ⟨i, rfl, q⟩
theorem i_lenL {p : Addr} {ys : List V} (h : SqL K H p ys) (q : Q (.int ys.length) H) : Evl.rLenS K [.ref p] H Q := ⟨p, ys, rfl, .inl h, q⟩
theorem i_lenT {p : Addr} {ys : List V} (h : SqT K H p ys) (q : Q (.int ys.length) H) : Evl.rLenS K [.ref p] H Q := ⟨p, ys, rfl, .inr h, q⟩
theorem i_ixL {p : Addr} {xs : List V} {i : Int} (h : SqL K H p xs) (e : atI xs i = some v) (q : Q v H) : rIxL K (.ref p) (.int i) H Q := ⟨p, xs, i, v, rfl, rfl, h, e, q⟩
theorem i_ixT {p : Addr} {xs : List V} {i : Int} (h : SqT K H p xs) (e : atI xs i = some v) (q : Q v H) : rIxT K (.ref p) (.int i) H Q := ⟨p, xs, i, v, rfl, rfl, h, e, q⟩
theorem i_setL {p : Addr} {xs : List V} {i : Int} {j : Nat} {R : Hp → Prop} (h : H p = some (.lst xs)) (e : ixN xs.length i = some j) (q : R (upd H p (.lst (xs.set j v)))) : rSetL (.ref p) (.int i) v H R := ⟨p, xs, i, j, rfl, rfl, h, e, q⟩
theorem i_divmod {i j : Int} (c : CDiv i j) (q : ∀ p, H p = none → Q (.ref p) (upd H p (.tup [.int (i / j), .int (i % j)]))) : rDivmod [.int i, .int j] H Q := ⟨i, j, rfl, c, q⟩
theorem i_ifE {c : TT} (q : c σ H fun b H1 => if b = true then ta σ H1 Q else tb σ H1 Q) : tIf c ta tb σ H Q := q
/-- one way behind a fork: what follows is shown once, for all values that come -/
theorem i_cut {te : TE} (P : V → Prop) (rest : ∀ x, P x → Q x H) (q : (∀ x, P x → Q x H) → te σ H Q) : te σ H Q := q rest
/-! statements -/
theorem i_seq (q : t { D with nx := u D } σ H) : tSeq t u D σ H := q
theorem i_next (q : D.nx σ H) : tNext D σ H := q
theorem i_ret (q : ta σ H D.rt) : tRet ta D σ H := q
theorem i_drop (q : ta σ H fun _ H1 => D.nx σ H1) : tDrop ta D σ H := q
theorem i_asg {g : TG} (q : ta σ H fun x H1 => g x σ H1 D.nx) : tAsg ta g D σ H := q
theorem i_name {i : Nat} {R : St → Hp → Prop} (q : R (σ.set i (some v)) H) : gName i v σ H R := q
theorem i_gsub {r : TSet} {R : St → Hp → Prop} (q : ta σ H fun o H1 => tb σ H1 fun i H2 => r o i v H2 fun H3 => R σ H3) : gSub ta tb r v σ H R := q
theorem i_ifS {c : TT} (q : c σ H fun b H1 => if b = true then t D σ H1 else u D σ H1) : tIfS c t u D σ H := q
theorem ited {p A B : Prop} {_ : Decidable p} (h1 : p → A) (h2 : ¬ p → B) : if decide p = true then A else B := by
  by_cases h : p
  · rw [if_pos (decide_eq_true h)]; exact h1 h
  · rw [if_neg (by rw [decide_eq_false h]; exact Bool.false_ne_true)]; exact h2 h
theorem itedn {p A B : Prop} {_ : Decidable p} (h1 : ¬ p → A) (h2 : p → B) : if (!decide p) = true then A else B := by
  by_cases h : p
  · rw [if_neg (by rw [decide_eq_true h]; exact Bool.false_ne_true)]; exact h2 h
  · rw [if_pos (by rw [decide_eq_false h]; rfl)]; exact h1 h
theorem iteTd {p A B : Prop} {_ : Decidable p} (h : p) (q : A) : if decide p = true then A else B := by rw [if_pos (decide_eq_true h)]; exact q
theorem iteFd {p A B : Prop} {_ : Decidable p} (h : ¬ p) (q : B) : if decide p = true then A else B := by
  rw [if_neg (by rw [decide_eq_false h]; exact Bool.false_ne_true)]; exact q
end
theorem upd_same' {H : Hp} {p : Addr} {o : HO} : upd H p o p = some o := upd_same
theorem upd_ne'' {H : Hp} {a p : Addr} {o u : HO} (n : a ≠ p) (h : H a = some u) : upd H p o a = some u := (upd_ne n).trans h
/-- all but what stands at a is as it was -/
def But (a : Addr) (H H' : Hp) : Prop := ∀ b o, H b = some o → b ≠ a → H' b = some o
theorem But.of {a : Addr} {H : Hp} {o : HO} : But a H (upd H a o) := fun b u e n => (upd_ne n).trans e
theorem But.up {a : Addr} {H H' : Hp} {o : HO} (k : But a H H') : But a H (upd H' a o) := fun b u e n => (upd_ne n).trans (k b u e n)
theorem atI_of {xs : List V} {i : Int} {j : Nat} {v : V} (e : i = (j : Int)) (h : xs[j]? = some v) : atI xs i = some v := by rw [e]; exact atI_nat h
theorem atI_ints {ns : List Int} {i : Int} (h0 : 0 ≤ i) (h1 : i < (ns.length : Int)) : ∃ z, atI (ns.map V.int) i = some (V.int z) ∧ ns[i.toNat]? = some z := by
  have hl : i.toNat < ns.length := by omega
  refine ⟨ns[i.toNat], ?_, by simp [hl]⟩
  refine atI_of (j := i.toNat) (by omega) ?_
  rw [List.getElem?_map]
  simp [hl]
/-! ### heaps that grow: new things laid, what stood stands -/
section
variable {H H' : Hp} {p : Addr} {o : HO}
theorem same_new (h : H p = none) : Same H (upd H p o) := fun b u e => by rw [upd_ne (ne_of_none e h)]; exact e
/-- something new is laid: go on with a heap that is only known to hold it -/
theorem lay {A' : Addr → Hp → Prop} (q : ∀ p H', H p = none → Same H H' → H' p = some o → A' p H') : ∀ p, H p = none → A' p (upd H p o) := fun p h => q p _ h (same_new h) upd_same
end
end U
end

section
set_option Elab.async false
set_option linter.all false
set_option maxRecDepth 100000
set_option maxHeartbeats 4000000
/-! # U, second part: defs, methods and makers as one thing each; more readings -/
namespace U
open PySem L2
/-- how a def binds what it is given, any number of its defaults left out -/
def BD (K : PySem.W.Frag) (fd : FuncData) (ps : List Str) (dv : List V) : Prop := ∀ j, j ≤ dv.length → ∃ ds, Vals (dv.drop j) ds ∧ Binds K fd ps ds
abbrev FunA (K : PySem.W.Frag) (x q : Str) (st : Stmt) (dv : List V) (kws : List (Str × V)) (f : Addr) (fd : FuncData) : Prop := FunD K x q (defArgs st) (defBody st) (defScope st) dv kws f fd
structure DA (K : PySem.W.Frag) (mg : Str → Option Value) (x : Str) (st : Stmt) (ps : List Str) (dv : List V) : Prop where
  ex : ∃ (f : Addr) (fd : FuncData), FunA K x x st dv [] f fd ∧ mg x = some (.ref f) ∧ BD K fd ps dv
structure MA (K : PySem.W.Frag) (C : Addr) (m q : Str) (st : Stmt) (ps : List Str) (dv : List V) : Prop where
  ex : ∃ (f : Addr) (fd : FuncData), FunA K m q st dv [] f fd ∧ Cls K C ∧ Meth K C m f ∧ BD K fd ps dv
structure NA (K : PySem.W.Frag) (mg : Str → Option Value) (x : Str) (C : Addr) (q : Str) (st : Stmt) (ps : List Str) (dv : List V) : Prop where
  ex : ∃ (f : Addr) (fd : FuncData), FunA K "__init__" q st dv [] f fd ∧ Mk K C f ∧ mg x = some (.ref C) ∧ BD K fd ps dv
section
variable (P : Program) (w : World) (K : PySem.W.Frag) (mg : Str → Option Value) (base : Heap)
structure Cl (k : Nat) (x : Str) (sp : Sp) (dv : List V) : Prop where
  ex : ∃ (f : Addr) (fd : FuncData) (ps : List Str), FnOk P w K mg base (L2N.CX P w) k f fd ps sp ∧ mg x = some (.ref f) ∧ PySem.W.keepIn K (.ref f) = true ∧ BD K fd ps dv
structure Mt (k : Nat) (C : Addr) (m : Str) (sp : Sp) (dv : List V) : Prop where
  ex : ∃ (f : Addr) (fd : FuncData) (ps : List Str), FnOk P w K mg base (L2N.CX P w) k f fd ps sp ∧ Cls K C ∧ Meth K C m f ∧ BD K fd ps dv
structure Nw (k : Nat) (x : Str) (C : Addr) (sp : Sp) (dv : List V) : Prop where
  ex : ∃ (f : Addr) (fd : FuncData) (ps : List Str), FnOk P w K mg base (L2N.CX P w) k f fd ps sp ∧ Mk K C f ∧ mg x = some (.ref C) ∧ BD K fd ps dv
end
section
variable {P : Program} {w : World} {K : PySem.W.Frag} {mg : Str → Option Value} {base : Heap}
theorem DA.ok {x : Str} {st : Stmt} {ps N : List Str} {dv : List V} {k : Nat} {sp : Sp} (F : DA K mg x st ps dv) (S : FnScope N ps (defScope st)) (len : ∀ vs H Q E, sp vs H Q E → vs.length = ps.length)
    (hbody : ∀ (f : Addr) (cdv : Value) (A : Around) (outer : List Env) (s : Shared) (H : Hp) (vs : List V) (Q : VK) (E : XK), Room k (A.deeper (PyProof.Rows.envOfC x (defScope st) s.heap.objs.size f cdv)) → sp vs H Q E →
      ∃ t, PSs (cxOf (L2N.CX P w) P w K mg base N x (defScope st) f cdv A outer s H E) (defBody st) t ∧ t { nx := fun _ H' => Q .non H', rt := Q } (start N vs) H) : Cl P w K mg base (k + 1) x sp dv := by
  obtain ⟨f, fd, F, hm, b⟩ := F.ex
  exact ⟨f, fd, ps, F.ok S len fun cdv A outer s H vs Q E => hbody f cdv A outer s H vs Q E, hm, F.kp, b⟩
theorem MA.ok {C : Addr} {m q : Str} {st : Stmt} {ps N : List Str} {dv : List V} {k : Nat} {sp : Sp} (F : MA K C m q st ps dv) (S : FnScope N ps (defScope st)) (len : ∀ vs H Q E, sp vs H Q E → vs.length = ps.length)
    (hbody : ∀ (f : Addr) (cdv : Value) (A : Around) (outer : List Env) (s : Shared) (H : Hp) (vs : List V) (Q : VK) (E : XK), Room k (A.deeper (PyProof.Rows.envOfC q (defScope st) s.heap.objs.size f cdv)) → sp vs H Q E →
      ∃ t, PSs (cxOf (L2N.CX P w) P w K mg base N q (defScope st) f cdv A outer s H E) (defBody st) t ∧ t { nx := fun _ H' => Q .non H', rt := Q } (start N vs) H) : Mt P w K mg base (k + 1) C m sp dv := by
  obtain ⟨f, fd, F, c, hm, b⟩ := F.ex
  exact ⟨f, fd, ps, F.ok S len fun cdv A outer s H vs Q E => hbody f cdv A outer s H vs Q E, c, hm, b⟩
theorem NA.ok {x : Str} {C : Addr} {q : Str} {st : Stmt} {ps N : List Str} {dv : List V} {k : Nat} {sp : Sp} (F : NA K mg x C q st ps dv) (S : FnScope N ps (defScope st)) (len : ∀ vs H Q E, sp vs H Q E → vs.length = ps.length)
    (hbody : ∀ (f : Addr) (cdv : Value) (A : Around) (outer : List Env) (s : Shared) (H : Hp) (vs : List V) (Q : VK) (E : XK), Room k (A.deeper (PyProof.Rows.envOfC q (defScope st) s.heap.objs.size f cdv)) → sp vs H Q E →
      ∃ t, PSs (cxOf (L2N.CX P w) P w K mg base N q (defScope st) f cdv A outer s H E) (defBody st) t ∧ t { nx := fun _ H' => Q .non H', rt := Q } (start N vs) H) : Nw P w K mg base (k + 1) x C sp dv := by
  obtain ⟨f, fd, F, M, hm, b⟩ := F.ex
  exact ⟨f, fd, ps, F.ok S len fun cdv A outer s H vs Q E => hbody f cdv A outer s H vs Q E, M, hm, b⟩
/-! making them from what the top has left -/
theorem bd0 {x q : Str} {params : Arguments} {body : List Stmt} {scope : Scope} {f : Addr} {fd : FuncData} {ps : List Str} (F : FunD K x q params body scope [] [] f fd)
    (h : ∀ (a b c : Value) (d : Option Addr) (e g : Value) (us : List Value), us.length = ps.length → bindArgs (PySem.W.fnOf x q params body scope .none a b c d e g) ⟨us, []⟩ = pure (ps.zip us)) : BD K fd ps [] :=
  fun j _ => ⟨[], (List.drop_nil (i := j)).symm ▸ .nil, F.bindsN h⟩
theorem bd1 {x q : Str} {params : Arguments} {body : List Stmt} {scope : Scope} {f : Addr} {fd : FuncData} {ps : List Str} {v : V} (F : FunD K x q params body scope [v] [] f fd) (hp : 0 < ps.length)
    (h0 : ∀ (T : Addr) (kV doc pm : Value) (an : Option Addr) (cdv ct : Value) (us its : List Value), us.length = ps.length - 1 → its.length = [v].length →
      ∃ k, bindArgs (PySem.W.fnOf x q params body scope (.ref T) kV doc pm an cdv ct) ⟨us, []⟩ = seqItems? (.ref T) >>= k ∧ k (some its.toArray) = pure (ps.zip (us ++ its.drop 0)))
    (h1 : ∀ (T : Addr) (kV doc pm : Value) (an : Option Addr) (cdv ct : Value) (us its : List Value), us.length = ps.length → its.length = [v].length →
      ∃ k, bindArgs (PySem.W.fnOf x q params body scope (.ref T) kV doc pm an cdv ct) ⟨us, []⟩ = seqItems? (.ref T) >>= k ∧ k (some its.toArray) = pure (ps.zip (us ++ its.drop 1))) : BD K fd ps [v] := by
  intro j hj
  match j with
  | 0 => exact F.binds1 (ps.length - 1) 0 (by simp) (by show ps.length - 1 + (1 - 0) = _; omega) h0
  | 1 => exact F.binds1 ps.length 1 (by simp) (by show ps.length + (1 - 1) = _; omega) h1
  | j + 2 => exact absurd hj (by show ¬ j + 2 ≤ 1; omega)
end
section
variable {X : Cx} {E : XK}
/-- nothing is raised there -/
theorem passN {X : Cx} : Passes (L2N.CX X.prog X.w) X (fun _ _ _ => False) := fun _ _ _ _ _ _ _ h => by
  rcases h with ⟨_, _, _, _, _, _, _, _, _, _, _, _, no⟩
  exact no.elim
/-- what a callee raises leaves this def, too -/
theorem passE (tk : L2N.Takes X (fun cls d _ H => E cls d H)) : Passes (L2N.CX X.prog X.w) X E := L2N.passes_call tk fun _ _ _ _ h => h
end
/-! ### a written dict with int keys, read -/
structure WD (P : Program) (w : World) (K : PySem.W.Frag) (d : Addr) (kvs : List (Key × V)) : Prop where
  ex : ∃ (o : Obj) (es : Array DictEntry) (ep : Nat) (vs : List (Key × Value)), K.lookup d = some o ∧ o.ExactDict ∧ o.data = .dict es ep ∧ KeysOf (mixKind P w) es ∧ Pairs (mixKind P w) es.toList vs ∧ (vs.map (·.1)).Nodup ∧ KV kvs vs
def tWGet (P : Program) (w : World) (K : PySem.W.Frag) (td ty : TE) : TE := fun σ H Q => td σ H fun x H1 => ty σ H1 fun y H2 => ∃ d kvs k v, x = .ref d ∧ y = kV k ∧ WD P w K d kvs ∧ valV kvs k = some v ∧ Q v H2
/-- the value that a written dict holds at a key -/
theorem wd_get {X : Cx} {pins : List (Addr × Obj)} {σ : L2.St} {H : Hp} {s : Shared} {d : Addr} {kvs : List (Key × V)} {k : Key} {v : V} {iv : Value} {A : Around} {E Q : Value → Shared → Prop} (I : Inv X pins σ H s) (W : WD X.prog X.w X.K d kvs) (rk : RelV (kV k) iv) (at_ : valV kvs k = some v)
    (go : ∀ u s', RelV v u → Inv X pins σ H s' → Q u s') : s.TypeIs (.ref d) "dict" ∧ wpAny (model X.prog X.w) A (getItem (.ref d) iv) Q E s := by
  rcases W.ex with ⟨ob, es, ep, vs, here, exact_, data_, keys, pairs, once, rel⟩
  have is : s.heap.DictOf (mixKind X.prog X.w) d vs := ⟨ob, es, ep, I.kIn d ob here, exact_, data_, keys, pairs, once⟩
  have both := rel.val k
  rw [at_] at both
  rcases both.some_of with ⟨u, eu, ru⟩
  exact ⟨is.typeIs, wpAny_getItem_of (kV_is rk) is.mapOf eu (go u _ ru (I.tok _))⟩
theorem pe_wget {X : Cx} {o i : Expr} {pos : Pos} {td ty : TE} (po : PE X o td) (pi : PE X i ty) (pl : NoSl i) : PE X (.Subscript o i pos) (tWGet X.prog X.w X.K td ty) where
  run pins s σ H Q I h := subD_of PySem.F.slot_dict_getitem.lookup pl (thn (po.run pins s σ H _ I h) (by
    rintro u s1 ⟨x, H1, I1, rx, h1⟩
    refine thn (pi.run pins s1 σ H1 _ I1 h1) ?_
    rintro iv s2 ⟨y, H2, I2, ry, d, kvs, k, v, rfl, rfl, W, at_, q⟩
    cases rx
    exact wd_get I2 W ry at_ fun w' s' rw' I' => ⟨v, H2, I', rw', q⟩))
/-! ### things of the top, read off their objects -/
def DfT (o : Obj) (dv : List V) : Prop := dv ≠ [] ∧ ∃ (its : List Value) (n : Nat), o.data = .seq its.toArray n ∧ Vals dv its
theorem dfT {o : Obj} {dv : List V} {its : List Value} {n : Nat} (h : o.data = .seq its.toArray n) (v : Vals dv its) (ne : dv ≠ []) : DfT o dv := ⟨ne, its, n, h, v⟩
theorem dfl_of {K : PySem.W.Frag} {t : Addr} {o : Obj} {dv : List V} (l : K.lookup t = some o) (d : DfT o dv) : DflV K (.ref t) dv := by
  obtain ⟨ne, its, n, h, v⟩ := d
  exact .inr ⟨ne, t, o, its, n, rfl, l, h, v⟩
def TupO (o : Obj) (xs : List V) : Prop := ∃ (its : List Value) (n : Nat), o.cls = .type "tuple" ∧ o.data = .seq its.toArray n ∧ its.length ≤ sizeLine ∧ Vals xs its
theorem tupO {o : Obj} {xs : List V} {its : List Value} {n : Nat} (c : o.cls = .type "tuple") (h : o.data = .seq its.toArray n) (l : its.length ≤ sizeLine) (v : Vals xs its) : TupO o xs := ⟨its, n, c, h, l, v⟩
theorem sqT_of {K : PySem.W.Frag} {H : Hp} {a : Addr} {o : Obj} {xs : List V} (l : K.lookup a = some o) (d : TupO o xs) : SqT K H a xs := by
  obtain ⟨its, n, c, h, z, v⟩ := d
  exact .inr ⟨o, its.toArray, n, l, c, h, by simpa using z, by simpa using v⟩
def entI (x : Int × Tok × Value) : DictEntry := ⟨hashInt x.1, .int x.1 x.2.1, x.2.2⟩
def WDO (o : Obj) (kvs : List (Key × V)) : Prop := ∃ (l : List (Int × Tok × Value)) (ep : Nat), o.ExactDict ∧ o.data = .dict (l.map entI).toArray ep ∧ (l.map (·.1)).Nodup ∧ KV kvs (l.map fun x => ((Sum.inl x.1 : Key), x.2.2))
theorem wd_of {P : Program} {w : World} {K : PySem.W.Frag} {a : Addr} {o : Obj} {kvs : List (Key × V)} (h : K.lookup a = some o) (d : WDO o kvs) : WD P w K a kvs := by
  obtain ⟨l, ep, x, e, nd, kv⟩ := d
  refine ⟨o, _, ep, l.map fun x => ((Sum.inl x.1 : Key), x.2.2), h, x, e, ?_, ?_, ?_, kv⟩
  · intro y hy
    have hy' : y ∈ l.map entI := by simpa using hy
    obtain ⟨z, hz, rfl⟩ := List.mem_map.mp hy'
    exact ⟨Sum.inl z.1, mixKind_int P w z.1 z.2.1, rfl⟩
  · have : ∀ l : List (Int × Tok × Value), Pairs (mixKind P w) (l.map entI) (l.map fun x => ((Sum.inl x.1 : Key), x.2.2)) := by
      intro l
      induction l with
      | nil => exact .nil
      | cons z r ih => exact .cons (mixKind_int P w z.1 z.2.1) rfl ih
    simpa using this l
  · have e2 : (l.map fun x => ((Sum.inl x.1 : Key), x.2.2)).map (·.1) = (l.map (·.1)).map Sum.inl := by simp [List.map_map, Function.comp_def]
    rw [e2]
    exact List.Pairwise.map _ (fun a b h z => h (Sum.inl.inj z)) nd
section
open PySem PySem.Spec PyProof.Rows L2
/-! ### raise X() of an own class without own __init__ -/
/-- an own exception made with no argument, by its class -/
theorem own_made0 {X : Cx} {C : Addr} {bmB : List Value} {B newId initId : String} {pins : List (Addr × Obj)} {σ : L2.St} {H : Hp} {Q : XK} {E : Value → Shared → Prop} {s : Shared} (F : ExcBaseFacts B newId initId bmB) (is : PySem.W.excIn X.K C bmB newId = true) (r : Raises X (.ref C))
    (I : Inv X pins σ H s) (q : Q (.ref C) none H) : wpAny (model X.prog X.w) X.A (call (.ref C) []) (L2N.MkP X pins σ Q) E s :=
  match exc_obj I.kIn is with
  | ⟨_, _, _, _, _, _, _, _, _, _, _, _, _, _, _, _, _, here, names, plain, tail⟩ => wpAny_call_exc_subT F tail here names plain fun _ _ new => L2N.mk_of I new r q (I.hok.gone new.new)
theorem pmk_own0 {X : Cx} {C : Addr} {bmB : List Value} {B newId initId : String} {x : Str} {p pos : Pos} (F : ExcBaseFacts B newId initId bmB) (is : PySem.W.excIn X.K C bmB newId = true) (gC : X.mg x = some (.ref C)) (kept : PySem.W.keepIn X.K (.ref C) = true) (r : Raises X (.ref C)) (gl : Gl X x)
    (nd : (x == ("__debug__" : Str)) = false := by decide) : L2N.PMk X (.Call (.Name x p) [] [] pos) (fun _ H Q => Q (.ref C) none H) := fun _ _ _ _ _ I q => wpAny_Call_Name_kw (ld_glob I gl gC (PySem.W.callWith_K0 I.kIn kept (own_made0 F is r I q)) nd)
structure EA (K : PySem.W.Frag) (mg : Str → Option Value) (x : Str) (C : Addr) : Prop where
  g : mg x = some (.ref C)
  k : PySem.W.keepIn K (.ref C) = true
  q : ∃ (bmB : List Value) (B newId initId : String), ExcBaseFacts B newId initId bmB ∧ PySem.W.excIn K C bmB newId = true
  b : PySem.W.subIn K (.ref C) (.type "BaseException") = some true
  t : PySem.W.typeIn K (.ref C) = some (.type "type")
theorem ps_raise0 {X : Cx} {W : WX} {x : Str} {C : Addr} {p pos pos2 : Pos} (hc : X.calm = true) (tk : L2N.Takes X W) (T : EA X.K X.mg x C) (hg : Gl X x := by rfl) (hdb : (x == ("__debug__" : Str)) = false := by decide) :
    PS X (.Raise (some (.Call (.Name x p) [] [] pos)) none pos2) (fun _ σ H => W (.ref C) none σ H) := by
  obtain ⟨bmB, B, newId, initId, F, q⟩ := T.q
  exact L2N.ps_raise hc tk (pmk_own0 F q T.g T.k (raises_own T.b T.t) hg hdb)
end
/-! ### xs[i] op= e -/
def rGetL (K : PySem.W.Frag) : V → V → Hp → VK → Prop := fun o i H Q => ∃ p xs k v, o = .ref p ∧ i = .int k ∧ 0 ≤ k ∧ k < 2 ^ 63 ∧ SqL K H p xs ∧ xs[k.toNat]? = some v ∧ Q v H
theorem get_list {X : Cx} : PGet X (rGetL X.K) := fun pins s σ H o i ov iv Q I ro ri ⟨p, xs, k, v, eo, ei, k0, k1, sq, at_, q⟩ => by
  cases eo
  cases ei
  cases ro
  rcases ri with ⟨tk, rfl⟩
  rcases I.list sq with ⟨us, vs, plain, _⟩
  rcases vs.get at_ with ⟨u, eu, ru⟩
  refine wpAny_getItem_list plain.isList k0 k1 ?_ ⟨v, H, I, ru, q⟩
  rw [List.getElem?_toArray]
  exact eu
def ipMul : TIp := fun x y H Q => ∃ i j, x = .int i ∧ y = .int j ∧ CMul i j ∧ Q (.int (i * j)) H
theorem ip_mul {X : Cx} : PIp X .Mult ipMul := fun _ s _ H _ _ _ _ _ I rx ry ⟨i, j, ex, ey, small, q⟩ => by
  cases ex
  cases ey
  rcases rx with ⟨ti, rfl⟩
  rcases ry with ⟨tj, rfl⟩
  exact PyProof.Rows.imul_int ⟨.int (i * j), H, I.tok _, ⟨_, rfl⟩, q⟩ small.ok
section
variable {X : Cx}
theorem u_listOf : CallR X (.type "list") (rListOf X.K) := call_list_of
theorem u_intB : CallR X (.type "int") rIntB := fun pins s σ H xs us Q I r ⟨b, e, q⟩ => call_int1 pins s σ H xs us Q I r (.inr ⟨b, e, q⟩)
end
section
variable {X : Cx} {x : Str} {pos : Pos}
theorem pe_gref {a : Addr} (hg : Gl X x) (hm : X.mg x = some (.ref a)) (hd : (x == ("__debug__" : Str)) = false := by decide) : PE X (.Name x pos) (tC (.ref a)) := pe_glob hg hm rfl hd
theorem pe_gval {v : V} (hg : Gl X x) (h : ∃ u, X.mg x = some u ∧ RelV v u) (hd : (x == ("__debug__" : Str)) = false := by decide) : PE X (.Name x pos) (tC v) := by
  obtain ⟨u, hm, r⟩ := h
  exact pe_glob hg hm r hd
end
/-! ### rules with the written part named (within comprehensions) -/
section
variable {X : Cx} {e o : Expr} {te : TE} {f : Str} {pos : Pos}
theorem ixL (K : PySem.W.Frag) (h : X.K = K) : IxR X (rIxL K) := h ▸ ix_list
theorem ixT (K : PySem.W.Frag) (h : X.K = K) : IxR X (rIxT K) := h ▸ ix_tup
theorem ixS (K : PySem.W.Frag) (h : X.K = K) : IxR X (rIx K) := h ▸ ix_seq
theorem lenK (K : PySem.W.Frag) (h : X.K = K) : CallR X (.builtin "len") (Evl.rLenS K) := h ▸ u_len
theorem pe_fldK (K : PySem.W.Frag) (h : X.K = K) (he : PE X o te) (hb : attributeBase o f X.env (eval o X.env) = eval o X.env) : PE X (.Attribute o f pos) (tFld K te f) := h ▸ pe_fld he hb
theorem inK (K : PySem.W.Frag) (h : X.K = K) : OpR X (compareOp .In) (rIn K false) := h ▸ op_in_seq
theorem notInK (K : PySem.W.Frag) (h : X.K = K) : OpR X (compareOp .NotIn) (rIn K true) := h ▸ op_notIn_seq
end
/-! ### more introductions -/
section
variable {σ : St} {H : Hp} {Q : VK} {ta tb tc : TE} {v x y : V} {K : PySem.W.Frag} {D : Ends} {t u : TS}
theorem i_getL {p : Addr} {xs : List V} {k : Int} (h0 : 0 ≤ k) (h1 : k < 2 ^ 63) (h : SqL K H p xs) (e : xs[k.toNat]? = some v) (q : Q v H) : rGetL K (.ref p) (.int k) H Q := ⟨p, xs, k, v, rfl, rfl, h0, h1, h, e, q⟩
theorem i_augS {to ti te : TE} {tget : V → V → Hp → VK → Prop} {tip : TIp} {tset : TSet} (q : to σ H fun o H1 => ti σ H1 fun i H2 => tget o i H2 fun x H3 => te σ H3 fun y H4 => tip x y H4 fun z H5 => tset o i z H5 fun H6 => D.nx σ H6) : tAugS to ti te tget tip tset D σ H := q
theorem i_aug {i : Nat} {ti : TIp} (h : σ[i]? = some (some x)) (q : ta σ H fun y H1 => ti x y H1 fun z H2 => D.nx (σ.set i (some z)) H2) : tAug i ta ti D σ H := ⟨x, h, q⟩
theorem i_ipI {f : Int → Int → Int} {i j : Int} (q : Q (.int (f i j)) H) : ipI f (.int i) (.int j) H Q := ⟨i, j, rfl, rfl, q⟩
theorem i_ipMul {i j : Int} (c : CMul i j) (q : Q (.int (i * j)) H) : ipMul (.int i) (.int j) H Q := ⟨i, j, rfl, rfl, c, q⟩
theorem i_fld {f : Str} (q : ta σ H fun x H1 => ∃ a C dx fs v, x = .ref a ∧ H1 a = some (.ins C dx fs) ∧ Cls K C ∧ NoAttr K C f ∧ fs.lookup f = some v ∧ Q v H1) : tFld K ta f σ H Q := q
theorem i_fld' {a C dx : Addr} {fs : List (Str × V)} {f : Str} {R : Addr → Addr → Addr → List (Str × V) → V → Prop} (h : H a = some (.ins C dx fs)) (c : Cls K C) (n : NoAttr K C f) (l : fs.lookup f = some v) (q : R a C dx fs v) :
    ∃ a' C dx fs v, V.ref a = .ref a' ∧ H a' = some (.ins C dx fs) ∧ Cls K C ∧ NoAttr K C f ∧ fs.lookup f = some v ∧ R a' C dx fs v := ⟨a, C, dx, fs, v, rfl, h, c, n, l, q⟩
theorem i_sfld {f : Str} (q : tb σ H fun y H1 => ta σ H1 fun x H2 => ∃ a C dx fs, x = .ref a ∧ H2 a = some (.ins C dx fs) ∧ Cls K C ∧ NoAttr K C f ∧ fs.length < 1000 ∧ D.nx σ (upd H2 a (.ins C dx (putF f y fs)))) : sFld K ta tb f D σ H := q
theorem i_sfld' {a C dx : Addr} {fs : List (Str × V)} {f : Str} {R : Addr → Addr → Addr → List (Str × V) → Prop} (h : H a = some (.ins C dx fs)) (c : Cls K C) (n : NoAttr K C f) (l : fs.length < 1000) (q : R a C dx fs) :
    ∃ a' C dx fs, V.ref a = .ref a' ∧ H a' = some (.ins C dx fs) ∧ Cls K C ∧ NoAttr K C f ∧ fs.length < 1000 ∧ R a' C dx fs := ⟨a, C, dx, fs, rfl, h, c, n, l, q⟩
theorem i_meth {C : Addr} {m : Str} {sp : Sp} {dvs : List V} {E : XK} {ts : TA} (q : ta σ H fun x H1 => ∃ a dx fs, x = .ref a ∧ H1 a = some (.ins C dx fs) ∧ fs.lookup m = none ∧ ts σ H1 fun vs H2 => sp (x :: (vs ++ dvs)) H2 Q E) : tMeth C m sp dvs E ta ts σ H Q := q
theorem i_meth' {a C dx : Addr} {fs : List (Str × V)} {m : Str} {R : Prop} (h : H a = some (.ins C dx fs)) (l : fs.lookup m = none) (q : R) : ∃ a' dx fs, V.ref a = .ref a' ∧ H a' = some (.ins C dx fs) ∧ fs.lookup m = none ∧ R := ⟨a, dx, fs, rfl, h, l, q⟩
theorem i_make {C : Addr} {sp : Sp} {dvs : List V} {E : XK} {ts : TA} (q : ts σ H fun vs H1 => ∀ x dx, H1 x = none → H1 dx = none → dx ≠ x → sp (.ref x :: (vs ++ dvs)) (upd (upd H1 dx (.own x)) x (.ins C dx [])) (fun v H2 => v = .non ∧ Q (.ref x) H2) E) : tMake C sp dvs E ts σ H Q := q
theorem i_tup {ts : TA} (q : ts σ H fun xs H1 => xs.length ≤ sizeLine ∧ ∀ p, H1 p = none → Q (.ref p) (upd H1 p (.tup xs))) : tTup ts σ H Q := q
theorem i_lst {ts : TA} (q : ts σ H fun xs H1 => xs.length ≤ sizeLine ∧ ∀ p, H1 p = none → Q (.ref p) (upd H1 p (.lst xs))) : tLst ts σ H Q := q
theorem i_wget {P : Program} {w : World} (q : ta σ H fun x H1 => tb σ H1 fun y H2 => ∃ d kvs k v, x = .ref d ∧ y = kV k ∧ WD P w K d kvs ∧ valV kvs k = some v ∧ Q v H2) : tWGet P w K ta tb σ H Q := q
theorem i_sl {r : V → Option Int → Option Int → Hp → VK → Prop} {tl th : TO} (q : ta σ H fun x H1 => tl σ H1 fun l H2 => th σ H2 fun u H3 => r x l u H3 Q) : tSl r ta tl th σ H Q := q
theorem i_part {R : Option Int → Hp → Prop} (q : ta σ H fun x H1 => ∃ i, x = .int i ∧ R (some i) H1) : tPart ta σ H R := q
theorem i_part' {i : Int} {R : Int → Prop} (q : R i) : ∃ i', V.int i = .int i' ∧ R i' := ⟨i, rfl, q⟩
theorem i_nopart {R : Option Int → Hp → Prop} (q : R none H) : tNoPart σ H R := q
theorem i_slL {a : Addr} {xs : List V} {lo hi : Option Int} (h : SqL K H a xs) (q : ∀ p, H p = none → Q (.ref p) (upd H p (.lst (cutV xs lo hi)))) : rSlL K (.ref a) lo hi H Q := ⟨a, xs, rfl, h, q⟩
theorem i_bm {T : String} {r : V → List V → Hp → VK → Prop} {ts : TA} (q : ta σ H fun x H1 => tyV K T x H1 ∧ ts σ H1 fun xs H2 => r x xs H2 Q) : tBM K T r ta ts σ H Q := q
theorem i_append {l : Addr} {xs : List V} (h : H l = some (.lst xs)) (hl : xs.length < sizeLine) (q : Q .non (upd H l (.lst (xs ++ [y])))) : rAppend (.ref l) [y] H Q := ⟨l, xs, y, rfl, rfl, h, hl, q⟩
theorem tyL {l : Addr} {xs : List V} (h : H l = some (.lst xs)) : tyV K "list" (.ref l) H := Or.inl ⟨rfl, _, SqL.of h⟩
theorem i_chain {r r' : R2} (q : ta σ H fun x H1 => tb σ H1 fun y H2 => r x y H2 fun z H3 => ∃ k, z = .bl k ∧ (if k = true then tc σ H3 fun w' H4 => r' y w' H4 Q else Q (.bl false) H3)) : tChain r r' ta tb tc σ H Q := q
theorem i_pt {a : TT} {b : TT} {R : Bool → Hp → Prop} (q : a σ H fun c H1 => if c = true then b σ H1 R else R false H1) : tAnd a b σ H R := q
theorem i_or {a : TT} {b : TT} {R : Bool → Hp → Prop} (q : a σ H fun c H1 => if c = true then R true H1 else b σ H1 R) : tOr a b σ H R := q
theorem i_for {wi : TI} {g : TG} {tb : TS} (q : wi σ H fun J H1 => ∃ W : Nat → Nat → St → Hp → Prop, (∃ m, W 0 m σ H1) ∧ ∀ i m σ H, W i m σ H →
      (J.stop i H ∧ D.nx σ H) ∨ (J.go i H ∧ ∃ N : St → Hp → Prop, (∀ σ' H', N σ' H' → ∃ m', m' < m ∧ W (i + 1) m' σ' H') ∧ ∀ x H', J.yld i H x H' → g x σ H' fun σ2 H2 => tb { D with nx := N, ct := N, bk := D.nx } σ2 H2)) : tFor wi g tb D σ H := q
theorem i_lc {wi : TI} {g : TG} {tt : TT} {te : TE} {vs : List Nat} (q : wi σ H fun J H1 => ∀ D, H1 D = none → ∃ W : Nat → Nat → Hp → Prop, (∃ m, W 0 m (upd H1 D (.lst []))) ∧ ∀ i m H, W i m H →
      (J.stop i H ∧ Q (.ref D) H) ∨ (J.go i H ∧ ∃ N : Hp → Prop, (∀ H', N H' → ∃ m', m' < m ∧ W (i + 1) m' H') ∧ ∀ x H', J.yld i H x H' → g x (wipe σ vs) H' fun σ2 H2 => wipe σ2 vs = wipe σ vs ∧ tt σ2 H2 fun b H3 =>
        if b = true then te σ2 H3 fun y H4 => ∃ acc, H4 D = some (.lst acc) ∧ acc.length < sizeLine ∧ N (upd H4 D (.lst (acc ++ [y]))) else N H3)) : tLc wi g tt te vs σ H Q := q
theorem i_yes {R : Bool → Hp → Prop} (q : R true H) : tYes σ H R := q
theorem i_rep {l : Addr} {k : Int} {xs : List V} (h : H l = some (.lst xs)) (h0 : -(2 ^ 63) ≤ k) (h1 : k < 2 ^ 63) (hz : xs.length * k.toNat ≤ sizeLine) (q : ∀ p, H p = none → Q (.ref p) (upd H p (.lst (List.replicate k.toNat xs).flatten))) : rRep (.ref l) (.int k) H Q := ⟨l, k, xs, rfl, rfl, h, h0, h1, hz, q⟩
theorem i_pl (q : ta σ H fun x H1 => ∃ a C dx fs v, x = .ref a ∧ H1 a = some (.ins C dx fs) ∧ Cls K C ∧ NoAttr K C f ∧ fs.lookup f = some v ∧
    tb σ H1 fun y H2 => r v y H2 fun z H3 => ∃ dx' fs', H3 a = some (.ins C dx' fs') ∧ fs'.length < 1000 ∧ D.nx σ (upd H3 a (.ins C dx' (putF f z fs')))) : sFldAug K ta tb r f D σ H := q
theorem i_pl' {a C dx : Addr} {fs : List (Str × V)} {R : Addr → List (Str × V) → Prop} (h : H a = some (.ins C dx fs)) (hl : fs.length < 1000) (q : R dx fs) : ∃ dx' fs', H a = some (.ins C dx' fs') ∧ fs'.length < 1000 ∧ R dx' fs' := ⟨dx, fs, h, hl, q⟩
theorem i_rAdd {i j : Int} (q : Q (.int (i + j)) H) : rAdd (.int i) (.int j) H Q := ⟨i, j, rfl, rfl, q⟩
theorem i_listOf {p : Addr} {ys : List V} (h : SqL K H p ys) (q : ∀ l, H l = none → Q (.ref l) (upd H l (.lst ys))) : rListOf K [.ref p] H Q := ⟨p, ys, rfl, .inl h, q⟩
theorem i_intB {b : Bool} (q : Q (.int (if b then 1 else 0)) H) : rIntB [.bl b] H Q := ⟨b, rfl, q⟩
theorem i_in {p : Addr} {xs : List V} {neg : Bool} (h : SqL K H p xs ∨ SqT K H p xs) (hf : flatV x = true) (ha : xs.all flatV = true) (q : Q (.bl (if neg then !inV x xs else inV x xs)) H) : rIn K neg x (.ref p) H Q := ⟨p, xs, rfl, h, hf, ha, q⟩
theorem i_cutH {te : TE} (P : V → Hp → Prop) (rest : ∀ x H', P x H' → Q x H') (q : (∀ x H', P x H' → Q x H') → te σ H Q) : te σ H Q := q rest
theorem i_cutB {c : TT} {R : Bool → Hp → Prop} (b : Bool) (P : Hp → Prop) (rest : ∀ H', P H' → R b H') (q : (∀ H', P H' → R b H') → c σ H R) : c σ H R := q rest
theorem i_par3 {i j l : Nat} {ts : TA} (q : ts σ H fun vs H1 => ∃ u v w, vs = [u, v, w] ∧ D.nx (((σ.set i (some u)).set j (some v)).set l (some w)) H1) : tPar3 i j l ts D σ H := q
theorem i_par3' {z : V} {R : V → V → V → Prop} (q : R x y z) : ∃ u v w, [x, y, z] = [u, v, w] ∧ R u v w := ⟨x, y, z, rfl, q⟩
theorem i_par {i j : Nat} {ts : TA} (q : ts σ H fun vs H1 => ∃ v w, vs = [v, w] ∧ D.nx ((σ.set i (some v)).set j (some w)) H1) : tPar i j ts D σ H := q
theorem i_par' {R : V → V → Prop} (q : R x y) : ∃ v w, [x, y] = [v, w] ∧ R v w := ⟨x, y, rfl, q⟩
theorem i_lrg {te : L2.St → Hp → (Int → Int → Hp → Prop) → Prop} (q : te σ H fun a b H1 => RgOk a b ∧ ∀ q, H1 q = none → Q (.ref q) (upd H1 q (.lst (rgV a b)))) : tLstRg te σ H Q := q
theorem i_rg1 {R : Int → Int → Hp → Prop} (q : ta σ H fun x H1 => ∃ n, x = .int n ∧ R 0 n H1) : tRg1 ta σ H R := q
theorem i_rg1' {n : Int} {R : Int → Prop} (q : R n) : ∃ n', V.int n = .int n' ∧ R n' := ⟨n, rfl, q⟩
theorem i_sorted {a : Addr} {ns : List Int} (h : SqL K H a (ns.map V.int)) (q : ∀ (ns' : List Int) (p : Addr), ns'.Perm ns → ns'.Pairwise (· ≤ ·) → H p = none → Q (.ref p) (upd H p (.lst (ns'.map V.int)))) : rSortedI K [.ref a] H Q := ⟨a, ns, rfl, h, q⟩
theorem i_gtup {a : Addr} {xs : List V} {n : Nat} {g : TGs} {R : St → Hp → Prop} (h : SqT K H a xs) (l : xs.length = n) (q : g xs σ H R) : gTup K n g (.ref a) σ H R := ⟨a, xs, rfl, h, l, q⟩
theorem i_gcons {g : TG} {gs : TGs} {vs : List V} {R : St → Hp → Prop} (q : g v σ H fun σ' H' => gs vs σ' H' R) : gCons g gs (v :: vs) σ H R := ⟨v, vs, rfl, q⟩
theorem i_gnil {R : St → Hp → Prop} (q : R σ H) : gNil [] σ H R := ⟨rfl, q⟩
theorem i_bm' {l : Addr} {xs : List V} {R : Prop} (h : H l = some (.lst xs)) (q : R) : tyV K "list" (.ref l) H ∧ R := ⟨tyL h, q⟩
theorem i_rng1 {ts : TA} {R : It → Hp → Prop} (q : ts σ H fun vs H1 => ∃ j : Int, vs = [.int j] ∧ -(2 ^ 62) ≤ j ∧ j < 2 ^ 62 ∧ R (Itr 0 j.toNat) H1) : iRng1 ts σ H R := q
theorem i_rng1' {j : Int} {R : Int → Prop} (h0 : -(2 ^ 62) ≤ j) (h1 : j < 2 ^ 62) (q : R j) : ∃ j' : Int, [V.int j] = [.int j'] ∧ -(2 ^ 62) ≤ j' ∧ j' < 2 ^ 62 ∧ R j' := ⟨j, rfl, h0, h1, q⟩
theorem i_rng2 {ts : TA} {R : It → Hp → Prop} (q : ts σ H fun vs H1 => ∃ i j : Int, vs = [.int i, .int j] ∧ (-(2 ^ 62) ≤ i ∧ i < 2 ^ 62 ∧ -(2 ^ 62) ≤ j ∧ j < 2 ^ 62) ∧ R (Itr i (j - i).toNat) H1) : iRng2 ts σ H R := q
theorem i_rng2' {i j : Int} {R : Int → Int → Prop} (h : -(2 ^ 62) ≤ i ∧ i < 2 ^ 62 ∧ -(2 ^ 62) ≤ j ∧ j < 2 ^ 62) (q : R i j) : ∃ i' j' : Int, [V.int i, V.int j] = [.int i', .int j'] ∧ (-(2 ^ 62) ≤ i' ∧ i' < 2 ^ 62 ∧ -(2 ^ 62) ≤ j' ∧ j' < 2 ^ 62) ∧ R i' j' := ⟨i, j, rfl, h, q⟩
theorem i_rng3 {ts : TA} {R : It → Hp → Prop} (q : ts σ H fun vs H1 => ∃ (i j c : Int) (n : Nat), vs = [.int i, .int j, .int c] ∧ RgC i j c n ∧ R (Itc i c n) H1) : iRng3 ts σ H R := q
theorem i_rng3' {i j c : Int} {n : Nat} {R : Int → Int → Int → Nat → Prop} (h : RgC i j c n) (q : R i j c n) : ∃ (i' j' c' : Int) (n : Nat), [V.int i, V.int j, V.int c] = [.int i', .int j', .int c'] ∧ RgC i' j' c' n ∧ R i' j' c' n := ⟨i, j, c, n, rfl, h, q⟩
theorem i_enum {ts : TA} {R : It → Hp → Prop} (q : ts σ H fun vs H1 => ∃ a xs, vs = [.ref a] ∧ SqL K H1 a xs ∧ R (Ite K a) H1) : iEnum K ts σ H R := q
theorem i_enum' {a : Addr} {xs : List V} {R : Addr → Prop} (h : SqL K H a xs) (q : R a) : ∃ a' xs, [V.ref a] = [.ref a'] ∧ SqL K H a' xs ∧ R a' := ⟨a, xs, rfl, h, q⟩
theorem i_rev {ts : TA} {R : It → Hp → Prop} (q : ts σ H fun vs H1 => ∃ (a : Addr) (xs : List V), vs = [.ref a] ∧ SqL K H1 a xs ∧ R (Itv K a xs.length) H1) : iRev K ts σ H R := q
theorem i_rev' {a : Addr} {xs : List V} {R : Addr → List V → Prop} (h : SqL K H a xs) (q : R a xs) : ∃ (a' : Addr) (xs : List V), [V.ref a] = [.ref a'] ∧ SqL K H a' xs ∧ R a' xs := ⟨a, xs, rfl, h, q⟩
theorem i_plist {R : It → Hp → Prop} (q : ta σ H fun x H1 => ∃ a, x = .ref a ∧ (∃ xs, SqL K H1 a xs) ∧ R (Itl K a) H1) : iList K ta σ H R := q
theorem i_plist' {a : Addr} {xs : List V} {R : Addr → Prop} (h : SqL K H a xs) (q : R a) : ∃ a', V.ref a = .ref a' ∧ (∃ xs, SqL K H a' xs) ∧ R a' := ⟨a, rfl, ⟨xs, h⟩, q⟩
theorem i_ptup {R : It → Hp → Prop} (q : ta σ H fun x H1 => ∃ a, x = .ref a ∧ (∃ xs, SqT K H1 a xs) ∧ R (Itt K a) H1) : iTup K ta σ H R := q
theorem i_ptup' {a : Addr} {xs : List V} {R : Addr → Prop} (h : SqT K H a xs) (q : R a) : ∃ a', V.ref a = .ref a' ∧ (∃ xs, SqT K H a' xs) ∧ R a' := ⟨a, rfl, ⟨xs, h⟩, q⟩
end
/-! ### heaps: what stood stands -/
section
variable {H H' H2 : Hp} {a p : Addr} {o u : HO}
theorem upd_new (n : H p = none) (h : H a = some u) : upd H p o a = some u := (upd_ne (ne_of_none h n)).trans h
theorem Same.get (s : Same H H') (h : H a = some u) : H' a = some u := s _ _ h
theorem same_own (s : Same H H') (n : H p = none) : Same H (upd H' p o) := fun b v e => by rw [upd_ne (ne_of_none e n)]; exact s b v e
theorem same_of (e : upd H p o = H') (n : H p = none) : Same H H' := e ▸ same_new n
theorem at_of (e : upd H p o = H') : H' p = some o := e ▸ upd_same
theorem Same.sqL {K : PySem.W.Frag} {xs : List V} (s : Same H H') (h : SqL K H a xs) : SqL K H' a xs := s.seq h
theorem Same.sqT {K : PySem.W.Frag} {xs : List V} (s : Same H H') (h : SqT K H a xs) : SqT K H' a xs := by
  refine h.imp (fun rd => ?_) id
  exact rd.imp (s _ _) fun fz => fz.elim fun o k => ⟨o, s _ _ k⟩
theorem lay_and {n : Nat} {R : Addr → Prop} (h : n ≤ sizeLine) (q : ∀ p, R p) : n ≤ sizeLine ∧ ∀ p, R p := ⟨h, q⟩
theorem take_succ_of {α : Type} {l : List α} {i : Nat} {x : α} (h : l[i]? = some x) : l.take (i + 1) = l.take i ++ [x] := by
  rw [List.take_add_one, h]
  rfl
theorem rep_ints (n : Nat) (z : Int) : (List.replicate n [V.int z]).flatten = (List.replicate n z).map V.int := by
  induction n with
  | zero => rfl
  | succ n ih => rw [List.replicate_succ, List.replicate_succ, List.flatten_cons, ih]; rfl
theorem map_set_int (ns : List Int) (j : Nat) (z : Int) : (ns.map V.int).set j (.int z) = (ns.set j z).map V.int := by rw [List.map_set]
theorem ixN_of {n : Nat} {i : Int} {j : Nat} (e : i = (j : Int)) (h : j < n) : ixN n i = some j := by
  unfold ixN
  rw [if_pos (by omega), if_pos (by omega), e]
  rfl
theorem cut_take {xs : List V} {q : Nat} (h : q ≤ xs.length) : cutV xs none (some (q : Int)) = xs.take q := by
  unfold cutV
  rw [HT.sIx_none, HT.sIx_nat, List.drop_zero, Nat.min_eq_left h]
  rfl
theorem cut_take' {xs : List V} {q : Nat} (h : xs.length ≤ q) : cutV xs none (some (q : Int)) = xs := by
  unfold cutV
  rw [HT.sIx_none, HT.sIx_nat, List.drop_zero, Nat.min_eq_right h]
  exact List.take_length
theorem rgV0 (n : Int) : rgV 0 n = ((List.range n.toNat).map fun (i : Nat) => (i : Int)).map V.int := by
  unfold rgV
  rw [List.map_map, Int.sub_zero]
  exact List.map_congr_left fun i _ => by show V.int (0 + (i : Int)) = V.int i; rw [Int.zero_add]
theorem mig {ns : List Int} {i : Nat} {z : V} (h : (ns.map V.int)[i]? = some z) : z = V.int (ns.getD i 0) ∧ i < ns.length := by
  rw [List.getElem?_map] at h
  cases e : ns[i]? with
  | none => simp [e] at h
  | some y =>
    rw [e] at h
    rw [show ns.getD i 0 = y by simp [List.getD_eq_getElem?_getD, e]]
    exact ⟨(Option.some.inj h).symm, (List.getElem?_eq_some_iff.mp e).1⟩
theorem mig' {ns : List Int} {i : Nat} (h : i < ns.length) : (ns.map V.int)[i]? = some (V.int (ns.getD i 0)) := by
  rw [List.getElem?_map, List.getD_eq_getElem?_getD, List.getElem?_eq_getElem h]
  rfl
theorem lt_of_len {α : Type} {l : List α} {k n : Nat} (h : l.length = k) (hk : k < n) : l.length < n := h ▸ hk
theorem But.same {a : Addr} (k : But a H H') (n : H2 a = none) (s : Same H2 H) : Same H2 H' := fun b v e => k b v (s b v e) (ne_of_none e n)
end
/-! ### lists of ints as data -/
theorem eqvAll_ints (ns : List Int) : ∀ ms : List Int, PyData.eqvAll (ns.map .int) (ms.map .int) = decide (ns = ms) := by
  induction ns with
  | nil => intro ms; cases ms <;> simp [PyData.eqvAll]
  | cons n r ih =>
    intro ms
    cases ms with
    | nil => simp [PyData.eqvAll]
    | cons m s =>
      have := ih s
      by_cases h : n = m <;> simp [PyData.eqvAll, PyData.eqv, this, h]
theorem eqv_ints (ns ms : List Int) : PyData.eqv (.list (ns.map .int)) (.list (ms.map .int)) = decide (ns = ms) := by
  rw [← eqvAll_ints]
  simp only [PyData.eqv]
theorem dpAll_ints {K : PySem.W.Frag} {H : Hp} : ∀ (ns : List Int), DpAll K H (ns.map V.int) (ns.map PyData.int)
  | [] => .nil
  | n :: r => .cons (.int n) (dpAll_ints r)
theorem sh_ints (ns : List Int) : SeqAt.shaped (.list (ns.map PyData.int)) = true := PySem.W.shaped_ints ns
section
variable {K : PySem.W.Frag} {H : Hp} {Q : VK}
/-- two lists of ints, != -/
theorem i_neInts {a b : Addr} {ns ms : List Int} (h : SqL K H a (ns.map V.int)) (g : SqL K H b (ms.map V.int)) (q : Q (.bl (!decide (ns = ms))) H) : rNeD K (.ref a) (.ref b) H Q :=
  ⟨_, _, .lst h (dpAll_ints ns), .lst g (dpAll_ints ms), sh_ints ns, sh_ints ms, by rw [eqv_ints]; exact q⟩
theorem i_eqInts {a b : Addr} {ns ms : List Int} (h : SqL K H a (ns.map V.int)) (g : SqL K H b (ms.map V.int)) (q : Q (.bl (decide (ns = ms))) H) : rEqD K (.ref a) (.ref b) H Q :=
  ⟨_, _, .lst h (dpAll_ints ns), .lst g (dpAll_ints ms), sh_ints ns, sh_ints ms, by rw [eqv_ints]; exact q⟩
end
end U
end

section
set_option Elab.async false
set_option linter.all false
set_option maxRecDepth 100000
set_option maxHeartbeats 4000000
namespace U
open PySem PySem.Spec PyProof.Rows L2
/-- what stands, stands -/
def Stays (h g : Heap) : Prop := ∀ b o, h.get? b = some o → g.get? b = some o
theorem Stays.rfl {h : Heap} : Stays h h := fun _ _ e => e
theorem Stays.trans {h g k : Heap} (x : Stays h g) (y : Stays g k) : Stays h k := fun b o e => y b o (x b o e)
theorem Stays.push {h : Heap} {o : Obj} : Stays h (h.push o) := fun _ _ e => Heap.get?_push_of_some _ e
theorem hot_stays {A : Around} {x1 : Addr} {h g : Heap} (hot : HotX.HotAt A x1 h) (k : Stays h g) : HotX.HotAt A x1 g := ⟨hot.1, hot.2.elim fun o p => ⟨o, p.elim fun vs q => ⟨vs, k _ _ q.1, q.2⟩⟩⟩
section
variable {prog : Program} {w : World} {A : Around} {E : Value → Shared → Prop} {s : Shared}
/-- a StopIteration, just made, is raised while x1 is handled -/
theorem stop_hot {α : Type} {x1 : Addr} {h : Heap} {tp : Obj} {vs : Array Value} {Q : α → Shared → Prop} (hot : HotX.HotAt A x1 h) (three : 2 < vs.size)
    (go : ∀ g e, Stays h g → (∃ o b, e = .ref b ∧ g.get? b = some o ∧ o.cls = .type "StopIteration") → E e { s with heap := g }) :
    wpAny (model prog w) A (raiseNew (.ref (h.push tp).objs.size) : Sem α) Q E { s with heap := (h.push tp).push { cls := .type "StopIteration", data := .fields vs } } := by
  have two : Stays h (h.push tp) := .push
  have old : x1 ≠ (h.push tp).objs.size := by
    have ⟨_, o, vs, k, _⟩ := hot_stays hot two
    exact Nat.ne_of_lt (Heap.lt_size k)
  refine HotX.raiseNew_hot (hot_stays hot (two.trans .push)) old (Heap.get?_push_size _ rfl) rfl three (go _ _ ?_ ⟨_, _, rfl, Heap.get?_update_self _ (Heap.get?_push_size _ rfl) rfl, rfl⟩)
  intro b o k
  have lt : b < (h.push tp).objs.size := Heap.lt_size (two b o k)
  rw [Heap.get?_update_ne _ _ _ _ (Nat.ne_of_lt lt)]
  exact (two.trans .push) b o k
/-- __next__ of an iterator, by the call of its slot -/
theorem next_by {it : Addr} {T id : String} {Q : Option Value → Shared → Prop} (is : s.TypeIs (.ref it) T) (sl : Slot T (Str.ofString "__next__") id)
    (h : wpAny (model prog w) A (call (.builtin id) [.ref it]) (fun v => Q (some v)) (fun e s1 => (∃ o b, e = .ref b ∧ s1.heap.get? b = some o ∧ o.cls = .type "StopIteration") ∧ Q none s1) s) : wpAny (model prog w) A (pyNext (.ref it)) Q E s := by
  unfold pyNext
  refine wpAny_bind (wpAny_attempt (wpAny_callSpecial?_slot is sl (wpAny_mono h (fun v s1 q => wpAny_pure q) ?_)))
  rintro e s1 ⟨⟨o, b, rfl, k, c⟩, q⟩
  wp_walk
  rw [c, isSubtype_stop]
  exact wpAny_pure (wpAny_pure q)
theorem tuple_end_hot {x1 it t : Addr} {i : Nat} {items : Array Value} {Q : Option Value → Shared → Prop} (hot : HotX.HotAt A x1 s.heap) (apart : x1 ≠ it) (hit : s.heap.IsTupleIter it t i) (ht : s.heap.IsTuple t items) (out : items[i]? = none)
    (go : ∀ g, Heap.ExtBut it s.heap g → Q none { s with heap := g }) : wpAny (model prog w) A (pyNext (.ref it)) Q E s := by
  rcases hit with ⟨⟨c, d, sl⟩, here, hc, hd⟩
  rcases ht with ⟨⟨c2, d2, sl2⟩, there, hc2, n, hd2⟩
  cases hc
  cases hd
  cases hc2
  cases hd2
  have is : s.TypeIs (.ref it) "tuple_iterator" := ⟨_, here, rfl⟩
  refine next_by is F.slot_tuple_iterator_next (wpAny_call_entry F.slot_tuple_iterator_next is F.entry_tuple_iterator_next ?_ (F.args_tuple_iterator_next_1 _))
  unfold Builtin.«tuple_iterator.__next__»
  wp_walk
  rw [show ((i : Int)).toNat = i from Int.toNat_natCast i, out]
  wp_walk
  have mid : Heap.SameBut it s.heap (s.heap.update it (Obj.mapFields fun x => x.setIfInBounds 0 Value.none)) := .update _ _ _
  refine stop_hot (x1 := x1) (h := s.heap.update it (Obj.mapFields fun x => x.setIfInBounds 0 Value.none)) ⟨hot.1, ?_⟩ ?_ fun g e k is => ⟨is, go g fun b o nb e => k _ _ (mid.extBut b o nb e)⟩
  · rcases hot.2 with ⟨o, vs, e, r⟩
    exact ⟨o, vs, mid.extBut _ _ apart e, r⟩
  · rw [Array.size_append]
    exact Nat.lt_of_lt_of_le (show 2 < 6 by decide) (Nat.le_add_right _ _)
theorem list_end_hot {x1 it t : Addr} {i : Nat} {items : Array Value} {Q : Option Value → Shared → Prop} (hot : HotX.HotAt A x1 s.heap) (apart : x1 ≠ it) (hit : s.heap.IsListIter it t i) (ht : s.heap.IsList t items) (out : items[i]? = none)
    (go : ∀ g, Heap.ExtBut it s.heap g → Q none { s with heap := g }) : wpAny (model prog w) A (pyNext (.ref it)) Q E s := by
  rcases hit with ⟨⟨c, d, sl⟩, here, hc, hd⟩
  rcases ht with ⟨⟨c2, d2, sl2⟩, there, hc2, n, hd2⟩
  cases hc
  cases hd
  cases hc2
  cases hd2
  have is : s.TypeIs (.ref it) "list_iterator" := ⟨_, here, rfl⟩
  refine next_by is slot_listiter_next (wpAny_call_entry slot_listiter_next is entry_listiter_next ?_ (args_listiter_next _))
  unfold Builtin.«list_iterator.__next__»
  wp_walk
  rw [show ((i : Int)).toNat = i from Int.toNat_natCast i, out]
  wp_walk
  have mid : Heap.SameBut it s.heap (s.heap.update it (Obj.mapFields fun x => x.setIfInBounds 0 Value.none)) := .update _ _ _
  refine stop_hot (x1 := x1) (h := s.heap.update it (Obj.mapFields fun x => x.setIfInBounds 0 Value.none)) ⟨hot.1, ?_⟩ ?_ fun g e k is => ⟨is, go g fun b o nb e => k _ _ (mid.extBut b o nb e)⟩
  · rcases hot.2 with ⟨o, vs, e, r⟩
    exact ⟨o, vs, mid.extBut _ _ apart e, r⟩
  · rw [Array.size_append]
    exact Nat.lt_of_lt_of_le (show 2 < 6 by decide) (Nat.le_add_right _ _)
/-- a tuple unpacked into as many names while an exception is handled: all that stood stands -/
theorem unpack_hot {x1 t : Addr} {items : Array Value} {Q : List Value → Shared → Prop} (hot : HotX.HotAt A x1 s.heap) (ht : s.heap.IsTuple t items) (go : ∀ g, Stays s.heap g → Q items.toList { s with heap := g }) :
    wpAny (model prog w) A (unpackItems (.ref t) items.size none) Q E s := by
  have is : s.TypeIs (.ref t) "tuple" := ht.elim fun o p => ⟨o, p.1, p.2.1⟩
  have before : t < s.heap.objs.size ∧ x1 < s.heap.objs.size := ⟨ht.elim fun _ p => Heap.lt_size p.1, hot.2.elim fun _ p => p.elim fun _ q => Heap.lt_size q.1⟩
  unfold unpackItems notIterableAtAll
  wp_walk
  rw [F.slot_tuple_iter.lookup]
  refine wpAny_pure ?_
  rw [if_pos (show (some (Value.builtin "tuple.__iter__")).isSome = true from rfl)]
  refine wpAny_pure ?_
  rw [if_neg Bool.false_ne_true]
  refine wpAny_bind (wpAny_holding (wpAny_pyIter_tuple ht ?_))
  dsimp only
  have hit : ({ s with heap := s.heap.push { cls := .type "tuple_iterator", data := .fields #[.ref t, .int 0 0] } } : Shared).heap.IsTupleIter s.heap.objs.size t 0 := ⟨_, Heap.get?_push_size _ rfl, rfl, rfl⟩
  refine wpAny_bind (wpAny_holding (wpAny_draw_tuple (Nat.ne_of_lt before.1) items.size 0 _ _ hit (ht.push _) (by omega) fun g spent same => ?_))
  have all : (items.toList.drop 0).take items.size = items.toList := by rw [List.drop_zero, ← Array.length_toList, List.take_length]
  rw [all, Array.length_toList]
  rw [if_neg (Nat.lt_irrefl _)]
  have stood : ∀ b o, s.heap.get? b = some o → g.get? b = some o := fun b o k => same.extBut b o (Nat.ne_of_lt (Heap.lt_size k)) (Heap.get?_push_of_some _ k)
  have ht2 : g.IsTuple t items := ht.elim fun o p => ⟨o, stood _ _ p.1, p.2⟩
  have none_ : items[0 + items.size]? = none := Array.getElem?_eq_none (by omega)
  refine wpAny_bind (wpAny_holding (tuple_end_hot (hot_stays hot stood) (Nat.ne_of_lt before.2) spent ht2 none_ fun g' ex => ?_))
  rw [if_neg (show ¬ (Option.none : Option Value).isSome = true from Bool.false_ne_true)]
  exact wpAny_pure (go g' fun b o k => ex b o (Nat.ne_of_lt (Heap.lt_size k)) (stood b o k))
/-- a, b = a pair (two local names), while an exception is handled -/
theorem pair_hot {x1 t : Addr} {env : Env} {a b : Str} {pa pb tp : Pos} {kk : Nat} {u v : Value} {m : Str → Option Value} {Q : Unit → Shared → Prop} (hot : HotX.HotAt A x1 s.heap) (ht : s.heap.IsTuple t #[u, v]) (ns : s.heap.Ns env.locals m)
    (la : env.kindOf a = some .local) (lb : env.kindOf b = some .local) (plain : (env.scope.kind == .class || (env.scope.kind == .module && env.locals != env.globals)) = false)
    (go : ∀ g tk, g.Ns env.locals (fun x => if x = b then some v else if x = a then some u else m x) → Heap.ExtBut env.locals s.heap g → s.toks ≤ tk → Q () { s with heap := g, toks := tk }) :
    wpAny (model prog w) A (assign (.Tuple [.Name a pa, .Name b pb] kk tp) env (.ref t)) Q E s := by
  rw [assign_Tuple]
  refine wpAny_bind (wpAny_standAt ?_)
  unfold unpack
  refine wpAny_bind (wpAny_holding (unpack_hot (items := #[u, v]) hot ht fun g k => ?_))
  refine assignInOrder_cons (wpAny_assign_Name (wpAny_storeName_local la (ns.keeps k) (fun g1 n1 b1 => ?_) plain))
  refine assignInOrder_cons (wpAny_assign_Name (wpAny_storeName_local lb n1 (fun g2 n2 b2 => ?_) plain))
  refine assignInOrder_nil (go _ _ n2 (fun c o ne e => b2.extBut c o ne (b1.extBut c o ne (k c o e))) (by show s.toks ≤ s.toks + 1 + 1; omega))
/-- a list of references walked with several names as target, while x1 is handled -/
theorem goes_hot {x1 l I : Addr} {items : Array Value} {elts : List Expr} {kk : Nat} {tp : Pos} (n1 : l ≠ I) (n2 : x1 ≠ I) (refs : ∀ (i : Nat) v, items[i]? = some v → ∃ T, v = .ref T) :
    Goes prog w A (.Tuple elts kk tp) I [I, l, x1] [I] items.size (fun i v _ => items[i]? = some v) (fun i h => h.IsListIter I l i ∧ h.IsList l items ∧ HotX.HotAt A x1 h) where
  sub b m := List.mem_singleton.mp m ▸ List.mem_cons_self
  frame i h h' st k := ⟨st.1.at fun o e => k I List.mem_cons_self o e, st.2.1.at fun o e => k l (List.mem_cons_of_mem _ List.mem_cons_self) o e,
    st.2.2.1, st.2.2.2.elim fun o p => ⟨o, p.elim fun vs q => ⟨vs, k x1 (List.mem_cons_of_mem _ (List.mem_cons_of_mem _ List.mem_cons_self)) _ q.1, q.2⟩⟩⟩
  goes i s Q E lt st go := by
    rcases st with ⟨it, li, hot⟩
    have at_ : items[i]? = some items[i] := Array.getElem?_eq_getElem lt
    refine wpAny_pyNext_list_item it li at_ fun g it2 same => ⟨_, rfl, ?_⟩
    rcases refs i _ at_ with ⟨T, eT⟩
    have keep : ∀ b o, b ∉ [I] → s.heap.get? b = some o → g.get? b = some o := fun b o nm e => same.extBut b o (fun z => nm (z ▸ List.mem_cons_self)) e
    have st2 : g.IsListIter I l (i + 1) ∧ g.IsList l items ∧ HotX.HotAt A x1 g := ⟨it2, li.at fun o e => same.extBut l o n1 e, hot.1, hot.2.elim fun o p => ⟨o, p.elim fun vs q => ⟨vs, same.extBut _ _ n2 q.1, q.2⟩⟩⟩
    rw [eT]
    exact wpAny_letOwnedTupleGo_listiter it2 (go _ g s.toks (by rw [← eT]; exact at_) st2 keep (Nat.le_refl _))
  stops s Q E st go := list_end_hot st.2.2 n2 st.1 st.2.1 (Array.getElem?_eq_none (Nat.le_refl _)) fun g ex => ⟨rfl, go g s.toks (fun b o nm e => ex b o (fun z => nm (z ▸ List.mem_cons_self)) e) (Nat.le_refl _)⟩
  self i s Q E st q := wpAny_pyIter_listiter st.1 q
end
section
variable {M : Model} {A : Around} {E : Value → Shared → Prop} {s : Shared} {env : Env}
/-- one test, of a local name that holds a truth value -/
theorem test_name {b : Str} {pb : Pos} {m : Str → Option Value} {k : Bool} {Q : Bool → Shared → Prop} (kind : env.scope.kind = .function) (lb : env.kindOf b = some .local) (ns : s.heap.Ns env.locals m) (hv : m b = some (.bool k)) (nd : (b == ("__debug__" : Str)) = false) (q : Q k s) :
    wpAny M A (testsOf [.Name b pb] env) Q E s := by
  have one : wpAny M A (isTrue (.Name b pb) env (eval (.Name b pb) env)) Q E s := wpAny_isTrue_value (wpAny_Name (wpAny_loadName_local kind lb ns hv (wpAny_truthy_bool q)) nd)
  show wpAny M A (forIn [Expr.Name b pb] true _) Q E s
  simp only [List.forIn_cons, List.forIn_nil, if_pos]
  refine wpAny_bind (wpAny_bind (wpAny_mono one (fun ok s1 h => wpAny_pure ?_) fun _ _ x => x))
  exact wpAny_pure h
end
/-! ### [a for a, b in pairs if b], while an exception is handled -/
/-- a list of new pairs of a text and a truth value -/
def Pairs (K : PySem.W.Frag) (H : Hp) (p : Addr) (ws : List (Str × Bool)) : Prop := ∃ xs : List V, SqL K H p xs ∧ xs.length = ws.length ∧ ∀ (i : Nat) (w : Str × Bool), ws[i]? = some w → ∃ t, xs[i]? = some (.ref t) ∧ H t = some (.tup [.str w.1, .bl w.2])
def picked (ws : List (Str × Bool)) : List V := (ws.filter (·.2)).map fun w => .str w.1
def tPick (K : PySem.W.Frag) (te : TE) : TE := fun σ H Q => te σ H fun x H1 => ∃ p ws, x = .ref p ∧ Pairs K H1 p ws ∧ ∀ q, H1 q = none → Q (.ref q) (upd H1 q (.lst (picked ws)))
theorem picked_succ {ws : List (Str × Bool)} {i : Nat} {w : Str × Bool} (h : ws[i]? = some w) : picked (ws.take (i + 1)) = picked (ws.take i) ++ (if w.2 = true then [.str w.1] else []) := by
  unfold picked
  rw [take_succ_of h, List.filter_append, List.map_append]
  cases e : w.2 <;> simp [e]
theorem picked_le (ws : List (Str × Bool)) : (picked ws).length ≤ ws.length := by
  unfold picked
  rw [List.length_map]
  exact List.length_filter_le ..
theorem pe_pickH {X : Cx} {iter : Expr} {te : TE} {a b : Str} {pa pb pa2 pb2 tp pos : Pos} {kk : Nat} {scope : Scope} {cl : List (Str × Addr)} (hc : L2H.HotC X) (he : PE X iter te) (clos : closureFor scope X.env = pure cl) (cells : ∀ y ∈ scope.names, y.2 ≠ .cell)
    (kind : scope.kind = .function) (names : ∀ y ∈ scope.names, y.2 = .local → scope.names.lookup y.1 = some .local) (la : scope.names.lookup a = some .local) (lb : scope.names.lookup b = some .local) (ne : a ≠ b) (na : (a == ("__debug__" : Str)) = false) (nb : (b == ("__debug__" : Str)) = false)
    (fold : ∀ x, foldedSetIterable iter X.env x = pure x) : PE X (.ListComp (.Name a pa2) [⟨.Tuple [.Name a pa, .Name b pb] kk tp, iter, [.Name b pb2], 0⟩] scope pos) (tPick X.K te) where
  run pins s σ H Q I h := by
    refine ListComp_goes clos cells kind names (thn (he.run pins s σ H _ I h) ?_) fold
    rintro xv s1 ⟨x, H1, I1, rx, p, ws, rfl, ⟨xs, sq, len, each⟩, q⟩
    cases rx
    obtain ⟨its, vs, plain, size⟩ := I1.list sq
    obtain ⟨x1, hot⟩ := hc.at I1
    have len2 : its.length = ws.length := vs.length.symm.trans len
    refine wpAny_pyIter_list plain.isList ?_
    have pOld : p < s1.heap.objs.size := plain.isList.elim fun _ k => Heap.lt_size k.1
    have xOld : x1 < s1.heap.objs.size := hot.2.elim fun _ k => k.elim fun _ k => Heap.lt_size k.1
    have grown : Stays s1.heap (s1.heap.push { cls := .type "list_iterator", data := .fields #[.ref p, .int 0 0] }) := .push
    -- each item: a pair
    have pair : ∀ (i : Nat) v, its.toArray[i]? = some v → ∃ t w tk, v = .ref t ∧ ws[i]? = some w ∧ s1.heap.IsTuple t #[.str w.1 tk, .bool w.2] := by
      intro i v k
      have k' : its[i]? = some v := by simpa using k
      have lt : i < ws.length := len2 ▸ (List.getElem?_eq_some_iff.mp k').1
      obtain ⟨t, xt, ht⟩ := each i _ (List.getElem?_eq_getElem lt)
      obtain ⟨u, eu, ru⟩ := vs.get xt
      have same : v = u := Option.some.inj (k'.symm.trans eu)
      obtain ⟨us, vu, isT, _⟩ := I1.tuple (SqT.of ht)
      cases ru
      rcases vu with _ | ⟨⟨tk, r1⟩, _ | ⟨r2, _ | _⟩⟩
      cases r1
      cases r2
      exact ⟨t, ws[i], tk, same, List.getElem?_eq_getElem lt, isT⟩
    have refs : ∀ (i : Nat) v, its.toArray[i]? = some v → ∃ T, v = .ref T := fun i v k => (pair i v k).elim fun t r => r.elim fun _ r => r.elim fun _ r => ⟨t, r.1⟩
    refine ⟨_, _, _, _, _, _, rfl, goes_hot (x1 := x1) (Nat.ne_of_lt pOld) (Nat.ne_of_lt xOld) refs, ?_, ⟨⟨_, Heap.get?_push_size _ rfl, rfl, rfl⟩, plain.isList.elim fun o k => ⟨o, grown _ _ k.1, k.2⟩, hot_stays hot grown⟩, ?_, ?_⟩
    · rw [List.size_toArray, len2, ← len]
      exact size
    · intro c m
      rw [show ({ s1 with heap := s1.heap.push { cls := .type "list_iterator", data := .fields #[.ref p, .int 0 0] } } : Shared).heap.objs.size = s1.heap.objs.size + 1 from Array.size_push _]
      rcases List.mem_cons.mp m with m | m
      · exact m ▸ Nat.lt_succ_self _
      rcases List.mem_cons.mp m with m | m
      · exact m ▸ Nat.lt_succ_of_lt pOld
      · exact List.mem_singleton.mp m ▸ Nat.lt_succ_of_lt xOld
    rintro D C s3 ⟨⟨h3, tk3, rfl⟩, old, newD, newC, neDC, nsC⟩
    have sz : ({ s1 with heap := s1.heap.push { cls := .type "list_iterator", data := .fields #[.ref p, .int 0 0] } } : Shared).heap.objs.size = s1.heap.objs.size + 1 := Array.size_push _
    rw [sz] at newD newC
    have offD : ∀ c o, s1.heap.get? c = some o → c ≠ D := fun c o k => Nat.ne_of_lt (Nat.lt_of_lt_of_le (Nat.lt_succ_of_lt (Heap.lt_size k)) newD)
    have offC : ∀ c o, s1.heap.get? c = some o → c ≠ C := fun c o k => Nat.ne_of_lt (Nat.lt_of_lt_of_le (Nat.lt_succ_of_lt (Heap.lt_size k)) newC)
    have offI : ∀ c o, s1.heap.get? c = some o → c ≠ s1.heap.objs.size := fun c o k => Nat.ne_of_lt (Heap.lt_size k)
    have neCI : C ≠ s1.heap.objs.size := Nat.ne_of_gt newC
    refine ⟨fun i ys s' => (∃ g tk, s' = { s1 with heap := g, toks := tk } ∧ Stays s1.heap g ∧ ∃ m, g.Ns C m) ∧ Vals (picked (ws.take i)) ys, ⟨⟨h3, tk3, rfl, grown.trans old, _, nsC⟩, .nil⟩, ?_, ?_, ?_⟩
    · rintro i ys _ g' tk ⟨⟨g, tk0, rfl, st, m, ns⟩, v⟩ but more
      refine ⟨⟨g', tk, rfl, fun c o k => but c o ?_ (st c o k), m, ns.at' fun o k => but C o ?_ k⟩, v⟩
      · intro z
        rcases List.mem_cons.mp z with z | z
        · exact offD c o k z
        · exact offI c o k (List.mem_singleton.mp z)
      · intro z
        rcases List.mem_cons.mp z with z | z
        · exact neDC z.symm
        · exact neCI (List.mem_singleton.mp z)
    · rintro i v ys _ lt at_ ⟨it2, li2, hot2⟩ ⟨⟨g, tk0, rfl, st, m, ns⟩, vals⟩ pl
      obtain ⟨t, w, tk, rfl, aw, isT⟩ := pair i v at_
      refine pair_hot hot2 (isT.elim fun o k => ⟨o, st _ _ k.1, k.2⟩) ns (lookup_relabel_local la) (lookup_relabel_local lb) ?_ fun g2 tk2 ns2 ex2 more => ?_
      · simp [compEnvC, relabel, kind]
      · have kC : (compEnvC scope cl C X.env).scope.kind = .function := by simp [compEnvC, relabel, kind]
        have hb : (fun x => if x = b then some (Value.bool w.2) else if x = a then some (.str w.1 tk) else m x) b = some (.bool w.2) := if_pos rfl
        have ha : (fun x => if x = b then some (Value.bool w.2) else if x = a then some (.str w.1 tk) else m x) a = some (.str w.1 tk) := by
          show (if a = b then _ else if a = a then _ else _) = _
          rw [if_neg ne, if_pos rfl]
        have st2 : Stays s1.heap g2 := fun c o k => ex2 c o (offC c o k) (st c o k)
        have next : g2.IsListIter s1.heap.objs.size p (i + 1) ∧ g2.IsList p its.toArray ∧ HotX.HotAt X.A x1 g2 := ⟨it2.at fun o k => ex2 _ _ (Ne.symm neCI) k, plain.isList.elim fun o k => ⟨o, st2 _ _ k.1, k.2⟩, hot_stays hot st2⟩
        have pl2 : g2.PlainList D ys.toArray := pl.at fun o k => ex2 _ _ neDC k
        refine test_name kC (lookup_relabel_local lb) ns2 hb nb ?_
        have more2 := picked_succ aw
        cases e : w.2 with
        | true =>
          rw [if_pos rfl]
          rw [e, if_pos rfl] at more2
          refine wpAny_Name (wpAny_loadName_local kC (lookup_relabel_local la) ns2 ha ?_) na
          refine ⟨⟨⟨g2, tk2, rfl, st2, _, ns2⟩, ?_⟩, next, pl2⟩
          rw [more2]
          exact vals.append (.cons ⟨tk, rfl⟩ .nil)
        | false =>
          rw [if_neg Bool.false_ne_true]
          rw [e, if_neg Bool.false_ne_true, List.append_nil] at more2
          exact ⟨⟨⟨g2, tk2, rfl, st2, _, ns2⟩, by rw [more2]; exact vals⟩, next, pl2⟩
    · rintro ys _ ⟨⟨g, tk, rfl, st, m, ns⟩, vals⟩ ⟨n, pl⟩
      have whole : ws.take its.toArray.size = ws := by rw [List.size_toArray, len2, List.take_length]
      rw [whole] at vals
      have fits : (picked ws).length ≤ sizeLine := Nat.le_trans (picked_le ws) (len ▸ size)
      exact ⟨m, ns, fun g' same => ⟨.ref D, _, I1.laid (o := .lst (picked ws)) (fun c o k => same.extBut c o (offC c o k) (st c o k)) (Nat.le_of_lt newD) ⟨fits, ys, n, vals, same.extBut _ _ neDC pl⟩, rfl, q D (I1.hok.fresh (Nat.le_of_lt newD))⟩⟩

end U
end

section
set_option Elab.async false
set_option linter.all false
set_option maxRecDepth 100000
set_option maxHeartbeats 4000000
/-! # U: try with any number of named clauses, by what each clause wishes -/
namespace U
open PySem PySem.Spec PyProof.Rows L2
/-- an exception of class cls lies before the clauses of X's try -/
def Ground (X : Cx) (pins : List (Addr × Obj)) (σ : L2.St) (H : Hp) (a : Addr) (cls : Value) (d : Option Addr) (s : Shared) : Prop :=
  ∃ (B : Heap) (sI : Shared), Inv X pins σ H sI ∧ (∀ b o, sI.heap.get? b = some o → b ∉ frs X.stack → B.get? b = some o) ∧ sI.heap.UpToSlots s.heap ∧ HandSPX.FlyingZ B X.stack a (L2N.Zn cls d) s.heap ∧ H a = none ∧ s.os = sI.os ∧ AllBare s.gens
section
variable {X : Cx} {pins : List (Addr × Obj)} {σ : L2.St} {H : Hp} {a : Addr} {cls : Value} {d : Option Addr} {s : Shared}
theorem Ground.inv (G : Ground X pins σ H a cls d s) : Inv X pins σ H s := by
  rcases G with ⟨B, sI, I, young, up, fl, fresh, os, bare⟩
  exact I.landed young fl.1 up os bare
theorem Ground.obj (G : Ground X pins σ H a cls d s) : ∃ o vs, s.heap.get? a = some o ∧ L2N.Zn cls d o ∧ o.data = .fields vs := by
  rcases G with ⟨B, sI, I, young, up, fl, fresh, os, bare⟩
  exact fl.there
theorem Ground.fresh (G : Ground X pins σ H a cls d s) : H a = none := by
  rcases G with ⟨B, sI, I, young, up, fl, fresh, os, bare⟩
  exact fresh
theorem up_stays {h g k : Heap} (u : h.UpToSlots g) (y : Stays g k) : h.UpToSlots k := fun b o e n => (u b o e n).elim fun sl q => ⟨sl, y _ _ q⟩
theorem fly_stays {B h k : Heap} {l : List Env} {Z : Obj → Prop} (f : HandSPX.FlyingZ B l a Z h) (y : Stays h k) : HandSPX.FlyingZ B l a Z k := by
  rcases f with ⟨st, no, fr, oe, vs, T, oT, ts, g1, z, d1, v1, n1, ne, g2, d2, v2⟩
  exact ⟨fun b o e => y b o (st b o e), no, fr.of_keeps fun b o e _ => ⟨o, y b o e, rfl⟩, oe, vs, T, oT, ts, y _ _ g1, z, d1, v1, n1, ne, y _ _ g2, d2, v2⟩
theorem Ground.grow {g : Heap} (G : Ground X pins σ H a cls d s) (y : Stays s.heap g) : Ground X pins σ H a cls d { s with heap := g } := by
  rcases G with ⟨B, sI, I, young, up, fl, fresh, os, bare⟩
  exact ⟨B, sI, I, young, up_stays up y, fly_stays fl y, fresh, os, bare⟩
/-- its frames are not it -/
theorem Ground.apart (G : Ground X pins σ H a cls d s) : a ∉ frs X.stack := by
  rcases G with ⟨B, sI, I, young, up, fl, fresh, os, bare⟩
  rcases fl.there with ⟨o, vs, e, _, dat⟩
  intro m
  rcases fl.2.2.1.mem m with ⟨_, o', e', no⟩
  rw [e] at e'
  exact no vs (Option.some.inj e' ▸ dat)
/-- the context of a suite -/
theorem Ground.suite (G : Ground X pins σ H a cls d s) (hs : X.stack = X.env :: X.outer) (hf : X.env.frame = some X.env.locals) : ∃ o vs, L2N.Zn cls d o ∧ o.data = .fields vs ∧ Inv (X.suite a ((a, o) :: (X.pn ++ pins))) [] σ H s := by
  rcases G.obj with ⟨o, vs, e, z, dat⟩
  have far := G.apart
  rw [hs] at far
  refine ⟨o, vs, z, dat, G.inv.suite e dat G.fresh (fun q => far ?_) fun q => far ?_⟩
  · exact List.mem_filterMap.mpr ⟨X.env, List.mem_cons_self, by rw [hf, q]⟩
  · rcases List.mem_filterMap.mp q with ⟨ev, m, fr⟩
    exact List.mem_filterMap.mpr ⟨ev, List.mem_cons_of_mem _ m, fr⟩
/-- once more on the ground -/
theorem Ground.again {M : Model} {A : Around} {E : Value → Shared → Prop} {Q : Unit → Shared → Prop} (G : Ground X pins σ H a cls d s) (q : ∀ g, Ground X pins σ H a cls d { s with heap := g } → Q () { s with heap := g }) : wpAny M A (setFlight (.ref a) none) Q E s := by
  rcases G with ⟨B, sI, I, young, up, fl, fresh, os, bare⟩
  exact HandSPX.lands_againZ fl fun g fl2 up2 => q g ⟨B, sI, I, young, up.trans up2, fl2, fresh, os, bare⟩
/-- no clause takes it -/
theorem Ground.leaves {Wout : WX} {D : Ends} (G : Ground X pins σ H a cls d s) (hf : X.env.frame = some X.env.locals) (tk : L2N.Takes X Wout) (w : Wout cls d σ H) :
    wpAny (model X.prog X.w) X.A (passOn "try.no-clause-matches" (.ref a) X.env) (SP X pins D) X.xe s := by
  rcases G with ⟨B, sI, I, young, up, fl, fresh, os, bare⟩
  have out : wpAny (model X.prog X.w) X.A (setFlight (.ref a) X.env.frame) (fun _ s1 => wpAny (model X.prog X.w) X.A (throw (.ref a) : Sem Flow) (SP X pins D) X.xe s1) X.xe s := by
    rw [hf]
    exact HandSPX.setFlight_upZ fl fun g held up2 => wpAny_throw (tk _ _ ⟨a, B, sI, pins, σ, H, cls, d, rfl, I, young, up.trans up2, .inr (.inr held), fresh, os, bare, w⟩)
  rcases fl with ⟨_, _, _, oe, vs, T, _, _, here, _, dat, one, _⟩
  unfold PySem.passOn
  wp_walk
  rw [dat]
  refine wpAny_pure ?_
  rw [one]
  refine wpAny_pure ?_
  rw [if_neg (show ¬ (Value.ref T == Value.none) = true from fun z => Bool.noConfusion z)]
  exact wpAny_bind out
end
/-! ### what a clause's classes say -/
/-- the test of a clause: hit tells it by the exception's class -/
def Decides (X : Cx) (t : Expr) (hit : Value → Option Bool) : Prop :=
  ∀ {pins : List (Addr × Obj)} {σ : L2.St} {H : Hp} {a : Addr} {cls : Value} {d : Option Addr} {s : Shared} {b : Bool} {Q : Bool → Shared → Prop} {E E2 : Value → Shared → Prop}, Ground X pins σ H a cls d s → hit cls = some b →
    (∀ g, Ground X pins σ H a cls d { s with heap := g } → Q b { s with heap := g }) →
    wpAny (model X.prog X.w) (X.A.mark (some (.ref a))) (eval t X.env) (fun c s1 => wpAny (model X.prog X.w) (X.A.mark (some (.ref a))) (excMatches (.ref a) c) Q E s1) E2 s
section
variable {X : Cx} (hs : X.stack = X.env :: X.outer) (hf : X.env.frame = some X.env.locals)
include hs hf
theorem name_of {pins : List (Addr × Obj)} {σ : L2.St} {H : Hp} {a : Addr} {cls : Value} {d : Option Addr} {s : Shared} {x : Str} {c : Value} {p : Pos} {Q E : Value → Shared → Prop} (n : Names X x c) (G : Ground X pins σ H a cls d s) (q : Q c s) :
    wpAny (model X.prog X.w) (X.A.mark (some (.ref a))) (eval (.Name x p) X.env) Q E s := by
  rcases G.suite hs hf with ⟨o, vs, z, dat, S⟩
  rcases n with ⟨gl, nd, own | ⟨no, bt, nn⟩⟩
  · exact ld_glob (X := X.suite a ((a, o) :: (X.pn ++ pins))) S gl own q nd
  · exact ld_blt (X := X.suite a ((a, o) :: (X.pn ++ pins))) S gl no bt q nn nd
theorem decides_name {x : Str} {c : Value} {p : Pos} (n : Names X x c) : Decides X (.Name x p) (fun cls => PySem.W.exmOne X.K cls c) := by
  intro pins σ H a cls d s b Q E E2 G h q
  refine name_of hs hf n G ?_
  rcases G.obj with ⟨o, vs, e, z, dat⟩
  have looks : PySem.W.Looks (model X.prog X.w) s.heap (typeOf (.ref a)) cls := fun A Q E s k q => wpAny_typeOf_ref (k _ _ e) (by rw [z.1]; exact q)
  exact (PySem.W.exm_one G.inv.kIn looks h).here (q s.heap G)
theorem decides_tup4 {x1 x2 x3 x4 : Str} {c1 c2 c3 c4 : Value} {p1 p2 p3 p4 tp : Pos} {kk : Nat} (n1 : Names X x1 c1) (n2 : Names X x2 c2) (n3 : Names X x3 c3) (n4 : Names X x4 c4) :
    Decides X (.Tuple [.Name x1 p1, .Name x2 p2, .Name x3 p3, .Name x4 p4] kk tp) (fun cls => PySem.W.exmAny X.K cls [c1, c2, c3, c4]) := by
  intro pins σ H a cls d s b Q E E2 G h q
  have made : wpAny (model X.prog X.w) (X.A.mark (some (.ref a))) (eval (.Tuple [.Name x1 p1, .Name x2 p2, .Name x3 p3, .Name x4 p4] kk tp) X.env) (fun c s1 => c = .ref s.heap.objs.size ∧ s1 = { s with heap := s.heap.push { cls := .type "tuple", data := .seq [c1, c2, c3, c4].toArray } }) E2 s := by
    refine wpAny_Tuple_spliced ?_
    refine Calls.spliced_cons (name_of hs hf n1 G ?_)
    refine Calls.spliced_cons (name_of hs hf n2 G ?_)
    refine Calls.spliced_cons (name_of hs hf n3 G ?_)
    refine Calls.spliced_cons (name_of hs hf n4 G ?_)
    refine Calls.spliced_nil ⟨?_, rfl, rfl⟩
    show 4 ≤ sizeLine
    rw [sizeLine_eq]
    decide
  refine wpAny_mono made ?_ fun _ _ x => x
  rintro _ _ ⟨rfl, rfl⟩
  have G2 := G.grow (Stays.push (o := { cls := .type "tuple", data := .seq [c1, c2, c3, c4].toArray }))
  rcases G2.obj with ⟨o, vs, e, z, dat⟩
  have looks : PySem.W.Looks (model X.prog X.w) (s.heap.push { cls := .type "tuple", data := .seq [c1, c2, c3, c4].toArray }) (typeOf (.ref a)) cls := fun A Q E s k q => wpAny_typeOf_ref (k _ _ e) (by rw [z.1]; exact q)
  exact (PySem.W.exm_tup4 G2.inv.kIn looks (Heap.get?_push_size _ rfl) h).here (q _ G2)
end
/-! ### the clauses, one behind the other -/
/-- R: what the clauses wish of an exception -/
def Clauses (X : Cx) (hds : List ExceptHandler) (R : Ends → L2.WX) : Prop :=
  ∀ {pins : List (Addr × Obj)} {σ : L2.St} {H : Hp} {a : Addr} {cls : Value} {d : Option Addr} {s : Shared} {D : Ends}, Ground X pins σ H a cls d s → R D cls d σ H → wpAny (model X.prog X.w) X.A (handleBy (.ref a) X.env hds) (SP X pins D) X.xe s
/-- behind a suite its name is gone -/
def goneE (i : Nat) (D : Ends) : Ends := ⟨fun σ H => D.nx (σ.set i none) H, D.rt, fun σ H => D.bk (σ.set i none) H, fun σ H => D.ct (σ.set i none) H⟩
section
variable {X : Cx} {t : Expr} {hit : Value → Option Bool} {rest : List ExceptHandler} {R : Ends → L2.WX}
theorem clauses_nil {Wout : L2.WX} (hf : X.env.frame = some X.env.locals) (tk : L2N.Takes X Wout) : Clauses X [] (fun _ => Wout) := fun G w => wpAny_handleBy_nil (G.leaves hf tk w)
/-- a clause that never takes what comes -/
theorem clauses_skip {n : Option Str} {body : List Stmt} {pos : Pos} (test : Decides X t hit) (r : Clauses X rest R) : Clauses X (.ExceptHandler (some t) n body pos :: rest) (fun D cls d σ H => hit cls = some false ∧ R D cls d σ H) := by
  intro pins σ H a cls d s D G w
  refine wpAny_handleBy_cons (codeAny_handlers_test (test G w.1 fun g G2 => ?_)) (fun z => nomatch z)
  exact r G2 w.2
theorem clauses_as {n : Str} {i : Nat} {b0 : Stmt} {suite : List Stmt} {pos : Pos} {ts : Addr → Value → Option Addr → L2.TS} (hs : X.stack = X.env :: X.outer) (hf : X.env.frame = some X.env.locals) (once : X.N.Nodup) (at_ : X.N[i]? = some n) (loc : X.env.kindOf n = some .local)
    (test : Decides X t hit) (su : ∀ (a : Addr) (o : Obj) (cls : Value) (d : Option Addr) (pn : List (Addr × Obj)), L2N.Zn cls d o → (∃ vs, o.data = .fields vs) → PSs (X.suite a ((a, o) :: pn)) (b0 :: suite) (ts a cls d)) (r : Clauses X rest R) :
    Clauses X (.ExceptHandler (some t) (some n) (b0 :: suite) pos :: rest) (fun D cls d σ H => ∃ b, hit cls = some b ∧ (b = true → ∀ a, H a = none → ts a cls d (goneE i D) (σ.set i (some (.ref a))) H) ∧ (b = false → R D cls d σ H)) := by
  intro pins σ H a cls d s D G w
  rcases w with ⟨b, h, yes, no⟩
  refine wpAny_handleBy_cons (codeAny_handlers_test (test G h fun g G2 => ?_)) (fun z => nomatch z)
  cases b with
  | false => exact r G2 (no rfl)
  | true =>
    have ok := G2.inv.ok
    refine codeAny_handlers_suite_as (G2.again fun g3 G3 => ?_)
    rcases G3.suite hs hf with ⟨o, vs, z, dat, S⟩
    refine store_ok (X := X.suite a ((a, o) :: (X.pn ++ pins))) (v := .ref a) S once at_ (.inl loc) rfl (fun s4 S4 => ?_) (.inr loc)
    refine wpAny_mono ((su a o cls d (X.pn ++ pins) z ⟨vs, dat⟩).run [] s4 _ H _ S4 (yes rfl a G3.fresh)) (fun f s5 e => ?_) fun _ _ z => False.elim z
    have forget : ∀ {σ' : L2.St} {H' : Hp} {Q : Shared → Prop}, Inv (X.suite a ((a, o) :: (X.pn ++ pins))) [] σ' H' s5 → (∀ s6, Inv X pins (σ'.set i none) H' s6 → Q s6) →
        wpAny (model X.prog X.w) X.A (do bindName X.env n .none; unbindBehindTheSuite X.env n pos) (fun _ s6 => Q s6) X.xe s5 := fun J q => gone_ok (J.unsuite ok) once at_ loc q
    cases f with
    | ret u => rcases e with ⟨v, σ', H', J, ru, q⟩; exact forget J fun s6 K => ⟨v, _, _, K, ru, q⟩
    | next => rcases e with ⟨σ', H', J, q⟩; exact forget J fun s6 K => ⟨_, _, K, q⟩
    | brk => rcases e with ⟨σ', H', J, q⟩; exact forget J fun s6 K => ⟨_, _, K, q⟩
    | cont => rcases e with ⟨σ', H', J, q⟩; exact forget J fun s6 K => ⟨_, _, K, q⟩
theorem ps_tryC {body : List Stmt} {h0 : ExceptHandler} {pos : Pos} {tb : L2.WX → L2.TS} (hs : X.stack = X.env :: X.outer) (hf : X.env.frame = some X.env.locals)
    (hb : ∀ (W : L2.WX) (pn : List (Addr × Obj)) (xe : Value → Shared → Prop), L2N.Takes (X.tr pn xe) W → PassesOwn (model X.prog X.w) X.A X.env xe → PSs (X.tr pn xe) body (tb W)) (c : Clauses X (h0 :: rest) R) :
    PS X (.Try body (h0 :: rest) [] [] pos) (fun D σ H => tb (R D) D σ H) where
  run pins s σ H D I h := by
    have ok := I.ok
    have take : L2N.Takes (X.tr (X.pn ++ pins) fun e s1 => wpAny (model X.prog X.w) X.A (noteFrame e X.env) (fun _ s2 => wpAny (model X.prog X.w) X.A (setFlight e none) (fun _ s3 => wpAny (model X.prog X.w) X.A (handleBy e X.env (h0 :: rest)) (SP X pins D) X.xe s3) X.xe s2) X.xe s1) (R D) := by
      rintro _ s1 ⟨a, B, sI, pins', σ', H', cls, d, rfl, J, young, up, sky, fresh, os, bare, w⟩
      have frames : X.A.frames = some (X.env :: X.outer) := ok.frames.trans (congrArg some hs)
      have sky2 : L2.Sky B (X.env :: X.outer) a (L2N.Zn cls d) X.env.locals s1.heap := hs ▸ sky
      exact L2N.Sky.land L2N.Zn.steady frames hf sky2 fun g fl up2 => c ⟨B, sI, J.ofTry ok, young, up.trans up2, by rw [hs]; exact fl, fresh, os, bare⟩ w
    refine wpAny_Try_except (wpAny_mono ((hb (R D) (X.pn ++ pins) _ take PassesOwn.looking).run [] s σ H D (I.toTry _) h) (fun f s1 e => ?_) fun _ _ z => z)
    cases f with
    | ret u => rcases e with ⟨v, σ', H', J, ru, q⟩; exact ⟨v, _, _, J.ofTry ok, ru, q⟩
    | next => rcases e with ⟨σ', H', J, q⟩; exact wpAny_execs_nil ⟨_, _, J.ofTry ok, q⟩
    | brk => rcases e with ⟨σ', H', J, q⟩; exact ⟨_, _, J.ofTry ok, q⟩
    | cont => rcases e with ⟨σ', H', J, q⟩; exact ⟨_, _, J.ofTry ok, q⟩
end
/-! ### isinstance of the exception that is handled, in a def that is called there -/
theorem call_held {X : Cx} {a D : Addr} {o : Obj} (C : ExcC X.K D) (held : (a, o) ∈ X.pn) (z : Zc (.ref D) none o) (fl : ∃ vs, o.data = .fields vs) : CallR X (.builtin "isinstance") (rIsE X.K D a) := by
  rintro pins s σ H _ us Q I r ⟨c, cv, b, rfl, only, e, q⟩
  rcases r with _ | ⟨ra, _ | ⟨rc, _ | _⟩⟩
  cases ra
  cases only _ rc
  have here := (I.pin _ (List.mem_append_left _ held)).1
  have inst : PySem.W.InstAt s.heap a o D none := by
    rcases o with ⟨oc, od, da, sl⟩
    rcases z with ⟨z1, z2⟩
    rcases fl with ⟨vs, z3⟩
    cases z1
    cases z2
    cases z3
    exact ⟨here, rfl, rfl, trivial⟩
  exact PySem.W.kia_one (PySem.W.handS_kitx_exc C.hg C.hk C.hs C.hd C.ha C.hn C.ht C.hm) I.kIn inst e (fun y => nomatch y) fun tk => ⟨.bl b, H, I.kept (t' := tk) fun _ _ y => y, rfl, q⟩
theorem takesF {X : Cx} : L2N.Takes X (fun _ _ _ _ => False) := by
  rintro u s ⟨_, _, _, _, _, _, _, _, _, _, _, _, _, _, _, _, no⟩
  exact no.elim
end U
end

section
set_option Elab.async false
set_option linter.all false
set_option maxRecDepth 100000
set_option maxHeartbeats 4000000
/-! # U: a lambda handed to a def, what its body raises being told with its context -/
namespace U
open PySem PySem.Spec PyProof.Rows L2 LamX
/-- the frame of a lambda's body leaves its exceptions to the caller, contexts told -/
def lamOut (X : Cx) (A : Around) (outer : List Env) (s : Shared) (H : Hp) (E : XK) (env : Env) : Value → Shared → Prop :=
  fun e s' => wpAny (model X.prog X.w) (A.deeper env) (leaving env e) (fun _ s'' => L2N.CX X.prog X.w outer H s E e s'') (fun e' s'' => L2N.CX X.prog X.w outer H s E e' s'') s'
def lamX (X : Cx) (A : Around) (outer : List Env) (s : Shared) (H : Hp) (E : XK) (scope : Scope) (f c' : Addr) : Cx := (lamCx X A outer s H E scope f c').tr [] (lamOut X A outer s H E (lamEnv X scope s.heap.objs.size f c'))
section
variable {X : Cx} {pins : List (Addr × Obj)} {σ : L2.St} {H HZ : Hp} {s s1 : Shared} {f c' : Addr} {params : Arguments} {body : Expr} {scope : Scope} {pm ctv : Value} {k : Nat} {E : XK} {Q : VK} {tb : TE}
/-- the function object that a lambda of this def's is -/
abbrev lamObj (X : Cx) (params : Arguments) (body : Expr) (scope : Scope) (pm ctv : Value) (c' : Addr) : Obj := PySem.W.kla_obj "<lambda>" (X.env.qual ++ "<lambda>") params body scope (cloFrom X.env.cells scope.names []) pm c' ctv
/-- called at s1 from the frames outer: the body runs over the slots of the def that made it -/
theorem lam_called {A : Around} {outer : List Env} (I : Inv X pins σ H s) (L : LamS X.env.scope scope) (un : Un (frs X.stack) [] H HZ s.heap s1.heap) (e0 : Env0 X.prog X.w X.K X.mg X.base A outer s1 HZ) (calm : A.handled = none) (room : Room (k + 1) A)
    (lim : s1.heap.NoLimit) (here : s1.heap.get? f = some (lamObj X params body scope pm ctv c')) (code : s1.heap.CodeRec (.ref c') (X.env.qual ++ "<lambda>")) (nob : bindArgs (PySem.W.kla_fn "<lambda>" (X.env.qual ++ "<lambda>") params body scope (cloFrom X.env.cells scope.names []) pm (.ref c') ctv) ⟨[], []⟩ = pure [])
    (hb : PE (lamX X A outer s1 HZ E scope f c') body tb) (t : tb σ HZ Q) : codeAny (model X.prog X.w) A (.call (.ref f) ⟨[], []⟩) (CR (L2N.CX X.prog X.w) outer X.prog X.w HZ s1 Q E) s1 := by
  apply PySem.W.kla_callFunE room.depth here rfl L.co L.gen rfl code
  rw [nob]
  apply wpAny_pure
  apply wpAny_newFunctionEnv (fun y m => (L.own y m).2) (fun y m => (List.not_mem_nil m).elim) _ L.kind
  intro g ns same
  have y : Stays s1.heap g := fun b o e => same.extBut b o (Nat.ne_of_lt (Heap.lt_size e)) (Heap.get?_push_of_some _ e)
  have J := (lam_start2 (f := f) (c' := c') (E := E) (tk := s1.toks + ([] : List (Str × Value)).length) I L e0 calm un ns y).toTry (lamOut X A outer s1 HZ E (lamEnv X scope s1.heap.objs.size f c'))
  refine ⟨lim.fresh _ same, PySem.W.kla_codeExpr (wpAny_mono (hb.run [] _ _ HZ Q J t) ?_ fun e s' z => z)⟩
  rintro v s' ⟨x, H', J', r, q⟩
  exact ⟨x, H', J'.os, J'.bare, J'.base, J'.hok, r, q⟩
/-- what calling slot 0 of the def that got the lambda asks; tl: the lambda's reading -/
def tAct (f c' : Addr) (q : Str) (W : L2.WX) (tl : XK → Hp → VK → Prop) : TE := fun σ H Q => σ[0]? = some (some (.ref f)) ∧ H c' = some (CodeO c' q) ∧
  ∃ (E : XK) (R : VK), (∀ cls d H', E cls d H' → W cls d σ H') ∧ (∀ v H', R v H' → Q v H') ∧ tl E H R
/-- the context of the def that the law hands its lambda to -/
abbrev getCx (X : Cx) (N : List Str) (x : Str) (sg : Scope) (g : Addr) (cdg : Value) (s : Shared) (H : Hp) : Cx := cxOf C8.CX0 X.prog X.w X.K X.mg X.base N x sg g cdg X.A X.stack s H C8.E0
theorem lam_act {N : List Str} {x a : Str} {sg : Scope} {g : Addr} {cdg : Value} {pn : List (Addr × Obj)} {xe : Value → Shared → Prop} {p1 p2 : Pos} {W : L2.WX} (I : Inv X pins σ H s) (L : LamS X.env.scope scope) (made : s.heap.get? f = some (lamObj X params body scope pm ctv c')) (free : H f = none) (nofr : f ∉ frs X.stack)
    (nob : bindArgs (PySem.W.kla_fn "<lambda>" (X.env.qual ++ "<lambda>") params body scope (cloFrom X.env.cells scope.names []) pm (.ref c') ctv) ⟨[], []⟩ = pure []) (room : Room (k + 1) (X.A.deeper (envOfC x sg s.heap.objs.size g cdg)))
    {tb : XK → TE} (tk : L2N.Takes ((getCx X N x sg g cdg s H).tr pn xe) W) (hb : ∀ (A : Around) (outer : List Env) (s : Shared) (H : Hp) (E : XK), Room k (A.deeper (lamEnv X scope s.heap.objs.size f c')) → PE (lamX X A outer s H E scope f c') body (tb E))
    (n0 : N[0]? = some a) (vis : Vis sg a) (hd : (a == ("__debug__" : Str)) = false) (hcd : (a == ("__classdict__" : Str)) = false) :
    PE ((getCx X N x sg g cdg s H).tr pn xe) (.Call (.Name a p1) [] [] p2) (tAct f c' (X.env.qual ++ "<lambda>") W (fun E H' Q' => tb E σ H' Q')) where
  run pinsZ sZ σZ HZ Q IZ h := by
    rcases h with ⟨slot, co, E, R, toW, toQ, t⟩
    have name := (pe_var (X := (getCx X N x sg g cdg s H).tr pn xe) (pos := p1) (i := 0) n0 vis hd hcd).run pinsZ sZ σZ HZ (fun v H1 => v = .ref f ∧ H1 = HZ) IZ ⟨.ref f, slot, rfl, rfl⟩
    refine wpAny_Call_Name_kw (thn name ?_)
    rintro u s2 ⟨v, H1, I2, r, ev, eH⟩
    subst ev
    subst eH
    cases r
    have here : s2.heap.get? f = some (lamObj X params body scope pm ctv c') := I2.base.keep f _ made free nofr (fun z => (List.not_mem_nil z).elim)
    have un : Un (frs X.stack) [] H H1 s.heap s2.heap := I2.base
    refine PySem.W.callWith_F0 ⟨_, _, _, _, here⟩ ?_
    rcases (I2.hok c' _ co).1 with ⟨oc, vs, tk', k1, k2, k3⟩
    have run := lam_called (E := E) (Q := R) (tb := tb E) (k := k) I L un I2.env0 room.hd room I2.nolimit here ⟨c', oc, vs, tk', rfl, k1, k2, k3⟩ nob (hb _ _ s2 H1 _ (room.deeper _)) t
    refine wpAny_call (codeAny_mono run fun r s3 e => ?_)
    cases r with
    | error z =>
      rcases e with ⟨b, B, H', cls, d, e1, e2, e3, e4, e5, e6, e7, e8⟩
      exact L2N.passAt tk σZ pinsZ H1 s2 z s3 I2 ⟨b, B, H', cls, d, e1, e2, e3, e4, e5, e6, e7, toW _ _ _ e8⟩
    | ok fl =>
      cases fl with
      | ret u =>
        rcases e with ⟨v, H', e1, e2, e3, e4, e5, e6⟩
        exact I2.after ⟨v, H', e1, e2, e3, e4, e5, toQ _ _ e6⟩
      | _ => exact e.elim
/-- a def that gets a lambda: its body's reading by what it makes (TT) of the lambda's -/
structure Taker (X : Cx) (r : Nat) (N : List Str) (x : Str) (sg : Scope) (g : Addr) (cdg : Value) (bg : List Stmt) (a : Str) (q : Str) (TT : (XK → Hp → VK → Prop) → Hp → VK → Prop) : Prop where
  walks : ∀ (s : Shared) (H : Hp) (f c' : Addr) (tl : XK → Hp → VK → Prop) (Q : VK),
    (∀ (W : L2.WX) (pn : List (Addr × Obj)) (xe : Value → Shared → Prop) (p1 p2 : Pos), L2N.Takes ((getCx X N x sg g cdg s H).tr pn xe) W → PE ((getCx X N x sg g cdg s H).tr pn xe) (.Call (.Name a p1) [] [] p2) (tAct f c' q W tl)) →
    Room r (X.A.deeper (envOfC x sg s.heap.objs.size g cdg)) → H c' = some (CodeO c' q) → TT tl H Q → ∃ t, PSs (getCx X N x sg g cdg s H) bg t ∧ t { nx := fun _ H' => Q .non H', rt := Q } (L2.start N [.ref f]) H
theorem pe_lamto {T : List (Addr × Str)} {TT : (XK → Hp → VK → Prop) → Hp → VK → Prop} {x a : Str} {g c P : Addr} {pg : Arguments} {bg : List Stmt} {sg : Scope} {dV kV doc pmg cdv ct oc : Value} {an od : Option Addr} {osl : Array (Option Value)} {N : List Str} {t : XK → TE} {p lpos pos : Pos}
    (gl : Gl X x) (mg : X.mg x = some (.ref g)) (kept : PySem.W.keepIn X.K (.ref g) = true) (lk : X.K.lookup g = some ⟨oc, od, .func (PySem.W.fnOf x x pg bg sg dV kV doc pmg an cdv ct), osl⟩) (cd : PySem.W.codeIn X.K cdv x = true) (bd : L2.Binds X.K (PySem.W.fnOf x x pg bg sg dV kV doc pmg an cdv ct) [a] [])
    (Sg : FnScope N [a] sg) (n0 : N[0]? = some a) (vis : Vis sg a) (tkr : Taker X (k + 1) N x sg g cdv bg a (X.env.qual ++ "<lambda>") TT) (TB : TabB X.base X.mg c P) (xcode : X.env.code = .ref c) (inT : (P, X.env.qual ++ "<lambda>") ∈ T) (sole : ∀ p ∈ T, p.1 = P → p.2 = X.env.qual ++ "<lambda>")
    (room : Room (k + 2) X.A) (L : LamS X.env.scope scope) (nod : defaultsOf params X.env = ([], [])) (nob : ∀ (q : Str) (cl : List (Str × Addr)) (pm cv ctv : Value), bindArgs (PySem.W.kla_fn "<lambda>" q params body scope cl pm cv ctv) ⟨[], []⟩ = pure [])
    (hb : ∀ (A : Around) (outer : List Env) (s : Shared) (H : Hp) (E : XK) (f c' : Addr), Room k (A.deeper (lamEnv X scope s.heap.objs.size f c')) → PE (lamX X A outer s H E scope f c') body (t E))
    (dx : (x == ("__debug__" : Str)) = false := by decide) (da : (a == ("__debug__" : Str)) = false := by decide) (dc : (a == ("__classdict__" : Str)) = false := by decide) :
    PE X (.Call (.Name x p) [.Lambda params body scope lpos] [] pos) (tLam T TT t) where
  run pins s σ H Q I h := by
    have lam := fun R => lam_make2 (E := X.xe) (pos := lpos) (params := params) (body := body) (Q := R) I TB xcode inT sole h.1 nod (L.has I.ok)
    refine wpAny_Call_Name_kw (ld_glob I gl mg (PySem.W.callWith_K (h₀ := X.base) I.ok.mod.kin kept ?_ (by rfl) (by rfl)) dx)
    refine Calls.spliced_cons (lam _ fun f c' pm ctv H1 s1 I1 eN T1 made free nofr co => Calls.spliced_nil ⟨I1.kIn, ?_⟩)
    have all : codeAny (model X.prog X.w) X.A (.call (.ref g) ⟨[.ref f], []⟩) (CR C8.CX0 X.stack X.prog X.w H1 s1 Q C8.E0) s1 :=
      run_ofS (N := N) (ps := [a]) (us := [.ref f]) (vs := [.ref f]) lk cd Sg room I1.env0 (bd s1 [.ref f] I1.kIn rfl) (.cons rfl .nil) rfl fun room1 =>
        tkr.walks s1 H1 f c' (fun E H' Q' => t E σ H' Q') Q (fun W pn xe p1 p2 tk => lam_act (tb := t) I1 L made free nofr (nob _ _ _ _ _) room1 tk (fun A outer s H E r => hb A outer s H E f c' r) n0 vis da dc) room1 co (h.2 H1 eN T1)
    refine wpAny_call (codeAny_mono all fun r s2 e => ?_)
    cases r with
    | error z => exact (show False from e).elim
    | ok fl =>
      cases fl with
      | ret u => exact I1.after e
      | _ => exact (show False from e).elim
end
end U
end

section
set_option Elab.async false
set_option linter.all false
set_option maxRecDepth 100000
set_option maxHeartbeats 4000000
/-! # U: a def that gets the exception that is handled, called in an except suite -/
namespace U
open PySem PySem.Spec PyProof.Rows L2 L2H
section
variable {P : Program} {w : World} {K : PySem.W.Frag} {mg : Str → Option Value} {base : Heap} {CX : CXT}
/-- such a def called at one state: its body in the context that bears the exception (as in the suite itself) -/
theorem held_called {k : Nat} {f : Addr} {name qual : Str} {params : Arguments} {body : List Stmt} {scope : Scope} {dV kV doc pm cdv ct oc : Value} {an od : Option Addr} {osl : Array (Option Value)} {N ps : List Str}
    (lk : K.lookup f = some ⟨oc, od, .func (PySem.W.fnOf name qual params body scope dV kV doc pm an cdv ct), osl⟩) (cd : PySem.W.codeIn K cdv qual = true) (S : FnScope N ps scope)
    {A : Around} {outer : List Env} {s : Shared} {H : Hp} {us : List Value} {vs : List V} {Q : VK} {E : XK} {p : Addr × Obj} (room : RoomH (k + 1) A) (pin : PinOk outer H s p) (e0 : Env0 P w K mg base A outer s H) (bd : BindsTo s (PySem.W.fnOf name qual params body scope dV kV doc pm an cdv ct) ⟨us, []⟩ (ps.zip us))
    (rv : Vals vs us) (len : vs.length = ps.length) (walks : RoomH k (A.deeper (envOfC qual scope s.heap.objs.size f cdv)) → ∃ t, PSs (cxH CX P w K mg base N qual scope f cdv A outer s H E p) body t ∧ t { nx := fun _ H' => Q .non H', rt := Q } (L2.start N vs) H) :
    codeAny (model P w) A (.call (.ref f) ⟨us, []⟩) (CR CX outer P w H s Q E) s := by
  have kin : K.In s.heap := e0.mod.kin.keeps fun b o e => (e0.bs b o e).1
  have nolim : s.heap.NoLimit := e0.mod.nolimit.keeps fun b o e => (e0.bs b o e).1
  rcases walks (room.deeper _) with ⟨t, ht, q⟩
  apply codeAny_call_function room.depth (kin _ _ lk) rfl S.co S.gen rfl (PySem.W.codeRec_of kin cd)
  apply bd
  apply wpAny_newFunctionEnv_cells S.kind
  · rintro ⟨y, v⟩ m
    have z := S.par y (List.of_mem_zip m).1
    exact z.imp id fun z => ⟨z, PySem.W.cellsFrom_some _ _ _ (.inl z)⟩
  · rintro _ rfl s1 into
    refine ⟨nolim.keeps into.toInCall.keep, codeAny_func (wpAny_mono (ht.run [] s1 (L2.start N vs) H _ (inv_startH S pin e0 len rv into) q) ?_ fun e s' z => z)⟩
    rintro fl s2 e
    cases fl with
    | ret u => rcases e with ⟨v, σ', H', J, ru, q⟩; exact ⟨v, H', J.os, J.bare, J.base, J.hok, ru, q⟩
    | next => rcases e with ⟨σ', H', J, q⟩; exact ⟨.non, H', J.os, J.bare, J.base, J.hok, rfl, q⟩
    | brk => rcases e with ⟨_, _, _, q⟩; exact q.elim
    | cont => rcases e with ⟨_, _, _, q⟩; exact q.elim
end
section
variable {X : Cx} {p : Addr × Obj} {k : Nat} {f : Addr} {x : Str} {q pos : Pos} {e : Expr} {params : Arguments} {body : List Stmt} {scope : Scope} {dV kV doc pm cdv ct oc : Value} {an od : Option Addr} {osl : Array (Option Value)} {N : List Str} {a : Str} {te : TE}
/-- f(e): nothing is raised there -/
theorem pe_held {t : V → Hp → VK → Prop} (in_ : p ∈ X.pn) (gl : Gl X x) (mg : X.mg x = some (.ref f)) (kept : PySem.W.keepIn X.K (.ref f) = true) (lk : X.K.lookup f = some ⟨oc, od, .func (PySem.W.fnOf x x params body scope dV kV doc pm an cdv ct), osl⟩) (cd : PySem.W.codeIn X.K cdv x = true) (S : FnScope N [a] scope)
    (bd : Binds X.K (PySem.W.fnOf x x params body scope dV kV doc pm an cdv ct) [a] []) (room : RoomH (k + 1) X.A) (he : PE X e te) (dx : (x == ("__debug__" : Str)) = false) (one : starEach [e] X.env = [(false, eval e X.env)])
    (walks : ∀ (s : Shared) (H : Hp) (v : V) (Q : VK), t v H Q → RoomH k (X.A.deeper (envOfC x scope s.heap.objs.size f cdv)) → ∃ u, PSs (cxH C8.CX0 X.prog X.w X.K X.mg X.base N x scope f cdv X.A X.stack s H C8.E0 p) body u ∧ u { nx := fun _ H' => Q .non H', rt := Q } (L2.start N [v]) H) :
    PE X (.Call (.Name x q) [e] [] pos) (fun σ H Q => te σ H fun v H1 => t v H1 Q) where
  run pins s σ H Q I h := by
    refine wpAny_Call_Name_kw (ld_glob I gl mg (PySem.W.callWith_K (h₀ := X.base) I.ok.mod.kin kept ?_ one (by rfl)) dx)
    rw [one]
    refine Calls.spliced_cons (thn (he.run pins s σ H _ I h) ?_)
    rintro u s1 ⟨v, H1, I1, r, h1⟩
    refine Calls.spliced_nil ⟨I1.kIn, ?_⟩
    have there := I1.pin p (List.mem_append_left _ in_)
    have pin : PinOk X.stack H1 s1 p := ⟨there.1, there.2.1, fun m => (List.mem_cons.mp (I1.stkSub p.1 m)).elim there.2.2.1 there.2.2.2.1, there.2.2.2.2⟩
    have all := held_called (CX := C8.CX0) (E := C8.E0) (Q := Q) lk cd S room pin I1.env0 (bd s1 [u] I1.kIn rfl) (.cons r .nil) rfl (walks s1 H1 v Q h1)
    refine wpAny_call (codeAny_mono all fun res s2 z => ?_)
    cases res with
    | error y => exact (show False from z).elim
    | ok fl =>
      cases fl with
      | ret y => exact I1.after z
      | _ => exact (show False from z).elim
end
/-! ### readings -/
section
variable {σ : L2.St} {H : Hp} {Q : VK} {K : PySem.W.Frag} {ta tb : TE}
theorem i_cat {l b : Addr} {xs zs : List V} (h1 : H l = some (.lst xs)) (h2 : H b = some (.lst zs)) (z : xs.length + zs.length ≤ sizeLine) (q : ∀ p, H p = none → Q (.ref p) (upd H p (.lst (xs ++ zs)))) : rCat (.ref l) (.ref b) H Q := ⟨l, b, xs, zs, rfl, rfl, h1, h2, z, q⟩
theorem i_isE {D a C : Addr} {b : Bool} (e : PySem.W.kitOne K (.ref D) (.ref C) = some b) (q : Q (.bl b) H) : rIsE K D a [.ref a, .ref C] H Q := ⟨.ref C, .ref C, b, rfl, fun _ r => r, e, q⟩
theorem i_pick {te : TE} (q : te σ H fun x H1 => ∃ p ws, x = .ref p ∧ Pairs K H1 p ws ∧ ∀ r, H1 r = none → Q (.ref r) (upd H1 r (.lst (picked ws)))) : tPick K te σ H Q := q
/-- one pair laid, told by its text and its truth value -/
def Pr (H : Hp) (x : V) (w : Str × Bool) : Prop := ∃ t, x = .ref t ∧ H t = some (.tup [.str w.1, .bl w.2])
inductive Prs (H : Hp) : List V → List (Str × Bool) → Prop
  | nil : Prs H [] []
  | cons {x w xs ws} : Pr H x w → Prs H xs ws → Prs H (x :: xs) (w :: ws)
theorem Prs.con {t : Addr} {a : Str} {b : Bool} {xs : List V} {ws : List (Str × Bool)} (h : H t = some (.tup [.str a, .bl b])) (r : Prs H xs ws) : Prs H (.ref t :: xs) ((a, b) :: ws) := .cons ⟨t, rfl, h⟩ r
theorem Prs.append {xs zs : List V} {ws us : List (Str × Bool)} (a : Prs H xs ws) (b : Prs H zs us) : Prs H (xs ++ zs) (ws ++ us) := by
  induction a with
  | nil => exact b
  | cons p _ ih => exact .cons p ih
theorem Prs.same {H' : Hp} {xs : List V} {ws : List (Str × Bool)} (s : Same H H') (a : Prs H xs ws) : Prs H' xs ws := by
  induction a with
  | nil => exact .nil
  | cons p _ ih => exact .cons (p.elim fun t q => ⟨t, q.1, s _ _ q.2⟩) ih
theorem Prs.len {xs : List V} {ws : List (Str × Bool)} (a : Prs H xs ws) : xs.length = ws.length := by
  induction a with
  | nil => rfl
  | cons _ _ ih => simp [ih]
theorem Prs.at {xs : List V} {ws : List (Str × Bool)} (a : Prs H xs ws) : ∀ (i : Nat) (w : Str × Bool), ws[i]? = some w → ∃ t, xs[i]? = some (.ref t) ∧ H t = some (.tup [.str w.1, .bl w.2]) := by
  induction a with
  | nil => intro i w h; simp at h
  | cons p _ ih =>
    intro i w h
    cases i with
    | zero =>
      rcases p with ⟨t, rfl, k⟩
      cases Option.some.inj h
      exact ⟨t, rfl, k⟩
    | succ i => exact ih i w h
theorem Prs.pairs {p : Addr} {xs : List V} {ws : List (Str × Bool)} (a : Prs H xs ws) (h : H p = some (.lst xs)) : Pairs K H p ws := ⟨xs, SqL.of h, a.len, a.at⟩
def words (ws : List (Str × Bool)) : List Str := (ws.filter (·.2)).map (·.1)
theorem picked_words (ws : List (Str × Bool)) : picked ws = (words ws).map V.str := by unfold picked words; rw [List.map_map]; rfl
theorem lens_le (ws : List (Str × Bool)) : ((words ws).map (·.length)).sum ≤ ((ws.map (·.1)).map (·.length)).sum ∧ (words ws).length ≤ ws.length := by
  induction ws with
  | nil => exact ⟨Nat.le_refl _, Nat.le_refl _⟩
  | cons w ws ih =>
    unfold words at ih ⊢
    cases e : w.2 <;> simp only [List.filter_cons, e, if_true, Bool.false_eq_true, if_false, List.map_cons, List.sum_cons, List.length_cons] <;> omega
/-! ### values of one shape on both sides -/
theorem i_isi {K : PySem.W.Frag} {x : V} {t n : String} {b : Bool} (ty : TyX K H x (.type t)) (e : kitB t n = some b) (q : Q (.bl b) H) : rIsi K [x, .ty n] H Q := ⟨x, .ty n, _, _, b, rfl, .ty n, ty, kit_ty e, q⟩
/-- plain data, as a value of the heap: numbers, texts, None, lists and tuples of them, no deeper than n -/
inductive Dt (H : Hp) : Nat → V → V → Prop
  | non {n} : Dt H n .non .non
  | int {n} (i : Int) : Dt H n (.int i) (.int i)
  | str {n} (s : Str) : Dt H n (.str s) (.str s)
  | bl {n} (b : Bool) : Dt H n (.bl b) (.bl b)
  | lst {n a b xs ys} : H a = some (.lst xs) → H b = some (.lst ys) → xs.length = ys.length → xs.length < 1000 → (∀ (i : Nat) x y, xs[i]? = some x → ys[i]? = some y → Dt H n x y) → Dt H (n + 1) (.ref a) (.ref b)
  | tup {n a b xs ys} : H a = some (.tup xs) → H b = some (.tup ys) → xs.length = ys.length → xs.length < 1000 → (∀ (i : Nat) x y, xs[i]? = some x → ys[i]? = some y → Dt H n x y) → Dt H (n + 1) (.ref a) (.ref b)
theorem Dt.same {H H' : Hp} {n : Nat} {x y : V} (s : Same H H') (d : Dt H n x y) : Dt H' n x y := by
  induction d with
  | non => exact .non
  | int i => exact .int i
  | str t => exact .str t
  | bl b => exact .bl b
  | lst h1 h2 l z _ ih => exact .lst (s _ _ h1) (s _ _ h2) l z ih
  | tup h1 h2 l z _ ih => exact .tup (s _ _ h1) (s _ _ h2) l z ih
theorem i_andV (q : ta σ H fun x H1 => ∃ c, x = .bl c ∧ if c = true then tb σ H1 Q else Q (.bl false) H1) : tAndV ta tb σ H Q := q
theorem i_notV (q : ta σ H fun x H1 => ∃ c, x = .bl c ∧ Q (.bl (!c)) H1) : tNotV ta σ H Q := q
theorem i_truth {c : Bool} {R : Bool → Prop} (q : R c) : ∃ c', V.bl c = .bl c' ∧ R c' := ⟨c, rfl, q⟩
theorem i_isNn {x : V} {b : Bool} (e : decide (x = V.non) = b) (q : Q (.bl b) H) : V.non = V.non ∧ Q (.bl (decide (x = .non))) H := ⟨rfl, by rw [e]; exact q⟩
theorem iteT' {A B : Prop} (q : A) : if true = true then A else B := by rw [if_pos rfl]; exact q
theorem iteF' {A B : Prop} (q : B) : if false = true then A else B := by rw [if_neg Bool.false_ne_true]; exact q
theorem i_isiT {K : PySem.W.Frag} {x : V} {t n : String} (ty : TyX K H x (.type t)) (e : kitB t n = some true) (q : Q (.bl true) H) : rIsi K [x, .ty n] H Q := i_isi ty e q
theorem i_isiF {K : PySem.W.Frag} {x : V} {t n : String} (ty : TyX K H x (.type t)) (e : kitB t n = some false) (q : Q (.bl false) H) : rIsi K [x, .ty n] H Q := i_isi ty e q
theorem i_isNT {x : V} (e : x = V.non) (q : Q (.bl true) H) : rIsN x .non H Q := i_isNn (decide_eq_true e) q
theorem i_isNF {x : V} (e : x ≠ V.non) (q : Q (.bl false) H) : rIsN x .non H Q := i_isNn (decide_eq_false e) q
theorem i_neBB {b : Bool} (q : Q (.bl false) H) : rNe (.bl b) (.bl b) H Q := ⟨rfl, by rw [decide_eq_true rfl]; exact q⟩
theorem i_eqBB {b : Bool} (q : Q (.bl true) H) : rEq (.bl b) (.bl b) H Q := ⟨rfl, by rw [decide_eq_true rfl]; exact q⟩
theorem i_eqSS {t : Str} (q : Q (.bl true) H) : rEq (.str t) (.str t) H Q := ⟨rfl, by rw [decide_eq_true rfl]; exact q⟩
theorem i_eqII {i : Int} (q : Q (.bl true) H) : rEq (.int i) (.int i) H Q := ⟨rfl, by rw [decide_eq_true rfl]; exact q⟩
/-- a statement and what follows it, shown once for all ends of the statement -/
theorem i_seqK {t u : TS} {D : Ends} (R : L2.St → Hp → Prop) (rest : ∀ σ' H', R σ' H' → u D σ' H') (q : (∀ σ' H', R σ' H' → u D σ' H') → t { D with nx := u D } σ H) : tSeq t u D σ H := q rest
end
end U
end

section
set_option Elab.async false
set_option linter.all false
set_option maxRecDepth 100000
set_option maxHeartbeats 4000000
/-! # U: more readings; plain data side by side; heaps that grow but for their tables -/
namespace U
open PySem L2 LamX
section
variable {σ : L2.St} {H H1 H2 : Hp} {Q : VK} {K : PySem.W.Frag} {ta tb tc : TE}
/-- 0 <= x < y, all of them at hand -/
theorem i_chLL {a b : Nat} {i j k : Int} (hj : σ[a]? = some (some (.int j))) (hk : σ[b]? = some (some (.int k))) (q : Q (.bl (decide (i ≤ j ∧ j < k))) H) : tChain rLe rLt (tC (.int i)) (tVar a) (tVar b) σ H Q := by
  refine i_chain (i_c (i_var hj (i_le (i_bl ?_))))
  by_cases h : i ≤ j
  · rw [decide_eq_true h, if_pos rfl]
    refine i_var hk (i_lt ?_)
    rw [show decide (j < k) = decide (i ≤ j ∧ j < k) by simp [h]]
    exact q
  · rw [decide_eq_false h, if_neg Bool.false_ne_true]
    rw [show (false : Bool) = decide (i ≤ j ∧ j < k) by simp [h]]
    exact q
/-- a and b, both truth values -/
theorem i_andP {P R : Prop} {_ : Decidable P} {_ : Decidable R} {te : TE} (h : te σ H fun y H' => y = .bl (decide R) ∧ Q (.bl (decide (P ∧ R))) H') (n : ¬ P → Q (.bl (decide (P ∧ R))) H) : ∃ c, V.bl (decide P) = .bl c ∧ if c = true then te σ H (fun y H' => y = .bl (decide R) ∧ Q (.bl (decide (P ∧ R))) H') else Q (.bl (decide (P ∧ R))) H := by
  refine ⟨_, rfl, ?_⟩
  by_cases z : P
  · rw [if_pos (decide_eq_true z)]; exact h
  · rw [if_neg (by rw [decide_eq_false z]; exact Bool.false_ne_true)]; exact n z
theorem i_lam {T : List (Addr × Str)} {TT : (XK → Hp → VK → Prop) → Hp → VK → Prop} {t : XK → TE} (h : Tabs T H) (q : ∀ H1, ExtN H H1 → Tabs T H1 → TT (fun E H' Q' => t E σ H' Q') H1 Q) : tLam T TT t σ H Q := ⟨h, q⟩
theorem ExtN.of_same (s : Same H H1) : ExtN H H1 := fun b o h _ => s b o h
theorem ne_of_get {a b : Addr} {o u : HO} (h : H a = some o) (g : H b = some u) (n : o ≠ u) : a ≠ b := fun e => by
  rw [e, g] at h
  exact n (Option.some.inj h).symm
theorem ExtN.lst {a : Addr} {xs : List V} (e : ExtN H H1) (h : H a = some (.lst xs)) : H1 a = some (.lst xs) := e _ _ h fun _ z => nomatch z
theorem ExtN.tup {a : Addr} {xs : List V} (e : ExtN H H1) (h : H a = some (.tup xs)) : H1 a = some (.tup xs) := e _ _ h fun _ z => nomatch z
theorem ExtN.ins {a C dx : Addr} {fs : List (Str × V)} (e : ExtN H H1) (h : H a = some (.ins C dx fs)) : H1 a = some (.ins C dx fs) := e _ _ h fun _ z => nomatch z
/-- a statement and what follows it; what follows is not seen within -/
theorem i_seqG {D : Ends} {t u : TS} (R : L2.St → Hp → Prop) (rest : ∀ σ' H', R σ' H' → u D σ' H') (q : ∀ N : L2.St → Hp → Prop, (∀ σ' H', R σ' H' → N σ' H') → t { D with nx := N } σ H) : tSeq t u D σ H := q _ rest
/-- an expression and what follows it, likewise -/
theorem i_cutG {te : TE} (P : V → Hp → Prop) (rest : ∀ x H', P x H' → Q x H') (q : ∀ Q' : VK, (∀ x H', P x H' → Q' x H') → te σ H Q') : te σ H Q := q _ rest
/-! plain data, side by side -/
inductive Dts (H : Hp) (n : Nat) : List V → List V → Prop
  | nil : Dts H n [] []
  | cons {x y xs ys} : Dt H n x y → Dts H n xs ys → Dts H n (x :: xs) (y :: ys)
theorem Dts.len {n : Nat} {xs ys : List V} (d : Dts H n xs ys) : xs.length = ys.length := by
  induction d with
  | nil => rfl
  | cons _ _ ih => simp [ih]
theorem Dts.get {n : Nat} {xs ys : List V} (d : Dts H n xs ys) : ∀ (i : Nat) x y, xs[i]? = some x → ys[i]? = some y → Dt H n x y := by
  induction d with
  | nil => intro i x y h; simp at h
  | cons d _ ih =>
    intro i x y h g
    cases i with
    | zero =>
      cases Option.some.inj h
      cases Option.some.inj g
      exact d
    | succ i => exact ih i x y h g
theorem Dts.lst {n : Nat} {a b : Addr} {xs ys : List V} (h1 : H a = some (.lst xs)) (h2 : H b = some (.lst ys)) (d : Dts H n xs ys) (l : xs.length < 1000) : Dt H (n + 1) (.ref a) (.ref b) := .lst h1 h2 d.len l d.get
theorem Dts.tup {n : Nat} {a b : Addr} {xs ys : List V} (h1 : H a = some (.tup xs)) (h2 : H b = some (.tup ys)) (d : Dts H n xs ys) (l : xs.length < 1000) : Dt H (n + 1) (.ref a) (.ref b) := .tup h1 h2 d.len l d.get
end
end U
namespace LamX
open PySem L2
/-- what the end asks of a law with one table -/
def LawAtS' (P : Program) (w : World) (K : PySem.W.Frag) (CX : World → CXT) (k : Nat) (fa : Addr) (h : Heap) (mg : Str → Option Value) (Pt c : Addr) (sp : Sp) : Prop :=
  ∃ fd : FuncData, h.get? Pt = some { cls := .none, data := .fields #[] } ∧ K.lookup Pt = none ∧ PySem.W.CodeHd h c Pt ∧ (∀ (s : Shared) (v : Value), BindsTo s fd ⟨[v], []⟩ [("_law_script", v)]) ∧
    ∀ base : Heap, K.In base → base.Ns mainGlobals mg → TabB base mg c Pt → FnOk P w K mg base (CX w) k fa fd ["_law_script"] sp
end LamX
end

section
set_option Elab.async false
set_option linter.all false
set_option maxRecDepth 100000
set_option maxHeartbeats 4000000
/-! # UQ: own exceptions with an __init__ that stores one field, over any built-in class -/
namespace U
open PySem L2 PySem.Spec PyProof.Rows
/-- what the written part says of such a class -/
structure OexB (K : PySem.W.Frag) (C : Addr) : Prop where
  how : ∃ (bmB : List Value) (B newId initId : String), ExcBaseFacts B newId initId bmB ∧ PySem.StoreFacts B bmB "object.__setattr__" "object" ∧ PySem.W.excInitIn K C bmB newId = true ∧ PySem.W.excOver K C bmB = true
  own : PySem.W.hasDictIn K C = true
  put : PySem.W.findIn K (.ref C) "__setattr__" = some (some (.builtin "object.__setattr__"))
  isE : PySem.W.subIn K (.ref C) (.type "BaseException") = some true
  isT : PySem.W.typeIn K (.ref C) = some (.type "type")
  stay : PySem.W.keepIn K (.ref C) = true
section
variable {X : Cx} {pins : List (Addr × Obj)} {σ : L2.St} {H : Hp} {s : Shared} {a C : Addr} {f : Str} {y : V} {u : Value} {Q : Unit → Shared → Prop} {E : Value → Shared → Prop} {A : Around}
/-- the first field of a new exception -/
theorem ostB (T : OexB X.K C) (I : Inv X pins σ H s) (e : H a = some (exo a C none)) (no : PySem.W.findIn X.K (.ref C) f = some none) (ry : RelV y u)
    (q : ∀ dx s', H dx = none → dx ≠ a → Inv X pins σ (upd (upd H dx (exd dx [(f, y)])) a (exo a C (some dx))) s' → Q () s') : wpAny (model X.prog X.w) A (setAttr (.ref a) f u) Q E s := by
  obtain ⟨bmB, B, newId, initId, -, SF, -, over⟩ := T.how
  obtain ⟨t1, at1⟩ := exo_at I.hok e
  have dict : ∃ cd, PySem.W.clsIn X.K C = some cd ∧ cd.hasDict = true := by
    have h := T.own
    unfold PySem.W.hasDictIn at h
    cases z : PySem.W.clsIn X.K C with
    | none => rw [z] at h; cases h
    | some cd => rw [z] at h; exact ⟨cd, rfl, h⟩
  obtain ⟨cd, ecd, hd⟩ := dict
  have J0 := I.kIn
  have took : PySem.W.takerIn X.K C f = some none := by unfold PySem.W.takerIn; rw [no]; rfl
  refine PySem.W.set_plain J0 (od := none) ⟨at1, rfl, rfl, trivial⟩ T.put ?_
  refine PySem.W.osa_openX SF J0 (od := none) ⟨at1, rfl, rfl, trivial⟩ over took fun b => ?_
  have look := PySem.W.looks_clsIn (M := model X.prog X.w) J0 ecd
  rcases cd with ⟨c1, c2, c3, c4, c5, c6, c7, c8, c9, c10, c11⟩
  cases hd
  have lt := Heap.lt_size at1
  have far : a ≠ s.heap.objs.size := Nat.ne_of_lt lt
  show wpAny _ _ (Builtin.ObjectAttr.storeInOwnDict (.ref a) (.ref C) (.str f s.toks) f u b) _ _ _
  unfold Builtin.ObjectAttr.storeInOwnDict Builtin.ObjectAttr.ownDictForStores
  repeat' first
    | (with_reducible refine look.at ?_)
    | (with_reducible refine wpAny_loadPart_at at1 ?_)
    | (with_reducible refine HandSPX.store_in_new ?new ?go)
    | wp_step
  case new =>
    have there : ((s.heap.push { cls := .type "dict", data := .dict #[] }).update a fun o => { o with dict := some s.heap.objs.size }).get? s.heap.objs.size = some { cls := .type "dict", data := .dict #[] } :=
      (Heap.get?_update_other _ _ far).trans (Heap.get?_push_at rfl rfl)
    exact ⟨_, #[], _, there, rfl, fun _ m => absurd m (by simp), fun _ => rfl⟩
  case go =>
    intro h' tk' fill rest
    show Q () _
    have ata : h'.get? a = some { cls := .ref C, dict := some s.heap.objs.size, data := .fields #[.ref t1, .none, .none, .none, .bool false, .none] } :=
      (rest.2 a far).trans (Heap.get?_update_self _ (Heap.get?_push_of_some _ at1) rfl)
    have grow : ∀ b o, b ≠ a → s.heap.get? b = some o → h'.get? b = some o := fun b o nb eb =>
      (rest.2 b (Nat.ne_of_lt (Heap.lt_size eb))).trans ((Heap.get?_update_other _ _ nb.symm).trans (Heap.get?_push_of_some _ eb))
    obtain ⟨oD, _, _, atD, isD, _⟩ := id fill
    have free : oD.isFreed = false := by
      rcases oD with ⟨_, _, dat, _⟩
      cases isD
      rfl
    have J1 : Inv X pins σ (upd H s.heap.objs.size (exd s.heap.objs.size [(f, y)])) ⟨s.heap.push oD, s.gens, s.drawn, tk', s.os⟩ := by
      refine I.laid (fun b v eb => Heap.get?_push_of_some _ eb) (Nat.le_refl _) (exd_ok (fill.at fun o eo => ?_) (relO_put (fs := []) (mA := fun _ => none) ry fun _ => ?_))
      · rw [atD] at eo
        cases eo
        exact Heap.get?_push_at rfl free
      · exact trivial
    have J2 : Inv X pins σ (upd (upd H s.heap.objs.size (exd s.heap.objs.size [(f, y)])) a (exo a C (some s.heap.objs.size))) ⟨h', s.gens, s.drawn, tk', s.os⟩ := by
      refine J1.write (x := a) (e := a) ?_ (.inl rfl) (fun b v nb eb => ?_) ⟨_, ata⟩ (exo_ok ata)
      · rw [upd_ne far, e]
        exact True.intro
      · rcases Heap.get?_push_cases eb with ⟨rfl, rfl⟩ | eb
        · exact atD
        · exact grow b v nb eb
    exact q _ _ (I.hok.fresh (Nat.le_refl _)) far.symm J2
end
/-- self.f = e, the exception's first field -/
def tOstB (K : PySem.W.Frag) (f : Str) (to te : TE) : TS := fun D σ H => te σ H fun y H1 => to σ H1 fun x H2 => ∃ a C : Addr, x = .ref a ∧ OexB K C ∧ PySem.W.findIn K (.ref C) f = some none ∧ H2 a = some (exo a C none) ∧
  ∀ dx, H2 dx = none → dx ≠ a → D.nx σ (upd (upd H2 dx (exd dx [(f, y)])) a (exo a C (some dx)))
section
variable {X : Cx} {o e : Expr} {es : List Expr} {to te : TE} {ta : TA} {f : Str} {p p' pos pos2 : Pos}
theorem ps_ostB (ho : PE X o to) (he : PE X e te) (hs : swapsWith e (some (.Attribute o f p')) pos.line X.env = pure false := by rfl) : PS X (.Assign [.Attribute o f p'] e pos) (tOstB X.K f to te) where
  run pins s σ H D I h := plainObj_wpAny_Assign_Attribute (thn (he.run pins s σ H _ I h) fun _ s1 ⟨_, H1, I1, r1, q1⟩ => thn (ho.run pins s1 σ H1 _ I1 q1) fun u _ ⟨_, _, I2, r2, a, C, ex, T, no, ea, q⟩ => by
    cases ex
    cases (show u = Value.ref a from r2)
    exact ostB T I2 ea no r1 fun dx _ n ne J => ⟨σ, _, J, q dx n ne⟩) hs
/-- C(e, ..) of such a class -/
theorem pmk_oexB {CX : CXT} {x : Str} {C fI : Addr} {k : Nat} {fd : FuncData} {ps : List Str} {sp : Sp} {ds : List Value} {dvs : List V} (T : OexB X.K C) (iC : PySem.W.findIn X.K (.ref C) "__init__" = some (some (.ref fI))) (tI : PySem.W.typeIn X.K (.ref fI) = some (.type "function"))
    (F : FnOk X.prog X.w X.K X.mg X.base CX k fI fd ps sp) (room : Room (k + 1) X.A) (hb : Binds X.K fd ps ds) (hd : Vals dvs ds) (hx : Passes CX X (fun _ _ _ => False)) (hg : Gl X x) (hm : X.mg x = some (.ref C)) (ha : PA X (e :: es) ta)
    (nd : (x == ("__debug__" : Str)) = false := by decide) (he : starEach (e :: es) X.env = (false, eval e X.env) :: starEach es X.env := by rfl) (hpl : (backTo pos (starEach es X.env)).any (·.1) = false := by rfl) :
    L2N.PMk X (.Call (.Name x p) (e :: es) [] pos) (tMkO C sp dvs ta) := fun pins s σ H Q I h => by
  obtain ⟨bmB, B, newId, initId, FB, -, new, -⟩ := T.how
  refine wpAny_Call_Name_kw (ld_glob I hg hm (PySem.W.callWith_K (h₀ := X.base) I.ok.mod.kin T.stay (thn (ha.run pos pins s σ H _ I h) fun us s1 ⟨vs, H1, I1, r1, hz, q1⟩ => ⟨I1.kIn, ?_⟩) he hpl) nd)
  obtain ⟨nm, N, qn, bs, bm, own, sn, sub, ab, col, dd, k0, k1, k2, k3, k5, atC, names⟩ := PySem.W.excInit_of I1.kIn new
  rcases s1 with ⟨hp, g, dr, tk, os⟩
  rw [List.nil_append]
  let z : Addr := hp.objs.size + 1
  let h2 : Heap := (hp.push (PySem.W.kdv_tup us)).push (PySem.HandSPX.excO C hp.objs.size)
  have le : hp.objs.size ≤ z := Nat.le_succ _
  have hn : H1 z = none := I1.hok.fresh le
  have grow : ∀ b o, hp.get? b = some o → h2.get? b = some o := fun b o eb => Heap.get?_push_of_some _ (Heap.get?_push_of_some _ eb)
  have atz : h2.get? z = some (PySem.HandSPX.excO C hp.objs.size) := by
    show ((hp.push (PySem.W.kdv_tup us)).push (PySem.HandSPX.excO C hp.objs.size)).get? (hp.objs.size + 1) = _
    exact Heap.get?_push_at (Heap.size_push _ _).symm rfl
  have I2 : Inv X pins σ (upd H1 z (exo z C none)) ⟨h2, g, dr, tk, os⟩ := I1.laid grow le (exo_ok atz)
  have r2 : Vals (V.ref z :: (vs ++ dvs)) (Value.ref z :: (us ++ ds)) := .cons rfl (r1.append hd)
  have len : (Value.ref z :: us ++ ds).length = ps.length := by
    have e := r2.length
    rw [F.len _ _ _ _ (q1 z hn)] at e
    exact e.symm
  have short : us.length ≤ sizeLine := Nat.le_trans (Nat.le_of_eq (Paired.length r1).symm) (Nat.le_trans hz (by rw [sizeLine_eq]; decide))
  have walk := F.run _ X.stack _ _ ⟨Value.ref z :: us, []⟩ (Value.ref z :: (us ++ ds)) _ _ (fun _ _ _ => False) (room.make C us []) (I2.env0.make C us []) (hb _ (Value.ref z :: us) I2.kIn len) r2 (q1 z hn)
  refine wpAny_call (PySem.HandSPX.call_own FB names atC (PySem.W.looks_findIn I1.kIn iC) (fun self => PySem.W.bind_fn I1.kIn self tI) short (codeAny_mono walk fun r s' out => ?_))
  cases r with
  | error er => exact hx pins σ _ _ er s' I2 out
  | ok fl =>
   cases fl with
   | ret u =>
    obtain ⟨v, H2, os2, bare, un, hok2, rv, ev, d, fs, ea, ed, free, q2⟩ := out
    cases ev
    rcases s' with ⟨h3, g3, d3, t3, os3⟩
    obtain ⟨t0, G, J, kG, ge, hoe, na⟩ := mk_end0 (d2 := d3) (t2 := t3) I1 le grow un hok2 os2 bare ea ed free
    exact ⟨rv, z, _, _, ⟨G, g3, d3, t3, os3⟩, _, .ref C, some d, rfl, J, kG, ge, hoe, ⟨rfl, rfl, fun vs e => by cases e; rfl⟩, rfl, rfl, na, rfl, bare, raises_own T.isE T.isT, q2⟩
   | next => exact out.elim
   | brk => exact out.elim
   | cont => exact out.elim
theorem i_mkO {C : Addr} {sp : Sp} {dvs : List V} {σ : L2.St} {H : Hp} {Q : XK} (q : ta σ H fun vs H1 => vs.length ≤ 1000 ∧ ∀ a, H1 a = none → sp (.ref a :: (vs ++ dvs)) (upd H1 a (exo a C none))
  (fun v H2 => v = .non ∧ ∃ (d : Addr) (fs : List (Str × V)), H2 a = some (exo a C (some d)) ∧ H2 d = some (exd d fs) ∧ H1 d = none ∧ Q (.ref C) (some d) (upd (del H2 a) d (.xd fs))) (fun _ _ _ => False)) : tMkO C sp dvs ta σ H Q := q
end
/-- what such an __init__ of one field promises -/
def spExI (C : Addr) (f : Str) : Sp := fun vs H Q _ => ∃ (a : Addr) (v : V), vs = [.ref a, v] ∧ H a = some (exo a C none) ∧ ∀ d, H d = none → d ≠ a → Q .non (upd (upd H d (exd d [(f, v)])) a (exo a C (some d)))
theorem mkB {C : Addr} {f : Str} {v : V} {H : Hp} {W : XK} (q : ∀ d H', H d = none → Same H H' → H' d = some (.xd [(f, v)]) → W (.ref C) (some d) H') :
    [v].length ≤ 1000 ∧ ∀ a, H a = none → spExI C f (.ref a :: ([v] ++ [])) (upd H a (exo a C none))
      (fun v H2 => v = .non ∧ ∃ (d : Addr) (fs : List (Str × V)), H2 a = some (exo a C (some d)) ∧ H2 d = some (exd d fs) ∧ H d = none ∧ W (.ref C) (some d) (upd (del H2 a) d (.xd fs))) (fun _ _ _ => False) := by
  refine ⟨by simp, fun a na => ⟨a, v, rfl, upd_same, fun d hd ne => ?_⟩⟩
  rw [upd_ne ne] at hd
  refine ⟨rfl, d, _, upd_same, (upd_ne ne).trans upd_same, hd, q d _ hd (fun b o e => ?_) upd_same⟩
  have n1 : b ≠ d := fun z => by rw [z, hd] at e; cases e
  have n2 : b ≠ a := fun z => by rw [z, na] at e; cases e
  rw [upd_ne n1, del_ne n2, upd_ne n2, upd_ne n1, upd_ne n2]
  exact e
/-- the reading of self.f = e in such an __init__ -/
theorem i_ostB {K : PySem.W.Frag} {f : Str} {to te : TE} {D : L2.Ends} {σ : L2.St} {H : Hp} (q : te σ H fun y H1 => to σ H1 fun x H2 => ∃ a C : Addr, x = .ref a ∧ OexB K C ∧ PySem.W.findIn K (.ref C) f = some none ∧ H2 a = some (exo a C none) ∧
  ∀ dx, H2 dx = none → dx ≠ a → D.nx σ (upd (upd H2 dx (exd dx [(f, y)])) a (exo a C (some dx)))) : tOstB K f to te D σ H := q
/-- such a class, its __init__ and what the module calls it -/
structure EIa (K : PySem.W.Frag) (mg : Str → Option Value) (x : Str) (C : Addr) (g q : Str) (st : Stmt) (ps : List Str) : Prop where
  ex : ∃ (f : Addr) (fd : FuncData), FunA K "__init__" q st [] [] f fd ∧ OexB K C ∧ PySem.W.findIn K (.ref C) "__init__" = some (some (.ref f)) ∧ PySem.W.typeIn K (.ref f) = some (.type "function") ∧ mg x = some (.ref C) ∧ BD K fd ps []
  own : OexB K C
  no : PySem.W.findIn K (.ref C) g = some none
structure El (P : Program) (w : World) (K : PySem.W.Frag) (mg : Str → Option Value) (base : Heap) (x : Str) (C : Addr) (g : Str) : Prop where
  ex : ∃ (f : Addr) (fd : FuncData) (ps : List Str), FnOk P w K mg base (L2N.CX P w) 1 f fd ps (spExI C g) ∧ OexB K C ∧ PySem.W.findIn K (.ref C) "__init__" = some (some (.ref f)) ∧ PySem.W.typeIn K (.ref f) = some (.type "function") ∧ mg x = some (.ref C) ∧ ∃ ds, Vals [] ds ∧ Binds K fd ps ds
section
variable {P : Program} {w : World} {K : PySem.W.Frag} {mg : Str → Option Value} {base : Heap}
theorem EIa.ok {x : Str} {C : Addr} {g q : Str} {st : Stmt} {a b : Str} (F : EIa K mg x C g q st [a, b]) (S : FnScope [a, b] [a, b] (defScope st))
    (hbody : ∀ (f : Addr) (cdv : Value) (A : Around) (outer : List Env) (s : Shared) (H : Hp) (E : XK), PSs (cxOf (L2N.CX P w) P w K mg base [a, b] q (defScope st) f cdv A outer s H E) (defBody st) (tOstB K g (tVar 0) (tVar 1))) : El P w K mg base x C g := by
  obtain ⟨f, fd, F1, o, i, t, m, bd⟩ := F.ex
  obtain ⟨ds, vd, hb⟩ := bd 0 (Nat.zero_le _)
  refine ⟨f, fd, [a, b], F1.ok S (fun vs H Q E h => ?_) (fun cdv A outer s H vs Q E _ h => ⟨_, hbody f cdv A outer s H E, ?_⟩), o, i, t, m, ds, vd, hb⟩
  · obtain ⟨_, _, rfl, _⟩ := h
    rfl
  · obtain ⟨p, v, rfl, hp, k⟩ := h
    refine ⟨v, rfl, .ref p, rfl, p, C, rfl, o, F.no, hp, fun d hd ne => ?_⟩
    exact k d hd ne
end
section
variable {X : Cx} {e : Expr} {es : List Expr} {ta : TA} {p pos pos2 : Pos}
/-- raise C(e, ..) -/
theorem ps_raiseB {W : L2.WX} {x g : Str} {C fI : Addr} {fd : FuncData} {ps : List Str} {ds : List Value} (hc : X.calm = true) (tk : L2N.Takes X W) (T : OexB X.K C) (iC : PySem.W.findIn X.K (.ref C) "__init__" = some (some (.ref fI))) (tI : PySem.W.typeIn X.K (.ref fI) = some (.type "function"))
    (F : FnOk X.prog X.w X.K X.mg X.base (L2N.CX X.prog X.w) 1 fI fd ps (spExI C g)) (room : Room 2 X.A) (hb : Binds X.K fd ps ds) (hd : Vals [] ds) (hx : Passes (L2N.CX X.prog X.w) X (fun _ _ _ => False)) (hg : Gl X x) (hm : X.mg x = some (.ref C)) (ha : PA X (e :: es) ta)
    (nd : (x == ("__debug__" : Str)) = false := by decide) (he : starEach (e :: es) X.env = (false, eval e X.env) :: starEach es X.env := by rfl) (hpl : (backTo pos (starEach es X.env)).any (·.1) = false := by rfl) :
    PS X (.Raise (some (.Call (.Name x p) (e :: es) [] pos)) none pos2) (fun _ σ H => tMkO C (spExI C g) [] ta σ H fun cls d H' => W cls d σ H') := L2N.ps_raise hc tk (pmk_oexB T iC tI F room hb hd hx hg hm ha nd he hpl)
end
end U
end

section
set_option Elab.async false
set_option linter.all false
set_option maxRecDepth 100000
set_option maxHeartbeats 4000000
/-! # U: enumerate over anything that begins an iterator (here: a tuple) -/
namespace U
open PySem PySem.Spec PyProof.Rows L2
/-- the record that enumerate(v) makes over the iterator at k -/
def enumRec (k : Addr) : Obj := { cls := .type "enumerate", data := .fields #[.none, .bool false, .ref k, rawInt 0, .none, .none] }
def enumHeap (h : Heap) (o : Obj) : Heap := (h.push o).push (enumRec h.objs.size)
theorem enum_made {v : Value} {o : Obj} {G : Heap → Prop} (B : Begins v o G) :
    Meets (Builtin.«enumerate.__new__» ⟨[.type "enumerate", v], []⟩) (fun _ R s => G s.heap ∧ R (.ok (.ret (.ref (s.heap.push o).objs.size))) { s with heap := enumHeap s.heap o }) := by
  refine .of_wp ?_
  intro prog w A R s pre
  have g := pre.1
  have post := pre.2
  have sub := sub_enumerate
  have begin_ : ∀ {A₁ : Around} {E₁ Q₁ : Value → Shared → Prop}, Q₁ (.ref s.heap.objs.size) { s with heap := s.heap.push o } → wpAny (model prog w) A₁ (pyIter v) Q₁ E₁ s := fun z => B.iter prog w _ _ s _ g z
  wp_walk using begin_
  apply wpAny_stack_any
  intro frames
  apply wpAny_pure
  dsimp only
  repeat' split
  all_goals (wp_walk using begin_; exact ⟨_, rfl, post⟩)
section
variable {prog : Program} {w : World} {A : Around} {E : Value → Shared → Prop} {s : Shared}
/-- what enumerate(v) leaves: its record at the second new place, the iterator at the first -/
theorem enum_call {v : Value} {o : Obj} {G : Heap → Prop} {Q : Value → Shared → Prop} (B : Begins v o G) (g : G s.heap) (q : Q (.ref (s.heap.push o).objs.size) { s with heap := enumHeap s.heap o }) :
    wpAny (model prog w) A (call (.type "enumerate") [v]) Q E s :=
  callType_new F.called_enumerate (by decide) (F.typeCall_enumerate_1 v) (F.newCall_enumerate_1 v) (fun ob => F.args_object_init_2 ob v) F.entry_enumerate_new (enum_made B)
    ⟨g, ⟨enumRec s.heap.objs.size, Heap.get?_push_size (s.heap.push o) rfl, rfl⟩, q⟩
end
section
variable {X : Cx} {pins : List (Addr × Obj)} {σ : L2.St} {H : Hp} {s : Shared} {a e it : Addr} {i : Nat} {xs : List V}
/-- the tuple's objects at this state, one for each of its values -/
theorem tupAt (I : Inv X pins σ H s) (q : SqT X.K H a xs) : ∃ us : List Value, Vals xs us ∧ s.heap.IsTuple a us.toArray ∧ us.length = xs.length :=
  (I.tuple q).elim fun us p => ⟨us, p.1, p.2.1, p.1.length.symm⟩
/-- one more pair (place, value): a new tuple, laid and told -/
theorem pair_next {x : V} {z : Value} {E : Value → Shared → Prop} {elts : List Expr} {kk : Nat} {tp : Pos} (cool : X.A.handled = none) (I : Inv X pins σ H s) (ff : ∀ b ∈ [e, it], FpOk X pins H b)
    (re : IsEnum s.heap e it ((i : Nat) : Int) z) (ri : s.heap.IsTupleIter it a i) (d1 : e ≠ it) (d2 : a ≠ e) (d3 : a ≠ it) (q : SqT X.K H a xs) (at_ : xs[i]? = some x) :
    wpAny (model X.prog X.w) X.A (pyNext (.ref e)) (fun r s1 => ∃ u, r = some u ∧ wpAny (model X.prog X.w) X.A (letOwnedTupleGo (.Tuple elts kk tp) (.ref e) u) (fun _ s2 =>
      ∃ T, u = .ref T ∧ H T = none ∧ Inv X pins σ (upd H T (.tup [.int (i : Nat), x])) s2 ∧ (∃ z', IsEnum s2.heap e it ((i + 1 : Nat) : Int) z') ∧ s2.heap.IsTupleIter it a (i + 1) ∧ ∀ b ∈ [e, it], b ≠ T) E s1) E s := by
  rcases tupAt I q with ⟨us, vu, isT, len⟩
  rcases vu.get at_ with ⟨u, au, ru⟩
  have room : i < us.toArray.size := by
    rw [List.size_toArray]
    exact (List.getElem?_eq_some_iff.mp au).1
  have old : e < s.heap.objs.size ∧ it < s.heap.objs.size := ⟨Heap.lt_size re, ri.elim fun _ p => Heap.lt_size p.1⟩
  apply wpAny_pyNext_enum_itemD (PySem.Draws.tuple (w := X.w) (A := X.A.in1) cool it a d3 us.toArray) re ⟨ri, isT⟩ room d1
  · intro m
    rcases List.mem_cons.mp m with m | m
    · exact d1 m
    · exact d2 (List.mem_singleton.mp m).symm
  · intro u' g tk pu out st pair _ kept
    have same_u : u' = u := by
      have k : us[i]? = some u' := by simpa using pu
      exact Option.some.inj (k.symm.trans au)
    subst same_u
    refine ⟨_, rfl, ?_⟩
    apply wpAny_letOwnedTupleGo_enum (s := { s with heap := g, toks := tk + 1 }) out
    intro g2 re2 but
    have there : g2.get? s.heap.objs.size = some { cls := .type "tuple", data := .seq #[.int i tk, u'] } := (but.2 _ (Nat.ne_of_gt old.1)).trans pair
    refine ⟨s.heap.objs.size, rfl, I.hok.fresh (Nat.le_refl _), ?_, ⟨u', ?_⟩, st.1.at fun o w => (but.2 it d1.symm).trans w, ?_⟩
    · refine I.turnedNew (ch := [e, it]) ?_ ff (Nat.le_refl _) ⟨?_, [.int i tk, u'], .cons ⟨tk, rfl⟩ (.cons ru .nil), _, there, rfl, 0, rfl⟩
      · intro b o nb w
        have nbe : b ≠ e := fun y => nb (y ▸ List.mem_cons_self)
        have nbi : b ≠ it := fun y => nb (y ▸ List.mem_cons_of_mem _ List.mem_cons_self)
        exact (but.2 b nbe).trans (kept b o nbe nbi w)
      · show 2 ≤ sizeLine
        rw [sizeLine_eq]
        decide
    · rw [show ((i + 1 : Nat) : Int) = ((i : Nat) : Int) + 1 from Int.natCast_succ i]
      exact re2
    · intro b m
      rcases List.mem_cons.mp m with m | m
      · exact m ▸ Nat.ne_of_lt old.1
      · exact (List.mem_singleton.mp m) ▸ Nat.ne_of_lt old.2
/-- no more of them -/
theorem pair_stop {z : Value} {E : Value → Shared → Prop} (cool : X.A.handled = none) (I : Inv X pins σ H s) (ff : FpOk X pins H it) (re : IsEnum s.heap e it ((i : Nat) : Int) z) (ri : s.heap.IsTupleIter it a i) (d3 : a ≠ it)
    (q : SqT X.K H a xs) (out : xs.length = i) : wpAny (model X.prog X.w) X.A (pyNext (.ref e)) (fun r s1 => r = none ∧ Inv X pins σ H s1) E s := by
  rcases tupAt I q with ⟨us, _, isT, len⟩
  have n_ : us.toArray.size = i := by rw [List.size_toArray, len, out]
  have D := PySem.Draws.tuple (prog := X.prog) (w := X.w) (A := X.A.in1) cool it a d3 us.toArray
  rw [n_] at D
  exact wpAny_pyNext_enum_endD D re ⟨ri, isT⟩ fun g k => ⟨rfl, I.turned (t' := s.toks) (fun b o nb w => k b o nb w) ff.1 ff.2.1 ff.2.2.2.1 ff.2.2.2.2.1 ff.2.2.2.2.2⟩
end
/-! ### the walk over the pairs -/
/-- turn i gives the pair of i and the tuple's i-th -/
def Ite2 (K : PySem.W.Frag) (a : Addr) : It where
  go i H := ∃ xs x, SqT K H a xs ∧ xs[i]? = some x
  yld i H v H' := ∃ T, H T = none ∧ v = .ref T ∧ ∃ x, H' = upd H T (.tup [.int (i : Nat), x]) ∧ ∀ ys, SqT K H a ys → ys[i]? = some x
  stop i H := ∃ xs, SqT K H a xs ∧ xs.length = i
/-- the two iterators at turn i: the pairs' at e, the tuple's at it -/
def At2 (a e it : Addr) (i : Nat) (h : Heap) : Prop := h.IsTupleIter it a i ∧ ∃ z, IsEnum h e it ((i : Nat) : Int) z
theorem pairs_turn {P : Program} {w : World} {K : PySem.W.Frag} {elts : List Expr} {kk : Nat} {tp : Pos} {a e it : Addr} (d1 : e ≠ it) (d2 : a ≠ e) (d3 : a ≠ it) : Turn P w K (.Tuple elts kk tp) (Ite2 K a) [e, it] e (At2 a e it) where
  mem := List.mem_cons_self
  obj i h := by
    rintro ⟨⟨o, g, _, dat⟩, z, re⟩ b m
    rcases List.mem_cons.mp m with m | m
    · refine ⟨_, m ▸ re, fun v k => ?_⟩
      nomatch k
    · refine ⟨o, List.mem_singleton.mp m ▸ g, fun v k => ?_⟩
      rw [dat] at k
      nomatch k
  keep i h h' := by
    rintro ⟨ri, z, re⟩ same
    exact ⟨ri.at fun o g => same it (List.mem_cons_of_mem _ List.mem_cons_self) o g, z, same e List.mem_cons_self _ re⟩
  item X := by
    rintro rfl rfl rfl calm i pins s σ H E I ff ⟨ri, z, re⟩ ⟨xs, x, q, at_⟩
    refine thn (pair_next (elts := elts) (kk := kk) (tp := tp) (I.ok.hd calm) I ff re ri d1 d2 d3 q at_) ?_
    rintro r s1 ⟨u, eu, more⟩
    refine ⟨u, eu, thn more ?_⟩
    rintro _ s2 ⟨T, eT, fresh, I2, re2, ri2, apart⟩
    refine ⟨.ref T, _, I2, eT, ⟨T, fresh, rfl, x, rfl, fun ys q' => I.tuple_inj q q' ▸ at_⟩, ⟨ri2, re2⟩, fun b m => ?_⟩
    rw [upd_ne (apart b m)]
    exact (ff b m).1
  done X := by
    rintro rfl rfl rfl calm i pins s σ H E I ff ⟨ri, z, re⟩ ⟨xs, q, out⟩
    exact pair_stop (I.ok.hd calm) I (ff it (List.mem_cons_of_mem _ List.mem_cons_self)) re ri d3 q out
  self A i s Q E st q := st.2.elim fun _ re => wpAny_pyIter_enum re q
theorem walk_enumT {K : PySem.W.Frag} {a : Addr} {xs : List V} : Walk (Ite2 K a) xs.length (fun H => SqT K H a xs) (YPair (fun i => some (.int (i : Nat))) (fun i => xs[i]?)) where
  goes i H lt q := ⟨xs, xs[i], q, List.getElem?_eq_getElem lt⟩
  stops H q := ⟨xs, q, rfl⟩
  yields i H v H' _ q y := by
    rcases y with ⟨T, fresh, ev, x, eH, all⟩
    exact ⟨T, .int i, x, ev, fresh, eH, rfl, all xs q⟩
def iEnumT (K : PySem.W.Frag) (ts : TA) : TI := fun σ H R => ts σ H fun vs G => ∃ a xs, vs = [.ref a] ∧ SqT K G a xs ∧ R (Ite2 K a) G
theorem i_enumT {K : PySem.W.Frag} {σ : L2.St} {H : Hp} {ts : TA} {R : It → Hp → Prop} (q : ts σ H fun vs H1 => ∃ a xs, vs = [.ref a] ∧ SqT K H1 a xs ∧ R (Ite2 K a) H1) : iEnumT K ts σ H R := q
theorem i_enumT' {K : PySem.W.Frag} {H : Hp} {a : Addr} {xs : List V} {R : Addr → Prop} (h : SqT K H a xs) (q : R a) : ∃ a' xs, [V.ref a] = [.ref a'] ∧ SqT K H a' xs ∧ R a' := ⟨a, xs, rfl, h, q⟩
section
variable {X : Cx} {e : Expr} {ts : TA} {p pos : Pos}
/-- a call of a builtin type by its name, of one argument: up to the call itself -/
theorem name_call1 {x : Str} {T : String} {pins : List (Addr × Obj)} {σ : L2.St} {H : Hp} {s : Shared} {Q : Value → Shared → Prop} {Q' : List V → Hp → Prop} (gl : Gl X x) (no : X.mg x = none) (ar : PA X [e] ts) (one : starEach [e] X.env = [(false, eval e X.env)])
    (bt : bootBuiltins x = some (.type T)) (n1 : x ≠ "__name__") (n2 : (x == ("__debug__" : Str)) = false) (I : Inv X pins σ H s) (h : ts σ H Q')
    (go : ∀ us s1, AP X pins σ Q' us s1 → wpAny (model X.prog X.w) X.A (call (.type T) us) Q X.xe s1) : wpAny (model X.prog X.w) X.A (eval (.Call (.Name x p) [e] [] pos) X.env) Q X.xe s :=
  Call_ (ld_blt I gl no bt (callWith_type1 (thn (ar.run pos pins s σ H Q' I h) go) one rfl) n1 n2)
theorem pi_enumT {elts : List Expr} {kk : Nat} {tp : Pos} (gl : Gl X "enumerate") (no : X.mg "enumerate" = none) (ar : PA X [e] ts) (one : starEach [e] X.env = [(false, eval e X.env)] := by rfl) : PI X (.Tuple elts kk tp) (.Call (.Name "enumerate" p) [e] [] pos) (iEnumT X.K ts) where
  run pins s σ H R I h := by
    refine name_call1 gl no ar one boot_enumerate (by decide) (by decide) I h ?_
    rintro us s1 ⟨vs, H1, I1, rs, a, xs, rfl, q, r⟩
    rcases rs with _ | ⟨ra, _ | _⟩
    rcases tupAt I1 q with ⟨its, _, isT, _⟩
    have lt : a < s1.heap.objs.size := isT.elim fun _ k => Heap.lt_size k.1
    have hold : ∀ b o, s1.heap.get? b = some o → (enumHeap s1.heap { cls := .type "tuple_iterator", data := .fields #[.ref a, .int 0 0] }).get? b = some o := fun b o k => Heap.get?_push_of_some _ (Heap.get?_push_of_some _ k)
    have fst : (enumHeap s1.heap { cls := .type "tuple_iterator", data := .fields #[.ref a, .int 0 0] }).get? s1.heap.objs.size = some { cls := .type "tuple_iterator", data := .fields #[.ref a, .int 0 0] } := Heap.get?_push_of_some _ (Heap.get?_push_size s1.heap rfl)
    cases ra
    refine enum_call (begins_tuple a its.toArray) isT ?_
    have snd : (enumHeap s1.heap { cls := .type "tuple_iterator", data := .fields #[.ref a, .int 0 0] }).get? (s1.heap.push { cls := .type "tuple_iterator", data := .fields #[.ref a, .int 0 0] }).objs.size = some (enumRec s1.heap.objs.size) := Heap.get?_push_size _ rfl
    have two : (s1.heap.push { cls := .type "tuple_iterator", data := .fields #[.ref a, .int 0 0] }).objs.size = s1.heap.objs.size + 1 := Array.size_push _
    rw [two] at snd ⊢
    refine wpAny_pyIter_enum (i := 0) (it := s1.heap.objs.size) (old := .none) snd ?_
    refine ⟨s1.heap.objs.size + 1, [s1.heap.objs.size + 1, s1.heap.objs.size], At2 a (s1.heap.objs.size + 1) s1.heap.objs.size, Ite2 X.K a, H1, rfl, I1.kept hold, pairs_turn (Nat.succ_ne_self _) (Nat.ne_of_lt (Nat.lt_succ_of_lt lt)) (Nat.ne_of_lt lt), ⟨⟨_, fst, rfl, rfl⟩, .none, snd⟩, fun b m => ?_, r⟩
    have old : s1.heap.objs.size ≤ b := by
      rcases List.mem_cons.mp m with m | m
      · exact m ▸ Nat.le_succ _
      · exact Nat.le_of_eq (List.mem_singleton.mp m).symm
    exact I1.fpOk old (I1.hok.fresh old)
end
end U
end

section
set_option Elab.async false
set_option linter.all false
set_option maxRecDepth 100000
set_option maxHeartbeats 4000000
/-! # U: any() of a tuple of numbers -/
namespace U
open PySem L2
def rAnyT (K : PySem.W.Frag) : List V → Hp → VK → Prop := fun vs H Q => ∃ (a : Addr) (ns : List Int), vs = [.ref a] ∧ SqT K H a (ns.map V.int) ∧ Q (.bl (ns.any fun x => decide (x ≠ 0))) H
theorem i_anyT {K : PySem.W.Frag} {H : Hp} {Q : VK} {a : Addr} {ns : List Int} (h : SqT K H a (ns.map V.int)) (q : Q (.bl (ns.any fun x => decide (x ≠ 0))) H) : rAnyT K [.ref a] H Q := ⟨a, ns, rfl, h, q⟩
theorem any_idx (p : Int → Bool) : ∀ ns : List Int, (List.range ns.length).any (fun i => p (ns.getD i 0)) = ns.any p
  | [] => rfl
  | n :: ns => by
    have e := any_idx p ns
    simp only [List.length_cons, List.range_succ_eq_map, List.any_cons, List.any_map, Function.comp_def, List.getD_cons_zero, List.getD_cons_succ]
    rw [e]
theorem cr_anyT {X : Cx} (calm : X.calm = true) : CallR X (.builtin "any") (rAnyT X.K) := by
  intro pins s σ H xs us Q I r h
  obtain ⟨a, ns, rfl, sq, q⟩ := h
  obtain ⟨u, rfl, ru⟩ := vals1 r
  cases ru
  obtain ⟨ws, rv, isT, len⟩ := tupAt I sq
  rw [List.length_map] at len
  refine call_any_walkS (PySem.W.iter_tupleW (I.ok.hd calm) isT fun s2 e2 W st _ _ _ => ⟨_, _, _, _, _, _, _, fun i => decide (ns.getD i 0 ≠ 0), rfl, W, st, fun i v s' R E hv hr => ?_, fun s' mv => ?_⟩)
  · have hv' : ws[i]? = some v := by simpa using hv
    have li : i < ns.length := by rw [← len]; exact (List.getElem?_eq_some_iff.mp hv').1
    obtain ⟨u, eu, rr⟩ := rv.get (i := i) (x := V.int (ns.getD i 0)) (by rw [List.getElem?_map, List.getElem?_eq_getElem li, List.getD_eq_getElem?_getD, List.getElem?_eq_getElem li]; rfl)
    rw [hv'] at eu
    cases eu
    obtain ⟨t, rfl⟩ := rr
    refine PySem.P.truthy_int ?_
    have e : (ns.getD i 0 != 0) = decide (ns.getD i 0 ≠ 0) := by
      rw [Bool.eq_iff_iff]
      simp
    rw [e]
    exact hr
  · obtain ⟨g, tk, rfl, old⟩ := PySem.W.moved_old e2 rfl mv
    refine ⟨.bl _, H, I.kept old, ?_, q⟩
    show Value.bool _ = Value.bool _
    rw [List.size_toArray, len, any_idx fun x => decide (x ≠ 0)]
end U
end

section
set_option Elab.async false
set_option linter.all false
set_option maxRecDepth 100000
set_option maxHeartbeats 4000000
/-! # U: sorted(rows, key=lambda one: one[0]), the first things being numbers -/
namespace U
open PySem PySem.Spec PyProof.Rows L2 LamX
/-- all that stands but what stands at L -/
def others (h : Heap) (L : Addr) : List (Addr × Obj) := (List.range h.objs.size).filterMap fun b => if b = L then none else (h.get? b).map fun o => (b, o)
theorem mem_others {h : Heap} {L b : Addr} {o : Obj} : (b, o) ∈ others h L ↔ h.get? b = some o ∧ b ≠ L := by
  unfold others
  rw [List.mem_filterMap]
  constructor
  · rintro ⟨c, _, e⟩
    by_cases z : c = L
    · rw [if_pos z] at e
      cases e
    · rw [if_neg z] at e
      cases g : h.get? c with
      | none => rw [g] at e; cases e
      | some u =>
        rw [g] at e
        cases e
        exact ⟨g, z⟩
  · rintro ⟨g, n⟩
    refine ⟨b, List.mem_range.mpr (Heap.lt_size g), ?_⟩
    rw [if_neg n, g]
    rfl
def noHeap : Heap := { objs := #[] }
theorem noHeap_none {b : Addr} : noHeap.get? b = none := by simp [noHeap, Heap.get?]
theorem obj_there {P : Program} {w : World} {H : Hp} {h : Heap} {a : Addr} {u : HO} (x : ObjOk P w H h a u) : ∃ o, h.get? a = some o := by
  cases u with
  | lst _ => exact x.2.elim fun _ y => y.elim fun _ z => ⟨_, z.2⟩
  | tup _ => exact x.2.elim fun _ y => y.2.elim fun o z => ⟨o, z.1⟩
  | dK _ => exact x.2.2.elim fun _ y => y.2.elim fun o z => z.elim fun _ z => z.elim fun _ z => ⟨o, z.1⟩
  | dT _ => exact x.2.2.elim fun _ y => y.2.elim fun o z => z.elim fun _ z => z.elim fun _ z => ⟨o, z.1⟩
  | set _ _ =>
    obtain ⟨o, _, _, _, e, _⟩ := x
    exact ⟨o, e⟩
  | ins _ _ _ => exact ⟨_, x.2.2.2.1⟩
  | own _ => exact x
  | xd _ => exact x.elim fun _ y => y.1.elim fun o z => z.elim fun _ z => z.elim fun _ z => ⟨o, z.1⟩
  | rng _ _ => exact x.elim fun _ y => y.elim fun _ z => z.elim fun _ z => ⟨_, z⟩
  | frz o _ => exact ⟨o, x.1⟩
  | tbl _ => exact ⟨_, x⟩
  | met _ _ => exact ⟨_, x⟩
  | ext _ => exact x.2.1
section
variable {prog : Program} {w : World} {A : Around} {s : Shared} {f c' t : Addr} {q : Str} {params : Arguments} {scope : Scope} {cl : List (Str × Addr)} {pm ctv v : Value} {its : Array Value} {a : Str} {p1 p2 p3 : Pos} {u : Nat} {Q : Value → Shared → Prop}
/-- the lambda that tells the first thing of a tuple, called -/
theorem first_called (here : s.heap.get? f = some (PySem.W.kla_obj "<lambda>" q params (.Subscript (.Name a p1) (.Constant (.int 0) u p2) p3) scope cl pm c' ctv)) (code : s.heap.CodeRec (.ref c') q) (lim : s.heap.NoLimit) (depth : A.depth < recursionLimit)
    (tup : IsTup s.heap t its) (fst : its[0]? = some v) (kind : scope.kind = .function) (co : scope.isCoroutine = false) (gen : scope.isGenerator = false) (loc : scope.names.lookup a = some .local) (nocell : ∀ y ∈ scope.names, y.2 ≠ .cell)
    (bd : bindArgs (PySem.W.kla_fn "<lambda>" q params (.Subscript (.Name a p1) (.Constant (.int 0) u p2) p3) scope cl pm (.ref c') ctv) ⟨[.ref t], []⟩ = pure [(a, .ref t)]) (hd : (a == ("__debug__" : Str)) = false)
    (go : ∀ h' tk, (∀ b o, s.heap.get? b = some o → h'.get? b = some o) → Q v { s with heap := h', toks := tk }) : wpAny (model prog w) A (call (.ref f) [.ref t]) Q (fun _ _ => False) s := by
  refine wpAny_call (PySem.W.kla_callFunE depth here rfl co gen rfl code ?_)
  rw [bd]
  refine wpAny_pure (wpAny_newFunctionEnv nocell (fun y m => by cases List.mem_singleton.mp m; exact loc) (fun g ns same => ⟨lim.fresh _ same, ?_⟩) kind)
  have stay : ∀ b o, s.heap.get? b = some o → g.get? b = some o := fun b o e => same.extBut b o (Nat.ne_of_lt (Heap.lt_size e)) (Heap.get?_push_of_some _ e)
  have tup' : IsTup g t its := tup.keeps stay
  have ef : v = v := rfl
  apply PySem.W.kla_codeExpr
  refine Subscript_ (wpAny_Name (wpAny_loadName_local kind ?_ ns (v := .ref t) ?_ (wpAny_Constant_int ?_)) hd)
  · show Env.kindOf _ a = some .local
    unfold Env.kindOf
    exact loc
  · show List.lookup a [(a, Value.ref t)] = _
    simp
  · have pos : 0 < its.size := by
      rw [Array.getElem?_eq_some_iff] at fst
      exact fst.1
    exact subscriptTail_builtinR (x := v) tup'.typeIs slot_tuple_getitem.lookup (PyProof.Rows.getItem_tuple (j := 0) (Q := fun r s' => r = v ∧ _) tup' (by decide) (by decide) (by unfold seqIndex?; simp [pos]) fst ⟨rfl, go _ _ stay⟩) (by with_unfolding_all rfl)
end

theorem adr_of : ∀ {ps : List (Int × Value)}, (∀ p ∈ ps, ∃ t, p.2 = .ref t) → ∃ qs : List (Int × Addr), ps = qs.map fun q => (q.1, .ref q.2)
  | [], _ => ⟨[], rfl⟩
  | p :: ps, h => by
    obtain ⟨t, e⟩ := h p List.mem_cons_self
    obtain ⟨qs, eq⟩ := adr_of fun x m => h x (List.mem_cons_of_mem _ m)
    refine ⟨(p.1, t) :: qs, ?_⟩
    rw [List.map_cons, ← eq]
    show p :: ps = (p.1, .ref t) :: ps
    rw [← e]
theorem perm_back {qs rs : List (Int × Addr)} (h : (qs.map fun q => (q.1, Value.ref q.2)).Perm (rs.map fun q => (q.1, Value.ref q.2))) : qs.Perm rs := by
  have inj : Function.Injective (fun q : Int × Addr => (q.1, Value.ref q.2)) := fun a b e => by
    obtain ⟨a1, a2⟩ := a
    obtain ⟨b1, b2⟩ := b
    cases e
    rfl
  have g := h.map (fun p : Int × Value => (p.1, match p.2 with | .ref t => t | _ => 0))
  rw [List.map_map, List.map_map] at g
  have e : ∀ l : List (Int × Addr), l.map ((fun p : Int × Value => (p.1, match p.2 with | .ref t => t | _ => 0)) ∘ fun q : Int × Addr => (q.1, Value.ref q.2)) = l := fun l => by
    conv => rhs; rw [← List.map_id l]
    exact List.map_congr_left fun _ _ => rfl
  rwa [e, e] at g
theorem vals_refs : ∀ (qs : List (Int × Addr)), Vals (qs.map fun q => V.ref q.2) (qs.map fun q => Value.ref q.2)
  | [] => .nil
  | _ :: qs => .cons rfl (vals_refs qs)
theorem refs_vals : ∀ (qs : List (Int × Addr)) {us : List Value}, Vals (qs.map fun q => V.ref q.2) us → us = qs.map fun q => Value.ref q.2
  | [], _, .nil => rfl
  | _ :: qs, _, .cons r t => by
    rw [refs_vals qs t, List.map_cons]
    cases r
    rfl
/-- what sorted(rows, key=lambda one: one[0]) asks and tells -/
def tSortF (K : PySem.W.Frag) (T : List (Addr × Str)) (te : TE) : TE := fun σ H Q => te σ H fun x H1 => Tabs T H1 ∧ ∀ H2, ExtN H1 H2 → Tabs T H2 → ∃ (l : Addr) (qs : List (Int × Addr)), x = .ref l ∧ SqL K H2 l (qs.map fun q => V.ref q.2) ∧ (∀ q ∈ qs, ∃ ys, H2 q.2 = some (.tup (.int q.1 :: ys))) ∧
  ∀ (rs : List (Int × Addr)) (p : Addr), rs.Perm qs → (rs.Pairwise fun a b => a.1 ≤ b.1) → H2 p = none → Q (.ref p) (upd H2 p (.lst (rs.map fun q => V.ref q.2)))
section
variable {X : Cx}
/-- sorted called with such a lambda -/
theorem sortF_run {pins : List (Addr × Obj)} {s : Shared} {σ : L2.St} {H : Hp} {f c' l : Addr} {qn : Str} {params : Arguments} {scope : Scope} {cl : List (Str × Addr)} {pm ctv : Value} {a : Str} {p1 p2 p3 : Pos} {u k : Nat} {qs : List (Int × Addr)} {Q : VK} (I : Inv X pins σ H s)
    (made : s.heap.get? f = some (PySem.W.kla_obj "<lambda>" qn params (.Subscript (.Name a p1) (.Constant (.int 0) u p2) p3) scope cl pm c' ctv)) (co' : H c' = some (CodeO c' qn)) (room : Room (k + 2) X.A) (kind : scope.kind = .function) (co : scope.isCoroutine = false) (gen : scope.isGenerator = false) (names : scope.names = [(a, .local)])
    (bd : ∀ v, bindArgs (PySem.W.kla_fn "<lambda>" qn params (.Subscript (.Name a p1) (.Constant (.int 0) u p2) p3) scope cl pm (.ref c') ctv) ⟨[v], []⟩ = pure [(a, v)]) (hd : (a == ("__debug__" : Str)) = false)
    (sq : SqL X.K H l (qs.map fun q => V.ref q.2)) (firsts : ∀ q ∈ qs, ∃ ys, H q.2 = some (.tup (.int q.1 :: ys)))
    (q : ∀ (rs : List (Int × Addr)) (p : Addr), rs.Perm qs → (rs.Pairwise fun a b => a.1 ≤ b.1) → H p = none → Q (.ref p) (upd H p (.lst (rs.map fun q => V.ref q.2)))) :
    wpAny (model X.prog X.w) X.A (call (.builtin "sorted") [.ref l] [(Str.ofString "key", .ref f)]) (EP X pins σ Q) X.xe s := by
  obtain ⟨m, hns, _⟩ := I.loc
  obtain ⟨its, rv, pl, zl⟩ := I.list sq
  obtain rfl := refs_vals qs rv
  have fr : Fr noHeap X.env.locals s.heap m := ⟨hns, fun b o e => (by rw [noHeap_none] at e; cases e), Nat.zero_le _⟩
  have nw : News noHeap X.env.locals s.heap (others s.heap X.env.locals) := fun p mp => ⟨(mem_others.mp mp).1, (mem_others.mp mp).2, noHeap_none⟩
  rw [List.length_map] at zl
  have old : ∀ {g : Heap} {own : List (Addr × Obj)}, News noHeap X.env.locals g (others s.heap X.env.locals ++ own) → ∀ b o, s.heap.get? b = some o → b ≠ X.env.locals → g.get? b = some o := fun N b o e n => (N _ (List.mem_append_left _ (mem_others.mpr ⟨e, n⟩))).1
  have tracked : ∀ {b : Addr} {u : HO}, H b = some u → b ≠ X.env.locals := fun e z => by
    rw [z, I.free] at e
    cases e
  refine ksk_sortedSt (b := false) (kz := qs.map (·.1)) (vs := qs.map fun q => Value.ref q.2) fr nw pl.isList (by rw [List.length_map, List.length_map]) (by rw [List.length_map]; exact zl) (ksk_s1 _ _) (fun x => ksk_l1 _ _) (fun x => ksk_t1 f x) ?turn ?done
  case turn =>
    intro i v k' ev ek g tk own F N
    rw [List.getElem?_map] at ev ek
    cases eq : qs[i]? with
    | none => rw [eq] at ev; cases ev
    | some x =>
      rw [eq] at ev ek
      cases ev
      cases ek
      obtain ⟨ys, hy⟩ := firsts x (List.mem_of_getElem? eq)
      obtain ⟨us, rt, tup, _⟩ := I.tuple (SqT.of hy)
      cases rt with
      | cons r0 rr =>
        obtain ⟨t0, rfl⟩ := r0
        obtain ⟨ot, ht, ct, nt, dt⟩ := tup
        obtain ⟨⟨oc, ws, tc, k1, k2, k3⟩, _, _⟩ := I.hok c' _ co'
        obtain ⟨mc, ⟨ol, el, pl', hl, rl⟩, zl'⟩ := I.ok.mod.nolimit
        have nl : cStatics ≠ X.env.locals := Nat.ne_of_lt (Nat.lt_of_lt_of_le (Heap.lt_size hl) (Nat.le_trans I.ok.bsz I.ok.above))
        have nf : f ≠ X.env.locals := fun z => by
          obtain ⟨o, es, ep, ho, hd', _⟩ := hns
          rw [← z, made] at ho
          cases ho
          cases hd'
        exact first_called (its := (Value.int x.1 t0 :: _).toArray) (old N f _ made nf) ⟨c', oc, ws, tc, rfl, old N _ _ k1 (tracked co'), k2, k3⟩ ⟨mc, ⟨ol, el, pl', old N _ _ (I.bk _ _ hl) nl, rl⟩, zl'⟩ room.in1.in1.depth ⟨ot, old N _ _ ht (tracked hy), ct, nt, dt⟩ rfl kind co gen
          (by rw [names]; simp) (fun y my e => by rw [names] at my; cases List.mem_singleton.mp my; cases e) (bd _) hd (fun g' tk' kp => KskEnd.intro (F.kept kp) (N.grown kp) fun p mp => mp)
  case done =>
    intro D g tk out c F N lt ko
    obtain ⟨ps, pp, eo, srt, _⟩ := ko
    rw [List.zip_map'] at pp
    obtain ⟨rs, rfl⟩ := adr_of (ps := ps) fun p mp => by
      obtain ⟨x, _, rfl⟩ := List.mem_map.mp (pp.mem_iff.mp mp)
      exact ⟨x.2, rfl⟩
    have pr := perm_back pp
    rw [List.pairwise_map] at srt
    rw [List.map_map] at eo
    have here := (N _ List.mem_cons_self).1
    have nDL := (N _ List.mem_cons_self).2.1
    have N' : News noHeap X.env.locals g (others s.heap X.env.locals ++ []) := fun p mp => by
      rw [List.append_nil] at mp
      exact N p (List.mem_cons_of_mem _ mp)
    have nD0 : s.heap.get? D = none := by
      cases e : s.heap.get? D with
      | none => rfl
      | some o => exact absurd (lt _ (mem_others.mpr ⟨e, nDL⟩)) (Nat.lt_irrefl _)
    have nD : H D = none := by
      cases e : H D with
      | none => rfl
      | some u =>
        obtain ⟨o, eo'⟩ := obj_there (I.hok D u e)
        rw [nD0] at eo'
        cases eo'
    have apart : ∀ b o, s.heap.get? b = some o → b ≠ D := fun b o e z => by
      rw [z, nD0] at e
      cases e
    have J : Inv X pins σ (upd H D (.lst (rs.map fun x => V.ref x.2))) { s with heap := g, toks := tk } := by
      refine I.step (g' := s.gens) (d' := s.drawn) (ch := []) (fun b mb => (List.not_mem_nil mb).elim) (fun b o n _ _ e _ => old N' b o e n) (fun b o n _ _ e _ => ⟨o.slots, old N' b o e n⟩) (fun b o _ e n => by rw [upd_ne (apart b o e)]; exact n) (fun b o _ e => ?_)
        (fun b xs e => by rw [upd_ne (ne_of_none e nD)]; exact e) (fun b o u e => by rw [upd_ne (ne_of_none e nD)]; exact e) (fun b vs e => ⟨#[], by rw [upd_ne (ne_of_none e nD), e, Array.append_empty]⟩) (fun m' hm => ?_) (fun b u e => ?_) I.bare
      · by_cases z : b = X.env.locals
        · obtain ⟨o2, _, _, h2, _⟩ := F.ns
          exact ⟨o2, z ▸ h2⟩
        · exact ⟨o, old N' b o e z⟩
      · obtain ⟨o1, e1, _, h1, d1, s1, f1⟩ := hm
        obtain ⟨o2, e2, _, h2, d2, s2, f2⟩ := hns
        rw [h1] at h2
        cases h2
        rw [d1] at d2
        cases d2
        have em : m' = m := funext fun x => (f1 x).symm.trans (f2 x)
        exact em ▸ F.ns
      · by_cases z : b = D
        · subst z
          rw [upd_same] at e
          cases e
          refine ⟨by rw [List.length_map, pr.length_eq]; exact zl, _, c, vals_refs rs, ?_⟩
          rw [here, show (rs.map fun x => Value.ref x.2) = out.toList from eo.symm, Array.toArray_toList]
        · rw [upd_ne z] at e
          refine (I.hok b u e).stay (fun d o hd' ho => old N' d o ho ?_) (fun d hd' => by rw [upd_ne (ne_of_none hd' nD)]; exact hd') fun d xs hd' => by rw [upd_ne (ne_of_none hd' nD)]; exact hd'
          rcases hd' with rfl | hd'
          · exact tracked e
          · exact tracked hd'
    exact ⟨.ref D, _, J, rfl, q rs D pr srt nD⟩
theorem pe_sortF {T : List (Addr × Str)} {c P : Addr} {e : Expr} {te : TE} {params : Arguments} {scope : Scope} {a : Str} {p p1 p2 p3 lpos kpos pos : Pos} {u k : Nat} (hg : Gl X "sorted") (hm : X.mg "sorted" = none) (he : PE X e te)
    (TB : TabB X.base X.mg c P) (hcode : X.env.code = .ref c) (inT : (P, X.env.qual ++ "<lambda>") ∈ T) (sole : ∀ p ∈ T, p.1 = P → p.2 = X.env.qual ++ "<lambda>") (room : Room (k + 2) X.A) (hdef : defaultsOf params X.env = ([], []))
    (kind : scope.kind = .function) (co : scope.isCoroutine = false) (gen : scope.isGenerator = false) (names : scope.names = [(a, .local)])
    (bd : ∀ (q : Str) (cl : List (Str × Addr)) (pm cv ctv v : Value), bindArgs (PySem.W.kla_fn "<lambda>" q params (.Subscript (.Name a p1) (.Constant (.int 0) u p2) p3) scope cl pm cv ctv) ⟨[v], []⟩ = pure [(a, v)]) (hd : (a == ("__debug__" : Str)) = false := by decide)
    (he1 : backTo pos (starEach [e] X.env) = (false, eval e X.env) :: backTo pos (starEach [] X.env) := by rfl) (hpl : (backTo pos (starEach [e] X.env)).any (·.1) = false := by rfl) :
    PE X (.Call (.Name "sorted" p) [e] [⟨some "key", .Lambda params (.Subscript (.Name a p1) (.Constant (.int 0) u p2) p3) scope lpos, kpos⟩] pos) (tSortF X.K T te) where
  run pins s σ H Q I h := by
    refine wpAny_Call_Name_kw (ld_blt I hg hm boot_sorted ?_ (by decide) (by decide))
    refine PyProof.Rows.callWith_kw ?_ he1 hpl rfl rfl
    rw [he1]
    refine Calls.spliced_cons (thn (he.run pins s σ H _ I h) ?_)
    rintro x s1 ⟨v, H1, I1, r1, tb, go⟩
    refine Calls.spliced_nil ?_
    refine kws_cons (lam_make2 I1 TB hcode inT sole tb hdef (fun y m e => ?_) fun f c' pm ctv H2 s2 I2 eN T2 made free nofr co' => kws_nil ?_)
    · rw [names] at m
      cases List.mem_singleton.mp m
      cases e
    obtain ⟨l, qs, rfl, sq, firsts, q⟩ := go H2 eN T2
    cases r1
    exact sortF_run I2 made co' room kind co gen names (bd _ _ _ _ _) hd sq firsts q
end
end U
end

section
set_option Elab.async false
set_option linter.all false
set_option maxRecDepth 100000
set_option maxHeartbeats 4000000
/-! # U: defs with keyword-only parameters; what a call of a certain form binds -/
namespace U
open PySem L2
/-- positional call: ds are lacking at the end -/
abbrev BP (K : PySem.W.Frag) (fd : FuncData) (ps : List Str) (ds : List V) : Prop := ∃ us, Vals ds us ∧ Binds K fd ps us
/-- n positional values and the keywords ks -/
abbrev BN (K : PySem.W.Frag) (fd : FuncData) (ps : List Str) (n : Nat) (ks : List Str) (gV : List V → List V → List V) : Prop := ∃ g, KBn K fd ps n ks g gV
structure DK (K : PySem.W.Frag) (mg : Str → Option Value) (x : Str) (st : Stmt) (dv : List V) (kws : List (Str × V)) (B : FuncData → Prop) : Prop where
  ex : ∃ (f : Addr) (fd : FuncData), FunA K x x st dv kws f fd ∧ mg x = some (.ref f) ∧ B fd
structure MK (K : PySem.W.Frag) (C : Addr) (m q : Str) (st : Stmt) (dv : List V) (kws : List (Str × V)) (B : FuncData → Prop) : Prop where
  ex : ∃ (f : Addr) (fd : FuncData), FunA K m q st dv kws f fd ∧ Cls K C ∧ Meth K C m f ∧ B fd
structure NK (K : PySem.W.Frag) (mg : Str → Option Value) (x : Str) (C : Addr) (q : Str) (st : Stmt) (dv : List V) (kws : List (Str × V)) (B : FuncData → Prop) : Prop where
  ex : ∃ (f : Addr) (fd : FuncData), FunA K "__init__" q st dv kws f fd ∧ Mk K C f ∧ mg x = some (.ref C) ∧ B fd
section
variable (P : Program) (w : World) (K : PySem.W.Frag) (mg : Str → Option Value) (base : Heap)
structure ClK (k : Nat) (x : Str) (ps : List Str) (sp : Sp) (B : FuncData → Prop) : Prop where
  ex : ∃ (f : Addr) (fd : FuncData), FnOk P w K mg base (L2N.CX P w) k f fd ps sp ∧ mg x = some (.ref f) ∧ PySem.W.keepIn K (.ref f) = true ∧ B fd
structure MtK (k : Nat) (C : Addr) (m : Str) (ps : List Str) (sp : Sp) (B : FuncData → Prop) : Prop where
  ex : ∃ (f : Addr) (fd : FuncData), FnOk P w K mg base (L2N.CX P w) k f fd ps sp ∧ Cls K C ∧ Meth K C m f ∧ B fd
structure NwK (k : Nat) (x : Str) (C : Addr) (ps : List Str) (sp : Sp) (B : FuncData → Prop) : Prop where
  ex : ∃ (f : Addr) (fd : FuncData), FnOk P w K mg base (L2N.CX P w) k f fd ps sp ∧ Mk K C f ∧ mg x = some (.ref C) ∧ B fd
end
section
variable {P : Program} {w : World} {K : PySem.W.Frag} {mg : Str → Option Value} {base : Heap} {st : Stmt} {ps N : List Str} {dv : List V} {kws : List (Str × V)} {k : Nat} {sp : Sp} {B : FuncData → Prop} {x q : Str}
/-- what is asked of the body -/
abbrev BodyOk (P : Program) (w : World) (K : PySem.W.Frag) (mg : Str → Option Value) (base : Heap) (k : Nat) (q : Str) (st : Stmt) (N : List Str) (sp : Sp) : Prop :=
  ∀ (f : Addr) (cdv : Value) (A : Around) (outer : List Env) (s : Shared) (H : Hp) (vs : List V) (Q : VK) (E : XK), Room k (A.deeper (PyProof.Rows.envOfC q (defScope st) s.heap.objs.size f cdv)) → sp vs H Q E →
    ∃ t, PSs (cxOf (L2N.CX P w) P w K mg base N q (defScope st) f cdv A outer s H E) (defBody st) t ∧ t { nx := fun _ H' => Q .non H', rt := Q } (start N vs) H
theorem DK.ok (F : DK K mg x st dv kws B) (S : FnScope N ps (defScope st)) (len : ∀ vs H Q E, sp vs H Q E → vs.length = ps.length) (b : BodyOk P w K mg base k x st N sp) : ClK P w K mg base (k + 1) x ps sp B :=
  F.ex.elim fun f z => z.elim fun fd ⟨F, m, h⟩ => ⟨f, fd, F.ok S len (b f), m, F.kp, h⟩
theorem MK.ok {C : Addr} {m : Str} (F : MK K C m q st dv kws B) (S : FnScope N ps (defScope st)) (len : ∀ vs H Q E, sp vs H Q E → vs.length = ps.length) (b : BodyOk P w K mg base k q st N sp) : MtK P w K mg base (k + 1) C m ps sp B :=
  F.ex.elim fun f z => z.elim fun fd ⟨F, c, m, h⟩ => ⟨f, fd, F.ok S len (b f), c, m, h⟩
theorem NK.ok {C : Addr} (F : NK K mg x C q st dv kws B) (S : FnScope N ps (defScope st)) (len : ∀ vs H Q E, sp vs H Q E → vs.length = ps.length) (b : BodyOk P w K mg base k q st N sp) : NwK P w K mg base (k + 1) x C ps sp B :=
  F.ex.elim fun f z => z.elim fun fd ⟨F, c, m, h⟩ => ⟨f, fd, F.ok S len (b f), c, m, h⟩
/-- every parameter is told: the defaults are not looked at -/
theorem bnAll {params : Arguments} {body : List Stmt} {scope : Scope} {f : Addr} {fd : FuncData} {n : Nat} {ks : List Str} (F : FunD K x q params body scope dv kws f fd) (g : {α : Type} → List α → List α → List α) (rel : ∀ {vs zs : List V} {us ws : List Value}, Vals vs us → Vals zs ws → Vals (g vs zs) (g us ws))
    (h : ∀ (dV kV doc pm : Value) (an : Option Addr) (cdv ct : Value) (us ws : List Value), us.length = n → ws.length = ks.length → bindArgs (PySem.W.fnOf x q params body scope dV kV doc pm an cdv ct) ⟨us, ks.zip ws⟩ = pure (ps.zip (g us ws))) : BN K fd ps n ks g := by
  rcases F.ex with ⟨oc, od, dV, kV, doc, pm, an, cdv, ct, osl, rfl, _⟩
  exact ⟨g, fun s us ws _ l1 l2 => BindsTo.of_eq (h dV kV doc pm an cdv ct us ws l1 l2), rel⟩
/-- the same of a def whose only defaults are keyword-only ones -/
theorem bnAll0 {params : Arguments} {body : List Stmt} {scope : Scope} {f : Addr} {fd : FuncData} {n : Nat} {ks : List Str} (F : FunD K x q params body scope [] kws f fd) (ne : kws ≠ []) (g : {α : Type} → List α → List α → List α) (rel : ∀ {vs zs : List V} {us ws : List Value}, Vals vs us → Vals zs ws → Vals (g vs zs) (g us ws))
    (h : ∀ (D : Addr) (doc pm : Value) (an : Option Addr) (cdv ct : Value) (us ws : List Value), us.length = n → ws.length = ks.length → bindArgs (PySem.W.fnOf x q params body scope .none (.ref D) doc pm an cdv ct) ⟨us, ks.zip ws⟩ = pure (ps.zip (g us ws))) : BN K fd ps n ks g := by
  rcases F.ex with ⟨oc, od, dV, kV, doc, pm, an, cdv, ct, osl, rfl, _, _, d, k⟩
  rcases d with ⟨_, rfl⟩ | ⟨no, _⟩
  · rcases k with no | ⟨D, rfl, _⟩
    · exact absurd no ne
    · exact ⟨g, fun s us ws _ l1 l2 => BindsTo.of_eq (h D doc pm an cdv ct us ws l1 l2), rel⟩
  · exact absurd rfl no
end
section
variable {σ : L2.St} {H : Hp} {Q : VK}
theorem i_callN {n m : Nat} {sp : Sp} {gV : List V → List V → List V} {E : XK} {t tk : TA} (q : t σ H fun vs H1 => tk σ H1 fun zs H2 => vs.length = n ∧ zs.length = m ∧ sp (gV vs zs) H2 Q E) : tCallN n m sp gV E t tk σ H Q := q
theorem i_lens {xs ys : List V} {n m : Nat} {R : Prop} (h1 : xs.length = n) (h2 : ys.length = m) (q : R) : xs.length = n ∧ ys.length = m ∧ R := ⟨h1, h2, q⟩
end
end U
end

section
set_option Elab.async false
set_option linter.all false
set_option maxRecDepth 100000
set_option maxHeartbeats 4000000
/-! # U: zip(.., strict=True) over two lists or tuples of one length -/
namespace U
open PySem PySem.Spec PyProof.Rows L2
/-- the record of a strict zip: f, the flag of the pair that is out; TI, its iterators; TO, its pair -/
def zrec (f : Value) (TI TO : Addr) : Obj := { cls := .type "zip", dict := none, data := .fields #[f, .bool false, .bool true, .ref TI, .ref TO], slots := #[] }
abbrev zipNext (z : Addr) : Sem PySem.Fin := Builtin.«zip.__next__» ⟨[.ref z], []⟩
def duo (x y : Value) : Obj := { cls := .type "tuple", data := .seq #[x, y] }
section
variable {prog : Program} {w : World} {A : Around} {E : Value → Shared → Prop} {it j1 j2 z TI TO : Addr} {fp f1 f2 : List Addr} {n m i : Nat} {R R1 R2 : Nat → Value → Prop} {St S1 S2 : Nat → Heap → Prop} {u v : Value}
theorem draw_item {s : Shared} {Q : Option Value → Shared → Prop} (D : Draws prog w A it fp n R St) (lt : i < n) (st : St i s.heap) (q : ∀ x h tk, R i x → St (i + 1) h → Heap.SameBut it s.heap h → Q (some x) { s with heap := h, toks := tk }) :
    wpAny (model prog w) A (Builtin.SmallTypes.nextOrEnd (.ref it)) Q E s := by
  unfold Builtin.SmallTypes.nextOrEnd
  apply wpAny_bind
  apply wpAny_attempt
  exact D.item i s _ _ lt st fun x h tk a b c => wpAny_pure (q x h tk a b c)
theorem draw_done {s : Shared} {Q : Option Value → Shared → Prop} (D : Draws prog w A it fp n R St) (st : St n s.heap) (q : ∀ h, Heap.ExtBut it s.heap h → Q none { s with heap := h }) :
    wpAny (model prog w) A (Builtin.SmallTypes.nextOrEnd (.ref it)) Q E s := by
  unfold Builtin.SmallTypes.nextOrEnd
  apply wpAny_bind
  apply wpAny_attempt
  refine D.done s _ _ st ?_
  rintro h e k ⟨o, there, c⟩
  exact wpAny_bind (wpAny_isInstance (T := "StopIteration") (b := true) ⟨o, there, c⟩ isSubtype_stop (wpAny_pure (q h k)))
/-- the pair of the record gets its k-th -/
theorem duo_set {s : Shared} {Q : Unit → Shared → Prop} {x : Value} {k : Nat} (t : s.heap.get? TO = some (duo u v)) (q : ∀ h, h.get? TO = some (if k = 0 then duo x v else duo u x) → Heap.SameBut TO s.heap h → Q () { s with heap := h }) (hk : k < 2) :
    wpAny (model prog w) A (updateSeq TO (·.setIfInBounds k x)) Q E s := by
  apply wpAny_updateSeq t rfl
  apply q
  · rw [Heap.get?_update_self _ t rfl]
    have two : k = 0 ∨ k = 1 := by omega
    rcases two with rfl | rfl <;> rfl
  · exact Heap.SameBut.update ..
theorem zs_item {s : Shared} {Q : Value → Shared → Prop} (S : ZipSep2 z TI TO j1 j2 f1 f2) (D1 : Draws prog w A j1 f1 n R1 S1) (D2 : Draws prog w A j2 f2 m R2 S2) (lt : i < n) (lt2 : i < m)
    (tz : s.heap.get? z = some (zrec .none TI TO)) (ti : s.heap.get? TI = some (duo (.ref j1) (.ref j2))) (to_ : s.heap.get? TO = some (duo u v)) (a1 : S1 i s.heap) (a2 : S2 i s.heap)
    (q : ∀ x y h tk, R1 i x → R2 i y → h.get? z = some (zrec (rawInt s.heap.objs.size) TI TO) → h.get? TO = some (duo x y) → S1 (i + 1) h → S2 (i + 1) h → h.get? s.heap.objs.size = some (duo x y) →
      (∀ c o, c ≠ z → c ≠ TO → c ≠ j1 → c ≠ j2 → s.heap.get? c = some o → h.get? c = some o) → Q (.ref s.heap.objs.size) { s with heap := h, toks := tk }) : wpAny (model prog w) A (zipNext z) (fun fin s' => ∃ v, fin = .done (.ret v) ∧ Q v s') E s := by
  rcases s with ⟨hp, gs, dd, t0, os⟩
  have zj1 : z ≠ j1 := S.zi1
  have zj2 : z ≠ j2 := S.zi2
  have Tj1 : TO ≠ j1 := S.Ti1
  have Tj2 : TO ≠ j2 := S.Ti2
  -- what the record tells
  apply wpAny_bind (m := field (.ref z) 2)
  apply wpAny_field tz rfl (x := .bool true) rfl
  apply wpAny_bind (m := field (.ref z) 3)
  apply wpAny_field tz rfl (x := .ref TI) rfl
  apply wpAny_bind (m := seqItems? (.ref TI))
  apply wpAny_seqItems ti rfl
  apply wpAny_bind (m := Builtin.SmallTypes.ownedTupleIsFree (.ref z))
  delta Builtin.SmallTypes.ownedTupleIsFree
  dsimp only
  apply wpAny_bind
  apply wpAny_field tz rfl (x := .none) rfl
  apply wpAny_pure
  rw [if_pos (by rfl)]
  apply wpAny_bind
  apply wpAny_rule
  apply wpAny_bind
  apply wpAny_field tz rfl (x := .ref TO) rfl
  apply wpAny_bind
  apply wpAny_setField_rec tz (by show 0 < 5; decide)
  intro k0 b0 c0
  have tz0 : k0.get? z = some (zrec .ellipsis TI TO) := b0
  have c0 : Heap.SameBut z hp k0 := c0
  apply wpAny_bind
  rw [show (#[Value.ref j1, Value.ref j2].toList.zipIdx) = [(.ref j1, 0), (.ref j2, 1)] from rfl]
  rw [List.forIn_cons]
  -- the first one's
  apply wpAny_bind
  apply wpAny_bind
  apply wpAny_onRaise
  refine draw_item D1 lt (D1.over a1 c0 S.zf1) fun x k1 t1 r1 n1 c1 => ?_
  have c1 : Heap.SameBut j1 k0 k1 := c1
  have to1 : k1.get? TO = some (duo u v) := c1.extBut _ _ Tj1 (c0.extBut _ _ S.TOz to_)
  apply wpAny_bind
  apply wpAny_seqItems (s := ⟨k1, gs, dd, t1, os⟩) to1 rfl
  apply wpAny_bind
  refine duo_set (s := ⟨k1, gs, dd, t1, os⟩) to1 (k := 0) (fun k2 to2 c2 => ?_) (by decide)
  rw [if_pos rfl] at to2
  have c2 : Heap.SameBut TO k1 k2 := c2
  apply wpAny_bind
  apply wpAny_letGo
  apply wpAny_pure
  dsimp only
  rw [List.forIn_cons]
  -- the second one's
  apply wpAny_bind
  apply wpAny_bind
  apply wpAny_onRaise
  refine draw_item (s := ⟨k2, gs, dd, t1, os⟩) D2 lt2 (D2.over (D2.over (D2.over a2 c0 S.zf2) c1 S.sep1_2) c2 S.Tf2) fun y k3 t2 r2 n2 c3 => ?_
  have c3 : Heap.SameBut j2 k2 k3 := c3
  have to3 : k3.get? TO = some (duo x v) := c3.extBut _ _ Tj2 to2
  apply wpAny_bind
  apply wpAny_seqItems (s := ⟨k3, gs, dd, t2, os⟩) to3 rfl
  apply wpAny_bind
  refine duo_set (s := ⟨k3, gs, dd, t2, os⟩) to3 (k := 1) (fun k4 to4 c4 => ?_) (by decide)
  rw [if_neg (by decide)] at to4
  have c4 : Heap.SameBut TO k3 k4 := c4
  apply wpAny_bind
  apply wpAny_letGo
  apply wpAny_pure
  dsimp only
  rw [List.forIn_nil]
  apply wpAny_pure
  dsimp only
  -- the pair is handed out
  apply wpAny_bind
  apply wpAny_seqItems (s := ⟨k4, gs, dd, t2, os⟩) to4 rfl
  apply wpAny_bind
  refine wpAny_newTuple ?_
  have size4 : k4.objs.size = hp.objs.size := by rw [c4.1, c3.1, c2.1, c1.1, c0.1]
  have tz4 : k4.get? z = some (zrec .ellipsis TI TO) := by
    refine c4.extBut _ _ S.TOz.symm (c3.extBut _ _ zj2 (c2.extBut _ _ S.TOz.symm (c1.extBut _ _ zj1 tz0)))
  have ext4 : ∀ c o, c ≠ z → c ≠ TO → c ≠ j1 → c ≠ j2 → hp.get? c = some o → k4.get? c = some o := by
    intro c o m1 m2 m3 m4 e
    exact c4.extBut c o m2 (c3.extBut c o m4 (c2.extBut c o m2 (c1.extBut c o m3 (c0.extBut c o m1 e))))
  have e1 : S1 (i + 1) k4 := D1.over (D1.over (D1.over n1 c2 S.Tf1) c3 S.sep2_1) c4 S.Tf1
  have e2 : S2 (i + 1) k4 := D2.over n2 c4 S.Tf2
  have low : z < k4.objs.size := Heap.lt_size tz4
  apply wpAny_bind
  delta Builtin.SmallTypes.ownedTupleHandOut
  dsimp only
  have tz5 : (k4.push (duo x y)).get? z = some (zrec .ellipsis TI TO) := Heap.get?_push_of_some _ tz4
  have new5 : (k4.push (duo x y)).get? k4.objs.size = some (duo x y) := Heap.get?_push_size _ rfl
  apply wpAny_bind
  apply wpAny_setField_rec (s := ⟨k4.push (duo x y), gs, dd, t2, os⟩) tz5 (by show 0 < 5; decide)
  intro k6 b6 c6
  have tz6 : k6.get? z = some (zrec (rawInt k4.objs.size) TI TO) := b6
  have c6 : Heap.SameBut z (k4.push (duo x y)) k6 := c6
  apply wpAny_setField_rec (s := ⟨k6, gs, dd, t2, os⟩) tz6 (by show 1 < 5; decide)
  intro k7 b7 c7
  have tz7 : k7.get? z = some (zrec (rawInt k4.objs.size) TI TO) := b7
  have c7 : Heap.SameBut z k6 k7 := c7
  have on : ∀ c o, c ≠ z → k4.get? c = some o → k7.get? c = some o := by
    intro c o m e
    exact c7.extBut c o m (c6.extBut c o m (Heap.get?_push_of_some _ e))
  have new7 : k7.get? k4.objs.size = some (duo x y) := c7.extBut _ _ (Nat.ne_of_gt low) (c6.extBut _ _ (Nat.ne_of_gt low) new5)
  rw [size4] at tz7 new7
  apply wpAny_pure
  refine ⟨_, rfl, ?_⟩
  show Q (.ref k4.objs.size) ⟨k7, gs, dd, t2, os⟩
  rw [size4]
  refine q x y k7 t2 r1 r2 tz7 (on _ _ S.TOz to4) ?_ ?_ new7 ?_
  · exact D1.frame _ _ _ e1 fun c m o e => on c o (fun h => S.zf1 (h ▸ m)) e
  · exact D2.frame _ _ _ e2 fun c m o e => on c o (fun h => S.zf2 (h ▸ m)) e
  · intro c o m1 m2 m3 m4 e
    exact on c o m1 (ext4 c o m1 m2 m3 m4 e)
/-- StopIteration is raised where nothing is handled -/
theorem stop_cool {α : Type} {s : Shared} {Q : α → Shared → Prop} (cool : A.handled = none) (q : ∀ h e, (∀ c o, s.heap.get? c = some o → h.get? c = some o) → (∃ o, h.get? e = some o ∧ o.cls = .type "StopIteration") → E (.ref e) { s with heap := h }) :
    wpAny (model prog w) A (Builtin.SmallTypes.stopIteration : Sem α) Q E s := by
  unfold Builtin.SmallTypes.stopIteration
  wp_walk
  unfold raiseNew
  apply wpAny_bind
  apply wpAny_handled
  rw [cool]
  apply wpAny_throw
  refine q _ _ ?_ ⟨_, Heap.get?_push_size _ rfl, rfl⟩
  intro c o e
  apply Heap.get?_push_of_some
  apply Heap.get?_push_of_some
  exact e
/-- both have come to their ends -/
theorem zs_done {s : Shared} {Q : Fin → Shared → Prop} (cool : A.handled = none) (S : ZipSep2 z TI TO j1 j2 f1 f2) (D1 : Draws prog w A j1 f1 n R1 S1) (D2 : Draws prog w A j2 f2 n R2 S2)
    (tz : s.heap.get? z = some (zrec .none TI TO)) (ti : s.heap.get? TI = some (duo (.ref j1) (.ref j2))) (to_ : s.heap.get? TO = some (duo u v)) (a1 : S1 n s.heap) (a2 : S2 n s.heap)
    (q : ∀ h e, (∀ c o, c ≠ z → c ≠ TO → c ≠ j1 → c ≠ j2 → s.heap.get? c = some o → h.get? c = some o) → (∃ o, h.get? e = some o ∧ o.cls = .type "StopIteration") → E (.ref e) { s with heap := h }) : wpAny (model prog w) A (zipNext z) Q E s := by
  rcases s with ⟨hp, gs, dd, t0, os⟩
  have zj1 : z ≠ j1 := S.zi1
  have zj2 : z ≠ j2 := S.zi2
  apply wpAny_bind (m := field (.ref z) 2)
  apply wpAny_field tz rfl (x := .bool true) rfl
  apply wpAny_bind (m := field (.ref z) 3)
  apply wpAny_field tz rfl (x := .ref TI) rfl
  apply wpAny_bind (m := seqItems? (.ref TI))
  apply wpAny_seqItems ti rfl
  apply wpAny_bind (m := Builtin.SmallTypes.ownedTupleIsFree (.ref z))
  delta Builtin.SmallTypes.ownedTupleIsFree
  dsimp only
  apply wpAny_bind
  apply wpAny_field tz rfl (x := .none) rfl
  apply wpAny_pure
  rw [if_pos (by rfl)]
  apply wpAny_bind
  apply wpAny_rule
  apply wpAny_bind
  apply wpAny_field tz rfl (x := .ref TO) rfl
  apply wpAny_bind
  apply wpAny_setField_rec tz (by show 0 < 5; decide)
  intro k0 b0 c0
  have tz0 : k0.get? z = some (zrec .ellipsis TI TO) := b0
  have c0 : Heap.SameBut z hp k0 := c0
  apply wpAny_bind
  rw [show (#[Value.ref j1, Value.ref j2].toList.zipIdx) = [(.ref j1, 0), (.ref j2, 1)] from rfl]
  rw [List.forIn_cons]
  apply wpAny_bind
  apply wpAny_bind
  apply wpAny_onRaise
  refine draw_done D1 (D1.over a1 c0 S.zf1) fun k1 c1 => ?_
  have c1 : Heap.ExtBut j1 k0 k1 := c1
  have tz1 : k1.get? z = some (zrec .ellipsis TI TO) := c1 _ _ zj1 tz0
  have a2' : S2 n k1 := D2.frame _ _ _ (D2.over a2 c0 S.zf2) fun c m o e => c1 c o (fun h => S.sep1_2 (h ▸ m)) e
  dsimp only
  apply wpAny_bind
  apply wpAny_setField_rec (s := ⟨k1, gs, dd, t0, os⟩) tz1 (by show 0 < 5; decide)
  intro k2 b2 c2
  have c2 : Heap.SameBut z k1 k2 := c2
  apply wpAny_bind
  show wpAny (model prog w) A _ _ _ _
  k_delta "zipStrictEnd"
  dsimp only
  rw [if_neg (Nat.lt_irrefl 0)]
  rw [show ((List.drop 1 [Value.ref j1, Value.ref j2]).zipIdx 1) = [(.ref j2, 1)] from rfl]
  rw [List.forIn_cons]
  apply wpAny_bind
  apply wpAny_bind
  apply wpAny_bind
  refine draw_done (s := ⟨k2, gs, dd, t0, os⟩) D2 (D2.over a2' c2 S.zf2) fun k3 c3 => ?_
  have c3 : Heap.ExtBut j2 k2 k3 := c3
  dsimp only
  rw [if_neg (by decide)]
  apply wpAny_pure
  dsimp only
  rw [List.forIn_nil]
  apply wpAny_pure
  apply wpAny_bind
  apply wpAny_rule
  refine stop_cool (s := ⟨k3, gs, dd, t0, os⟩) cool fun k4 e k is => ?_
  refine q k4 e (fun c o m1 m2 m3 m4 g => ?_) is
  exact k c o (c3 c o m4 (c2.extBut c o m1 (c1 c o m3 (c0.extBut c o m1 g))))
end
/-! ### a strict zip, made -/
def zs1 (h : Heap) (o1 o2 : Obj) : Heap := ((h.push o1).push o2).push (duo (.ref h.objs.size) (.ref (h.push o1).objs.size))
def zs2 (h : Heap) (o1 o2 : Obj) : Heap := (zs1 h o1 o2).push (duo .none .none)
def zs3 (h : Heap) (o1 o2 : Obj) : Heap := (zs2 h o1 o2).push (zrec .none ((h.push o1).push o2).objs.size (zs1 h o1 o2).objs.size)
theorem zs_new {v1 v2 : Value} {o1 o2 : Obj} {G1 G2 : Heap → Prop} (B1 : Begins v1 o1 G1) (B2 : Begins v2 o2 G2) (k : Str) (hk : (k != "strict") = false) :
    Meets (Builtin.«zip.__new__» ⟨[.type "zip", v1, v2], [(k, .bool true)]⟩) (fun _ R s => (G1 s.heap ∧ G2 s.heap) ∧ R (.ok (.ret (.ref (zs2 s.heap o1 o2).objs.size))) { s with heap := zs3 s.heap o1 o2 }) := by
  refine .of_wp ?_
  rintro prog w A R ⟨hp, gs, dd, t0, os⟩ ⟨⟨g1, g2⟩, go⟩
  have sub := sub_zip
  have first : ∀ {A₁ : Around} {E₁ Q₁ : Value → Shared → Prop}, Q₁ (.ref hp.objs.size) ⟨hp.push o1, gs, dd, t0, os⟩ → wpAny (model prog w) A₁ (pyIter v1) Q₁ E₁ ⟨hp, gs, dd, t0, os⟩ := fun z => B1.iter prog w _ _ ⟨hp, gs, dd, t0, os⟩ _ g1 z
  have second : ∀ {A₁ : Around} {E₁ Q₁ : Value → Shared → Prop}, Q₁ (.ref (hp.push o1).objs.size) ⟨(hp.push o1).push o2, gs, dd, t0, os⟩ → wpAny (model prog w) A₁ (pyIter v2) Q₁ E₁ ⟨hp.push o1, gs, dd, t0, os⟩ :=
    fun z => B2.iter prog w _ _ ⟨hp.push o1, gs, dd, t0, os⟩ _ (B2.keeps _ _ g2 fun b o e => Heap.get?_push_of_some _ e) z
  wp_walk using first, second
  exact ⟨_, rfl, go⟩
section
variable {A : Around} {E : Value → Shared → Prop} {prog : Program} {w : World}
theorem zs_type (a b c : Value) : checkTypeCall "zip" ⟨[a, b], [(PySem.Str.ofString "strict", c)]⟩ = pure () := by kernel_rfl
theorem zs_make (a b c : Value) : checkBuiltinCall "zip.__new__" ⟨[.type "zip", a, b], [(PySem.Str.ofString "strict", c)]⟩ = pure () := by kernel_rfl
theorem zs_init (o a b c : Value) : argsOk "object.__init__" ⟨[o, a, b], [(PySem.Str.ofString "strict", c)]⟩ := by
  unfold argsOk
  kernel_rfl
theorem zs_call {s : Shared} {v1 v2 : Value} {o1 o2 : Obj} {G1 G2 : Heap → Prop} {Q : Value → Shared → Prop} (B1 : Begins v1 o1 G1) (B2 : Begins v2 o2 G2) (g1 : G1 s.heap) (g2 : G2 s.heap)
    (q : Q (.ref (zs2 s.heap o1 o2).objs.size) { s with heap := zs3 s.heap o1 o2 }) : wpAny (model prog w) A (call (.type "zip") [v1, v2] [(PySem.Str.ofString "strict", .bool true)]) Q E s :=
  callType_newKw F.called_zip (by decide) (zs_type _ _ _) (zs_make _ _ _) (fun o => zs_init o _ _ _) F.entry_zip_new (zs_new B1 B2 _ (by decide +kernel)) ⟨⟨g1, g2⟩, ⟨_, Heap.get?_push_size (zs2 s.heap o1 o2) rfl, rfl⟩, q⟩
/-- a builtin type, called with keywords -/
theorem with_kw {M : Model} {env : Env} {s : Shared} {pos : Pos} {T : String} {x : Sem Value} {rest : List (Bool × Sem Value)} {ks : List (Option Str × Sem Value)} {Q : Value → Shared → Prop} (p1 : rest.any (·.1) = false) (p2 : ks.any (·.1.isNone) = false) (p3 : ks.all (·.1.isSome) = true)
    (h : wpAny M A (spliced ((false, x) :: rest)) (fun vs s1 => wpAny M A (evalAll (ks.map (·.2))) (fun us s2 => wpAny M A (call (.type T) vs ((ks.filterMap (·.1)).zip us)) Q E s2) E s1) E s) :
    wpAny M A (callWith pos (.type T) [] ((false, x) :: rest) ks) Q E s := by
  unfold callWith
  apply wpAny_bind
  apply wpAny_holding
  refine wpAny_mono (evalArgs_kwB (Q := fun a s1 => wpAny M A (call (.type T) a.pos a.kw) Q E s1) p3 h) ?_ fun _ _ z => z
  intro a s1 h1
  apply wpAny_bind
  apply wpAny_standAt
  simp only [List.any_cons, p1, p2, Bool.or_false]
  apply wpAny_bind
  apply wpAny_pure
  apply wpAny_bind
  apply wpAny_mono h1 ?_ fun _ _ z => z
  intro r s2 h2
  apply wpAny_bind
  apply wpAny_holding
  apply wpAny_point
  exact wpAny_pure h2
/-- the pair that is out is let go ahead of the store -/
theorem zs_go {s : Shared} {elts : List Expr} {kk : Nat} {tp : Pos} {z TI TO T : Addr} {Q : Unit → Shared → Prop} (tz : s.heap.get? z = some (zrec (rawInt T) TI TO)) (q : ∀ h, h.get? z = some (zrec .none TI TO) → Heap.SameBut z s.heap h → Q () { s with heap := h }) :
    wpAny (model prog w) A (letOwnedTupleGo (.Tuple elts kk tp) (.ref z) (.ref T)) Q E s := by
  unfold letOwnedTupleGo
  apply wpAny_bind
  apply wpAny_load tz
  show wpAny (model prog w) A (if _ then _ else _) Q E s
  rw [if_pos (by simp [zrec])]
  apply wpAny_bind
  apply wpAny_rule
  show wpAny (model prog w) A (setField (.ref z) 0 .none) Q E s
  apply wpAny_setField_rec tz (by show 0 < 5; decide)
  intro h a b
  exact q h a b
end
/-! ### the kinds: lists and tuples -/
inductive Kd | l | t
namespace Kd
def Sq : Kd → PySem.W.Frag → Hp → Addr → List V → Prop
  | .l => SqL
  | .t => SqT
def Cur : Kd → Heap → Addr → Addr → Nat → Prop
  | .l => Heap.IsListIter
  | .t => Heap.IsTupleIter
def Has : Kd → Heap → Addr → Array Value → Prop
  | .l => fun h a xs => h.IsList a xs
  | .t => fun h a xs => h.IsTuple a xs
def new : Kd → Addr → Obj
  | .l => fun a => { cls := .type "list_iterator", data := .fields #[.ref a, .int 0 0] }
  | .t => fun a => { cls := .type "tuple_iterator", data := .fields #[.ref a, .int 0 0] }
variable {h h' : Heap} {it a : Addr} {i : Nat} {us : Array Value}
theorem draws (k : Kd) {prog : Program} {w : World} {A : Around} (cool : A.handled = none) (ne : a ≠ it) : Draws prog w A it [it, a] us.size (fun i v => us[i]? = some v) (fun i h => k.Cur h it a i ∧ k.Has h a us) := by
  cases k with
  | l => exact .list cool it a ne us
  | t => exact .tuple cool it a ne us
theorem begins (k : Kd) : Begins (.ref a) (k.new a) (fun h => k.Has h a us) := by
  cases k with
  | l => exact begins_list a us
  | t => exact begins_tuple a us
theorem low (k : Kd) (x : k.Has h a us) : a < h.objs.size := by
  cases k with
  | l => exact x.elim fun _ p => Heap.lt_size p.1
  | t => exact x.elim fun _ p => Heap.lt_size p.1
theorem cur0 (k : Kd) (x : h.get? it = some (k.new a)) : k.Cur h it a 0 := by
  cases k with
  | l => exact ⟨_, x, rfl, rfl⟩
  | t => exact ⟨_, x, rfl, rfl⟩
theorem stays (k : Kd) (x : k.Cur h it a i) (e : ∀ o, h.get? it = some o → h'.get? it = some o) : k.Cur h' it a i := by
  cases k with
  | l => exact Heap.IsListIter.at x e
  | t => exact Heap.IsTupleIter.at x e
theorem obj (k : Kd) (x : k.Cur h it a i) : ∃ o, h.get? it = some o ∧ ∀ v, o.data ≠ .cell v := by
  cases k <;> (obtain ⟨o, g, _, d⟩ := x; exact ⟨o, g, fun v e => by rw [d] at e; cases e⟩)
section
variable {X : Cx} {pins : List (Addr × Obj)} {σ : L2.St} {H : Hp} {s : Shared} {xs ys : List V}
theorem at_ (k : Kd) (I : Inv X pins σ H s) (q : k.Sq X.K H a xs) : ∃ us : List Value, Vals xs us ∧ k.Has s.heap a us.toArray ∧ us.length = xs.length := by
  cases k with
  | l => exact (I.list q).elim fun us p => ⟨us, p.1, p.2.1.isList, p.1.length.symm⟩
  | t => exact (I.tuple q).elim fun us p => ⟨us, p.1, p.2.1, p.1.length.symm⟩
theorem inj (k : Kd) (I : Inv X pins σ H s) (q : k.Sq X.K H a xs) (r : k.Sq X.K H a ys) : xs = ys := by
  cases k with
  | l => exact I.list_inj q r
  | t => exact I.tuple_inj q r
end
end Kd
end U
end

section
set_option Elab.async false
set_option linter.all false
set_option maxRecDepth 100000
set_option maxHeartbeats 4000000
/-! # U: the walk over a strict zip -/
namespace U
open PySem PySem.Spec PyProof.Rows L2
/-- turn i gives a new pair of the i-th of both -/
def Its (k1 k2 : Kd) (K : PySem.W.Frag) (a b : Addr) : It where
  go i H := ∃ xs ys x y, k1.Sq K H a xs ∧ k2.Sq K H b ys ∧ xs[i]? = some x ∧ ys[i]? = some y
  yld i H v H' := ∃ T, H T = none ∧ v = .ref T ∧ ∃ x y, H' = upd H T (.tup [x, y]) ∧ (∀ xs, k1.Sq K H a xs → xs[i]? = some x) ∧ ∀ ys, k2.Sq K H b ys → ys[i]? = some y
  stop i H := ∃ xs ys, k1.Sq K H a xs ∧ k2.Sq K H b ys ∧ xs.length = i ∧ ys.length = i
/-- the cells of a strict zip at turn i -/
def Ats (k1 k2 : Kd) (z TI TO j1 j2 a b : Addr) (i : Nat) (h : Heap) : Prop :=
  h.get? z = some (zrec .none TI TO) ∧ h.get? TI = some (duo (.ref j1) (.ref j2)) ∧ (∃ u v, h.get? TO = some (duo u v)) ∧ k1.Cur h j1 a i ∧ k2.Cur h j2 b i
section
variable {P : Program} {w : World} {K : PySem.W.Frag} {k1 k2 : Kd} {z TI TO j1 j2 a b : Addr} {elts : List Expr} {kk : Nat} {tp : Pos}
theorem zs_turn (S : ZipSep2 z TI TO j1 j2 [j1, a] [j2, b]) (d1 : a ≠ j1) (d2 : b ≠ j2) : Turn P w K (.Tuple elts kk tp) (Its k1 k2 K a b) [z, TI, TO, j1, j2] z (Ats k1 k2 z TI TO j1 j2 a b) where
  mem := List.mem_cons_self
  obj i h := by
    rintro ⟨g1, g2, ⟨u, v, g3⟩, c1, c2⟩ c m
    simp only [List.mem_cons, List.not_mem_nil, or_false] at m
    rcases m with m | m | m | m | m
    · exact ⟨_, m ▸ g1, fun v e => (by cases e)⟩
    · exact ⟨_, m ▸ g2, fun v e => (by cases e)⟩
    · exact ⟨_, m ▸ g3, fun v e => (by cases e)⟩
    · exact m ▸ k1.obj c1
    · exact m ▸ k2.obj c2
  keep i h h' := by
    rintro ⟨g1, g2, ⟨u, v, g3⟩, c1, c2⟩ same
    exact ⟨same z (by simp) _ g1, same TI (by simp) _ g2, ⟨u, v, same TO (by simp) _ g3⟩, k1.stays c1 (same j1 (by simp)), k2.stays c2 (same j2 (by simp))⟩
  item X := by
    rintro rfl rfl rfl calm i pins s σ H E I ff ⟨g1, g2, ⟨u, v, g3⟩, c1, c2⟩ ⟨xs, ys, x, y, q1, q2, e1, e2⟩
    obtain ⟨us, r1, h1, l1⟩ := k1.at_ I q1
    obtain ⟨ws, r2, h2, l2⟩ := k2.at_ I q2
    obtain ⟨x', f1, rx⟩ := r1.get e1
    obtain ⟨y', f2, ry⟩ := r2.get e2
    have lt1 : i < us.toArray.size := by
      rw [List.size_toArray]
      exact (List.getElem?_eq_some_iff.mp f1).1
    have lt2 : i < ws.toArray.size := by
      rw [List.size_toArray]
      exact (List.getElem?_eq_some_iff.mp f2).1
    have is : s.TypeIs (.ref z) "zip" := ⟨_, g1, rfl⟩
    have zlow : z < s.heap.objs.size := Heap.lt_size g1
    refine next_by is F.slot_zip_next (wpAny_call_entry F.slot_zip_next is F.entry_zip_next ?_ (F.args_zip_next_1 _))
    refine zs_item (A := X.A.in1) S (k1.draws (I.ok.hd calm) d1 (us := us.toArray)) (k2.draws (I.ok.hd calm) d2 (us := ws.toArray)) lt1 lt2 g1 g2 g3 ⟨c1, h1⟩ ⟨c2, h2⟩ ?_
    intro x2 y2 g tk p1 p2 tz to_ a1 a2 new kept
    have ex : x2 = x' := Option.some.inj ((show us[i]? = some x2 by simpa using p1).symm.trans f1)
    have ey : y2 = y' := Option.some.inj ((show ws[i]? = some y2 by simpa using p2).symm.trans f2)
    rw [ex, ey] at new
    refine ⟨_, rfl, zs_go (s := { s with heap := g, toks := tk }) tz fun g7 tz7 c7 => ?_⟩
    have new7 : g7.get? s.heap.objs.size = some (duo x' y') := c7.extBut _ _ (Nat.ne_of_gt zlow) new
    have low : ∀ c ∈ [z, TI, TO, j1, j2], c ≠ s.heap.objs.size := by
      intro c m
      have there : ∃ o, s.heap.get? c = some o := by
        simp only [List.mem_cons, List.not_mem_nil, or_false] at m
        rcases m with m | m | m | m | m
        · exact ⟨_, m ▸ g1⟩
        · exact ⟨_, m ▸ g2⟩
        · exact ⟨_, m ▸ g3⟩
        · exact m ▸ (k1.obj c1).elim fun o p => ⟨o, p.1⟩
        · exact m ▸ (k2.obj c2).elim fun o p => ⟨o, p.1⟩
      exact there.elim fun o e => Nat.ne_of_lt (Heap.lt_size e)
    refine ⟨.ref s.heap.objs.size, upd H s.heap.objs.size (.tup [x, y]), ?_, rfl, ⟨_, I.hok.fresh (Nat.le_refl _), rfl, x, y, rfl, fun l q => k1.inj I q1 q ▸ e1, fun l q => k2.inj I q2 q ▸ e2⟩, ⟨tz7, ?_, ⟨_, _, c7.extBut _ _ S.TOz to_⟩, k1.stays a1.1 fun o e => c7.extBut _ _ S.zi1.symm e, k2.stays a2.1 fun o e => c7.extBut _ _ S.zi2.symm e⟩, fun c m => ?_⟩
    · refine I.turnedNew (ch := [z, TI, TO, j1, j2]) ?_ ff (Nat.le_refl _) ⟨?_, [x', y'], .cons rx (.cons ry .nil), _, new7, rfl, 0, rfl⟩
      · intro c o nc e
        simp only [List.mem_cons, List.not_mem_nil, or_false, not_or] at nc
        exact (c7.2 c nc.1).trans (kept c o nc.1 nc.2.2.1 nc.2.2.2.1 nc.2.2.2.2 e)
      · show 2 ≤ sizeLine
        rw [sizeLine_eq]
        decide
    · exact c7.extBut _ _ S.TIz (kept TI _ S.TIz S.TITO S.TIi1 S.TIi2 g2)
    · rw [upd_ne (low c m)]
      exact (ff c m).1
  done X := by
    rintro rfl rfl rfl calm i pins s σ H E I ff ⟨g1, g2, ⟨u, v, g3⟩, c1, c2⟩ ⟨xs, ys, q1, q2, n1, n2⟩
    obtain ⟨us, r1, h1, l1⟩ := k1.at_ I q1
    obtain ⟨ws, r2, h2, l2⟩ := k2.at_ I q2
    have is : s.TypeIs (.ref z) "zip" := ⟨_, g1, rfl⟩
    refine next_by is F.slot_zip_next (wpAny_call_entry F.slot_zip_next is F.entry_zip_next ?_ (F.args_zip_next_1 _))
    have z1 : us.toArray.size = i := by rw [List.size_toArray, l1, n1]
    have z2 : ws.toArray.size = i := by rw [List.size_toArray, l2, n2]
    have D1 := k1.draws (prog := X.prog) (w := X.w) (A := X.A.in1) (I.ok.hd calm) d1 (us := us.toArray)
    have D2 := k2.draws (prog := X.prog) (w := X.w) (A := X.A.in1) (I.ok.hd calm) d2 (us := ws.toArray)
    rw [z1] at D1
    rw [z2] at D2
    refine zs_done (A := X.A.in1) (I.ok.hd calm) S D1 D2 g1 g2 g3 ⟨c1, h1⟩ ⟨c2, h2⟩ fun g e kept stop => ?_
    obtain ⟨o, there, c⟩ := stop
    refine ⟨⟨o, e, rfl, there, c⟩, rfl, I.turnedL (t' := s.toks) (ch := [z, TI, TO, j1, j2]) (fun c o nc e => ?_) ff⟩
    simp only [List.mem_cons, List.not_mem_nil, or_false, not_or] at nc
    exact kept c o nc.1 nc.2.2.1 nc.2.2.2.1 nc.2.2.2.2 e
  self A i s Q E st q := by
    have is : s.TypeIs (.ref z) "zip" := ⟨_, st.1, rfl⟩
    apply wpAny_pyIter_slot is F.slot_zip_iter
    apply wpAny_call_entry F.slot_zip_iter is F.entry_zip_iter ?_ (F.args_zip_iter_1 _)
    refine wpAny_pure ⟨_, rfl, "zip", _, is, F.slot_zip_next.lookup, q⟩
/-- a walk over a strict zip of two of one length -/
theorem walk_zs {xs ys : List V} (len : xs.length = ys.length) : Walk (Its k1 k2 K a b) xs.length (fun H => k1.Sq K H a xs ∧ k2.Sq K H b ys) (YPair (fun i => xs[i]?) (fun i => ys[i]?)) where
  goes i H lt q := ⟨xs, ys, xs[i], ys[i]'(len ▸ lt), q.1, q.2, List.getElem?_eq_getElem lt, List.getElem?_eq_getElem (len ▸ lt)⟩
  stops H q := ⟨xs, ys, q.1, q.2, rfl, len.symm⟩
  yields i H v H' _ q y := by
    rcases y with ⟨T, fresh, ev, x, u, eH, f, g⟩
    exact ⟨T, x, u, ev, fresh, eH, f xs q.1, g ys q.2⟩
end
def iZipS (K : PySem.W.Frag) (ts tk : TA) : TI := fun σ H R => ts σ H fun vs G => tk σ G fun us J => us = [.bl true] ∧ ∃ (k1 k2 : Kd) (a b : Addr) (xs ys : List V), vs = [.ref a, .ref b] ∧ k1.Sq K J a xs ∧ k2.Sq K J b ys ∧ R (Its k1 k2 K a b) J
theorem i_zipS {K : PySem.W.Frag} {σ : L2.St} {H : Hp} {ts tk : TA} {R : It → Hp → Prop} (q : ts σ H fun vs G => tk σ G fun us J => us = [.bl true] ∧ ∃ (k1 k2 : Kd) (a b : Addr) (xs ys : List V), vs = [.ref a, .ref b] ∧ k1.Sq K J a xs ∧ k2.Sq K J b ys ∧ R (Its k1 k2 K a b) J) : iZipS K ts tk σ H R := q
theorem i_zipTT {K : PySem.W.Frag} {H : Hp} {a b : Addr} {xs ys : List V} {R : Kd → Kd → Addr → Addr → Prop} (q1 : SqT K H a xs) (q2 : SqT K H b ys) (r : R .t .t a b) : [V.bl true] = [.bl true] ∧ ∃ (k1 k2 : Kd) (a' b' : Addr) (xs ys : List V), [V.ref a, V.ref b] = [.ref a', .ref b'] ∧ k1.Sq K H a' xs ∧ k2.Sq K H b' ys ∧ R k1 k2 a' b' := ⟨rfl, .t, .t, a, b, xs, ys, rfl, q1, q2, r⟩
theorem i_zipLL {K : PySem.W.Frag} {H : Hp} {a b : Addr} {xs ys : List V} {R : Kd → Kd → Addr → Addr → Prop} (q1 : SqL K H a xs) (q2 : SqL K H b ys) (r : R .l .l a b) : [V.bl true] = [.bl true] ∧ ∃ (k1 k2 : Kd) (a' b' : Addr) (xs ys : List V), [V.ref a, V.ref b] = [.ref a', .ref b'] ∧ k1.Sq K H a' xs ∧ k2.Sq K H b' ys ∧ R k1 k2 a' b' := ⟨rfl, .l, .l, a, b, xs, ys, rfl, q1, q2, r⟩
section
variable {X : Cx} {e e2 : Expr} {ts tk : TA} {p pos : Pos} {kws : List Keyword}
/-- for .. in zip(e, e2, strict=True) -/
theorem pi_zipS {elts : List Expr} {kk : Nat} {tp : Pos} (gl : Gl X "zip") (no : X.mg "zip" = none) (ar : PA X [e, e2] ts) (kw : PK X kws tk) (all : (backToKw pos (keywordEach kws X.env)).all (·.1.isSome) = true := by rfl)
    (named : (backToKw pos (keywordEach kws X.env)).filterMap (·.1) = [PySem.Str.ofString "strict"] := by rfl) (none_ : (backToKw pos (keywordEach kws X.env)).any (·.1.isNone) = false := by rfl)
    (two : backTo pos (starEach [e, e2] X.env) = (false, eval e X.env) :: backTo pos (starEach [e2] X.env) := by rfl) (flat : (backTo pos (starEach [e2] X.env)).any (·.1) = false := by rfl) :
    PI X (.Tuple elts kk tp) (.Call (.Name "zip" p) [e, e2] kws pos) (iZipS X.K ts tk) where
  run pins s σ H R I h := by
    refine wpAny_Call_Name_kw (ld_blt I gl no boot_zip ?_)
    rw [two]
    refine with_kw (env := X.env) flat none_ all ?_
    rw [← two]
    refine thn (ar.run pos pins s σ H _ I h) ?_
    rintro us s1 ⟨vs, H1, I1, rs, h1⟩
    refine thn (kw.run pos pins s1 σ H1 _ I1 h1) ?_
    rintro ws s2 ⟨zs, H2, I2, rz, eq, k1, k2, a, b, xs, ys, ev, q1, q2, r⟩
    subst eq
    subst ev
    rw [named]
    rcases rs with _ | ⟨ra, _ | ⟨rb, _ | _⟩⟩
    rcases rz with _ | ⟨rt, _ | _⟩
    cases ra
    cases rb
    cases rt
    obtain ⟨us1, _, f1, _⟩ := k1.at_ I2 q1
    obtain ⟨us2, _, f2, _⟩ := k2.at_ I2 q2
    refine zs_call (k1.begins (us := us1.toArray)) (k2.begins (us := us2.toArray)) f1 f2 ?_
    have n1 : (s2.heap.push (k1.new a)).objs.size = s2.heap.objs.size + 1 := Array.size_push _
    have n2 : ((s2.heap.push (k1.new a)).push (k2.new b)).objs.size = s2.heap.objs.size + 2 := (Array.size_push _).trans (congrArg (· + 1) n1)
    have n3 : (zs1 s2.heap (k1.new a) (k2.new b)).objs.size = s2.heap.objs.size + 3 := (Array.size_push _).trans (congrArg (· + 1) n2)
    have n4 : (zs2 s2.heap (k1.new a) (k2.new b)).objs.size = s2.heap.objs.size + 4 := (Array.size_push _).trans (congrArg (· + 1) n3)
    have old : ∀ c o, s2.heap.get? c = some o → (zs3 s2.heap (k1.new a) (k2.new b)).get? c = some o := by
      intro c o e
      unfold zs3 zs2 zs1
      iterate 5 apply Heap.get?_push_of_some
      exact e
    have at0 : (zs3 s2.heap (k1.new a) (k2.new b)).get? s2.heap.objs.size = some (k1.new a) := by
      unfold zs3 zs2 zs1
      iterate 4 apply Heap.get?_push_of_some
      exact Heap.get?_push_size _ (k1.begins (us := us1.toArray)).free
    have at1 : (zs3 s2.heap (k1.new a) (k2.new b)).get? (s2.heap.objs.size + 1) = some (k2.new b) := by
      unfold zs3 zs2 zs1
      iterate 3 apply Heap.get?_push_of_some
      rw [← n1]
      exact Heap.get?_push_size _ (k2.begins (us := us2.toArray)).free
    have at2 : (zs3 s2.heap (k1.new a) (k2.new b)).get? (s2.heap.objs.size + 2) = some (duo (.ref s2.heap.objs.size) (.ref (s2.heap.objs.size + 1))) := by
      unfold zs3 zs2
      iterate 2 apply Heap.get?_push_of_some
      rw [← n2, ← n1]
      apply Heap.get?_push_size
      rfl
    have at3 : (zs3 s2.heap (k1.new a) (k2.new b)).get? (s2.heap.objs.size + 3) = some (duo .none .none) := by
      unfold zs3
      apply Heap.get?_push_of_some
      rw [← n3]
      apply Heap.get?_push_size
      rfl
    have at4 : (zs3 s2.heap (k1.new a) (k2.new b)).get? (s2.heap.objs.size + 4) = some (zrec .none (s2.heap.objs.size + 2) (s2.heap.objs.size + 3)) := by
      rw [← n4, ← n3, ← n2]
      apply Heap.get?_push_size
      rfl
    rw [n4]
    have la : a < s2.heap.objs.size := k1.low f1
    have lb : b < s2.heap.objs.size := k2.low f2
    have T := zs_turn (P := X.prog) (w := X.w) (K := X.K) (k1 := k1) (k2 := k2) (elts := elts) (kk := kk) (tp := tp) (zip_sep2 (N := s2.heap.objs.size) (fp1 := [a]) (fp2 := [b]) (by simpa using la) (by simpa using lb)) (Nat.ne_of_lt la) (Nat.ne_of_lt (Nat.lt_succ_of_lt lb))
    refine T.self _ 0 _ _ _ ⟨at4, at2, ⟨_, _, at3⟩, k1.cur0 at0, k2.cur0 at1⟩ ?_
    refine ⟨s2.heap.objs.size + 4, [s2.heap.objs.size + 4, s2.heap.objs.size + 2, s2.heap.objs.size + 3, s2.heap.objs.size, s2.heap.objs.size + 1], _, _, H2, rfl, I2.kept (t' := s2.toks) old, T, ⟨at4, at2, ⟨_, _, at3⟩, k1.cur0 at0, k2.cur0 at1⟩, fun c m => ?_, r⟩
    have high : s2.heap.objs.size ≤ c := by
      have m' : c = s2.heap.objs.size + 4 ∨ c = s2.heap.objs.size + 2 ∨ c = s2.heap.objs.size + 3 ∨ c = s2.heap.objs.size ∨ c = s2.heap.objs.size + 1 := by simpa using m
      rcases m' with m' | m' | m' | m' | m' <;> subst m' <;> first | exact Nat.le_refl _ | exact Nat.le_add_right _ _
    exact I2.fpOk high (I2.hok.fresh high)
end
end U
end

section
set_option Elab.async false
set_option linter.all false
set_option maxRecDepth 100000
set_option maxHeartbeats 4000000
/-! # U: tuples times numbers, cut and joined; rows: tuples of ints -/
namespace U
open PySem PySem.Spec PyProof.Rows L2
section
variable {l : Addr} {us : Array Value} {n : Nat} {dd : Option Addr} {sl : Array (Option Value)} {x : Int} {u : Tok}
/-- a tuple once: itself -/
theorem tuple_once (o : Obj) (ho : o = { cls := .type "tuple", dict := dd, data := .seq us n, slots := sl }) : Meets (Builtin.«tuple.__mul__» ⟨[.ref l, .int 1 u], []⟩) (fun _ R s => s.heap.get? l = some o ∧ R (.ok (.ret (.ref l))) s) := by
  subst ho
  refine .of_wp ?_
  rintro prog w A R ⟨hp, gs, dr, t0, os⟩ ⟨here, go⟩
  have f1 := AutoSeq1.idx_int
  wp_walk using wpAny_loadPart' here
  exact ⟨_, rfl, go⟩
/-- a tuple no times: an empty one -/
theorem tuple_none (o : Obj) (ho : o = { cls := .type "tuple", dict := dd, data := .seq us n, slots := sl }) (ne : us.isEmpty = false) (neg : x ≤ 0) (low : -(2 ^ 63) ≤ x) : Meets (Builtin.«tuple.__mul__» ⟨[.ref l, .int x u], []⟩) (fun _ R s => s.heap.get? l = some o ∧
    R (.ok (.ret (.ref s.heap.objs.size))) { s with heap := s.heap.push { cls := .type "tuple", data := .seq #[] } }) := by
  subst ho
  refine .of_wp ?_
  rintro prog w A R ⟨hp, gs, dr, t0, os⟩ ⟨here, go⟩
  have f1 := AutoSeq1.idx_int
  wp_walk using wpAny_loadPart' here
  rw [if_neg (by rw [decide_eq_false (by omega), decide_eq_false (by omega)]; exact Bool.false_ne_true)]
  wp_walk using wpAny_loadPart' here
  rw [if_neg (by rw [ne, beq_eq_false_iff_ne.mpr (by omega)]; exact Bool.false_ne_true)]
  rw [if_pos (by rw [decide_eq_true neg]; rfl)]
  wp_walk using wpAny_loadPart' here
  exact ⟨_, rfl, go⟩
end
def rRepA : R2 := fun x y H Q => ∃ l k xs, x = .ref l ∧ y = .int k ∧ H l = some (.tup xs) ∧ xs ≠ [] ∧ -1000 ≤ k ∧ k ≤ 1000 ∧ xs.length ≤ 1000 ∧ ∀ p H', Same H H' → H' p = some (.tup (List.replicate k.toNat xs).flatten) → Q (.ref p) H'
section
variable {X : Cx}
/-- how a tuple times an int comes to tuple.__mul__ -/
theorem rep_to {s : Shared} {l : Addr} {us : Array Value} {n : Nat} {dd : Option Addr} {sl : Array (Option Value)} {k : Int} {t : Tok} {S : PySem.Spec} {Q : Value → Shared → Prop} (o : Obj) (ho : o = { cls := .type "tuple", dict := dd, data := .seq us n, slots := sl }) (here : s.heap.get? l = some o)
    (m : Meets (Builtin.«tuple.__mul__» ⟨[.ref l, .int k t], []⟩) S) (q : ∀ A, S A (PySem.wants Q X.xe) s) : wpAny (model X.prog X.w) X.A (binaryOp .Mult (.ref l) (.int k t)) Q X.xe s := by
  subst ho
  have ty : s.TypeIs (.ref l) "tuple" := ⟨_, here, rfl⟩
  have first := int_rmul_tuple k t l us n dd sl
  apply wpAny_binaryOp_repeat_ref (T := "tuple") (U := "int") (by decide) ty (fun s' => typeIs_int s' k t) noFill_tuple_mul F.fills_int_mul F.slot_int_rmul repeat_tuple F.slot_int_index.lookup
  apply call_meets F.slot_int_rmul (typeIs_int s k t) F.entry_int_rmul (F.args_int_rmul_2 _ _) first
  refine ⟨here, rfl, ty, ?_⟩
  exact call_meets F.slot_tuple_mul ty F.entry_tuple_mul (F.args_tuple_mul_2 _ _) m (q _)
theorem u_repA : OpR X (binaryOp .Mult) rRepA := by
  rintro pins s σ H x y v u Q I rx ry ⟨l, k, xs, rfl, rfl, at_, ne, k0, k1, few, q⟩
  by_cases big : 2 ≤ k
  · refine op_repT pins s σ H _ _ v u Q I rx ry ⟨l, k, xs, rfl, rfl, SqT.of at_, ne, big, k1, few, fun p hp => ?_⟩
    exact q p _ (same_new hp) upd_same
  cases rx
  obtain ⟨t, rfl⟩ := ry
  obtain ⟨us, r, ⟨⟨cls, dd, data, sl⟩, ho, hc, n, hd⟩, hs⟩ := I.tuple (SqT.of at_)
  simp only at hc hd
  subst hc hd
  have len : us.length = xs.length := r.length.symm
  by_cases one : k = 1
  · subst one
    refine rep_to _ rfl ho (tuple_once _ rfl) fun A => ⟨ho, ?_⟩
    refine ⟨.ref l, H, I, rfl, q l H (Same.refl H) ?_⟩
    rw [at_]
    simp
  · have emp : us.toArray.isEmpty = false := by
      cases us with
      | nil => exact absurd (List.eq_nil_of_length_eq_zero (by rw [← len]; rfl)) ne
      | cons a b => rfl
    refine rep_to _ rfl ho (tuple_none _ rfl emp (by omega) (by omega)) fun A => ⟨ho, ?_⟩
    have z : k.toNat = 0 := by omega
    refine ⟨.ref s.heap.objs.size, _, I.laid (t' := s.toks) (o := .tup []) (fun b ob q => Heap.get?_push_of_some _ q) (Nat.le_refl _) ?_, rfl, q _ _ (same_new (I.hok.fresh (Nat.le_refl _))) ?_⟩
    · exact ⟨Nat.zero_le _, [], .nil, IsTup.new _ _⟩
    · rw [z]
      exact upd_same
end
section
variable {σ : L2.St} {H : Hp} {Q : VK} {K : PySem.W.Frag}
theorem i_repA {l : Addr} {k : Int} {xs : List V} (h : H l = some (.tup xs)) (ne : xs ≠ []) (k0 : -1000 ≤ k) (k1 : k ≤ 1000) (few : xs.length ≤ 1000) (q : ∀ p H', Same H H' → H' p = some (.tup (List.replicate k.toNat xs).flatten) → Q (.ref p) H') : rRepA (.ref l) (.int k) H Q := ⟨l, k, xs, rfl, rfl, h, ne, k0, k1, few, q⟩
/-- t + u, told the same way whether or not something new is laid -/
theorem i_catA {a b : Addr} {xs ys : List V} (h1 : H a = some (.tup xs)) (h2 : H b = some (.tup ys)) (z : xs.length + ys.length ≤ sizeLine) (q : ∀ p H', Same H H' → H' p = some (.tup (xs ++ ys)) → Q (.ref p) H') : rCatA K (.ref a) (.ref b) H Q := by
  refine ⟨a, b, xs, ys, rfl, rfl, SqT.of h1, SqT.of h2, z, fun e => ?_, fun _ e => ?_, fun _ _ p hp => ?_⟩
  · subst e
    exact q b H (Same.refl H) h2
  · subst e
    exact q a H (Same.refl H) (by rw [List.append_nil]; exact h1)
  · exact q p _ (same_new hp) upd_same
/-- t[lo:hi], likewise -/
theorem i_slA {a : Addr} {xs : List V} {lo hi : Option Int} (h : H a = some (.tup xs)) (q : ∀ p H', Same H H' → H' p = some (.tup (cutV xs lo hi)) → Q (.ref p) H') : rSlA K (.ref a) lo hi H Q := by
  refine ⟨a, xs, rfl, SqT.of h, fun e => ?_, fun _ p hp => q p _ (same_new hp) upd_same⟩
  refine q a H (Same.refl H) ?_
  rw [h]
  unfold cutV
  rw [e.1, e.2]
  simp
end
def rTupleOf (K : PySem.W.Frag) : List V → Hp → VK → Prop := fun xs H Q => ∃ p ys, xs = [.ref p] ∧ ((SqL K H p ys ∧ ∀ l, H l = none → Q (.ref l) (upd H l (.tup ys))) ∨ (SqT K H p ys ∧ Q (.ref p) H))
theorem u_tupleOf {X : Cx} : CallR X (.type "tuple") (rTupleOf X.K) := call_tuple_of
theorem tupleOfK {X : Cx} (K : PySem.W.Frag) (h : X.K = K) : CallR X (.type "tuple") (rTupleOf K) := h ▸ u_tupleOf
theorem i_tupleOf {K : PySem.W.Frag} {H : Hp} {Q : VK} {p : Addr} {ys : List V} (h : H p = some (.lst ys)) (q : ∀ l, H l = none → Q (.ref l) (upd H l (.tup ys))) : rTupleOf K [.ref p] H Q := ⟨p, ys, rfl, .inl ⟨SqL.of h, q⟩⟩
theorem i_all {K : PySem.W.Frag} {H : Hp} {Q : VK} {p : Addr} {bs : List Bool} (h : H p = some (.lst (bs.map V.bl))) (q : Q (.bl (bs.all id)) H) : rAll K [.ref p] H Q := ⟨p, bs, rfl, SqL.of h, q⟩
theorem gd {l : List Int} {i : Nat} (h : i < l.length) : l[i]? = some (l.getD i 0) := by
  rw [List.getD_eq_getElem?_getD, List.getElem?_eq_getElem h]
  rfl
theorem gd_mem {l : List Int} {i : Nat} (h : i < l.length) : l.getD i 0 ∈ l := List.mem_of_getElem? (gd h)
/-- a def without defaults, called with keywords -/
theorem bnNone {K : PySem.W.Frag} {x q : Str} {ps : List Str} {params : Arguments} {body : List Stmt} {scope : Scope} {f : Addr} {fd : FuncData} {n : Nat} {ks : List Str} (F : FunD K x q params body scope [] [] f fd) (g : {α : Type} → List α → List α → List α) (rel : ∀ {vs zs : List V} {us ws : List Value}, Vals vs us → Vals zs ws → Vals (g vs zs) (g us ws))
    (h : ∀ (kV doc pm : Value) (an : Option Addr) (cdv ct : Value) (us ws : List Value), us.length = n → ws.length = ks.length → bindArgs (PySem.W.fnOf x q params body scope .none kV doc pm an cdv ct) ⟨us, ks.zip ws⟩ = pure (ps.zip (g us ws))) : BN K fd ps n ks g := by
  rcases F.ex with ⟨oc, od, dV, kV, doc, pm, an, cdv, ct, osl, rfl, _, _, d, _⟩
  rcases d with ⟨_, rfl⟩ | ⟨no, _⟩
  · exact ⟨g, fun s us ws _ l1 l2 => BindsTo.of_eq (h kV doc pm an cdv ct us ws l1 l2), rel⟩
  · exact absurd rfl no
/-! ### rows: tuples of ints; lists of rows -/
abbrev Row (H : Hp) (a : Addr) (r : List Int) : Prop := H a = some (.tup (r.map V.int))
inductive RowsAt (H : Hp) : List Addr → List (List Int) → Prop
  | nil : RowsAt H [] []
  | cons {a r as rs} : Row H a r → RowsAt H as rs → RowsAt H (a :: as) (r :: rs)
section
variable {H H' : Hp} {as bs : List Addr} {rs ts : List (List Int)}
theorem RowsAt.same (h : RowsAt H as rs) (s : Same H H') : RowsAt H' as rs := by
  induction h with
  | nil => exact .nil
  | cons r _ ih => exact .cons (s _ _ r) ih
theorem RowsAt.but {b : Addr} (h : RowsAt H as rs) (k : But b H H') (n : ∀ xs, H b ≠ some (.tup xs)) : RowsAt H' as rs := by
  induction h with
  | nil => exact .nil
  | cons r _ ih => exact .cons (k _ _ r fun e => n _ (e ▸ r)) ih
theorem RowsAt.ext (h : RowsAt H as rs) (s : LamX.ExtN H H') : RowsAt H' as rs := by
  induction h with
  | nil => exact .nil
  | cons r _ ih => exact .cons (ExtN.tup s r) ih
theorem RowsAt.app (h : RowsAt H as rs) (g : RowsAt H bs ts) : RowsAt H (as ++ bs) (rs ++ ts) := by
  induction h with
  | nil => exact g
  | cons r _ ih => exact .cons r ih
theorem RowsAt.len (h : RowsAt H as rs) : as.length = rs.length := by
  induction h with
  | nil => rfl
  | cons _ _ ih => simp [ih]
theorem RowsAt.get (h : RowsAt H as rs) : ∀ (i : Nat) (r : List Int), rs[i]? = some r → ∃ a, as[i]? = some a ∧ Row H a r := by
  induction h with
  | nil => intro i r e; simp at e
  | cons q _ ih =>
    intro i r e
    cases i with
    | zero =>
      cases Option.some.inj e
      exact ⟨_, rfl, q⟩
    | succ i => exact ih i r e
theorem RowsAt.getV (h : RowsAt H as rs) {i : Nat} {v : V} (e : (as.map V.ref)[i]? = some v) : ∃ a r, v = .ref a ∧ as[i]? = some a ∧ rs[i]? = some r ∧ Row H a r := by
  rw [List.getElem?_map] at e
  cases q : as[i]? with
  | none => rw [q] at e; cases e
  | some a =>
    rw [q] at e
    have lt := (List.getElem?_eq_some_iff.mp q).1
    obtain ⟨a', q', r'⟩ := h.get i _ (List.getElem?_eq_getElem (h.len ▸ lt))
    rw [q] at q'
    cases Option.some.inj q'
    exact ⟨a, _, (Option.some.inj e).symm, rfl, List.getElem?_eq_getElem (h.len ▸ lt), r'⟩
theorem RowsAt.set {a : Addr} {r : List Int} (h : RowsAt H as rs) (q : Row H a r) (i : Nat) : RowsAt H (as.set i a) (rs.set i r) := by
  induction h generalizing i with
  | nil => exact .nil
  | cons p t ih =>
    cases i with
    | zero => exact .cons q t
    | succ i => exact .cons p (ih i)
end
end U
end

section
set_option Elab.async false
set_option linter.all false
set_option maxRecDepth 100000
set_option maxHeartbeats 4000000
/-! # U: == and != of plain data -/
namespace U
open PySem L2
/-- plain data without texts and dicts, no deeper than n -/
inductive Pl : Nat → PyData → Prop
  | non {n} : Pl n .none
  | bl {n} (b : Bool) : Pl n (.bool b)
  | int {n} (i : Int) : Pl n (.int i)
  | str {n} (x : Str) (h : PyData.canLay0 (.str x) = true) : Pl n (.str x)
  | lst {n ds} : (∀ d ∈ ds, Pl n d) → Pl (n + 1) (.list ds)
  | tup {n ds} : (∀ d ∈ ds, Pl n d) → Pl (n + 1) (.tuple ds)
theorem layAll : ∀ {ds : List PyData}, (∀ d ∈ ds, PyData.canLay0 d = true) → PyData.canLayAll0 ds = true
  | [], _ => rfl
  | d :: ds, h => by
    show (PyData.canLay0 d && PyData.canLayAll0 ds) = true
    rw [h d List.mem_cons_self, layAll fun e m => h e (List.mem_cons_of_mem _ m)]
    rfl
theorem depAll {n : Nat} : ∀ {ds : List PyData}, (∀ d ∈ ds, PyData.depth d ≤ n) → PyData.depthAll ds ≤ n
  | [], _ => Nat.zero_le _
  | d :: ds, h => by
    show max (PyData.depth d) (PyData.depthAll ds) ≤ n
    have h1 := h d List.mem_cons_self
    have h2 := depAll fun e m => h e (List.mem_cons_of_mem _ m)
    omega
theorem eqAll : ∀ {ds : List PyData}, (∀ d ∈ ds, PyData.eqv d d = true) → PyData.eqvAll ds ds = true
  | [], _ => rfl
  | d :: ds, h => by
    show (PyData.eqv d d && PyData.eqvAll ds ds) = true
    rw [h d List.mem_cons_self, eqAll fun e m => h e (List.mem_cons_of_mem _ m)]
    rfl
theorem Pl.facts {n : Nat} {d : PyData} (p : Pl n d) : PyData.canLay0 d = true ∧ PyData.depth d ≤ n + 1 ∧ PyData.eqv d d = true := by
  induction p with
  | non => exact ⟨rfl, by simp [PyData.depth], rfl⟩
  | bl b => exact ⟨rfl, by simp [PyData.depth], by simp [PyData.eqv]⟩
  | int i => exact ⟨rfl, by simp [PyData.depth], by simp [PyData.eqv]⟩
  | str x h => exact ⟨h, by simp [PyData.depth], by simp [PyData.eqv]⟩
  | lst h ih =>
    refine ⟨?_, ?_, ?_⟩
    · simp only [PyData.canLay0]
      exact layAll fun d m => (ih d m).1
    · have := depAll fun d m => (ih d m).2.1
      simp only [PyData.depth]
      omega
    · simp only [PyData.eqv]
      exact eqAll fun d m => (ih d m).2.2
  | tup h ih =>
    refine ⟨?_, ?_, ?_⟩
    · simp only [PyData.canLay0]
      exact layAll fun d m => (ih d m).1
    · have := depAll fun d m => (ih d m).2.1
      simp only [PyData.depth]
      omega
    · simp only [PyData.eqv]
      exact eqAll fun d m => (ih d m).2.2
theorem Pl.shaped {n : Nat} {d : PyData} (p : Pl n d) (h : n ≤ 60) : SeqAt.shaped d = true := by
  have f := p.facts
  unfold SeqAt.shaped
  rw [f.1, decide_eq_true (by omega)]
  rfl
def rowD (r : List Int) : PyData := .tuple (r.map .int)
def rowsD (rs : List (List Int)) : PyData := .list (rs.map rowD)
theorem Pl.ints {n : Nat} {ns : List Int} : ∀ d ∈ ns.map PyData.int, Pl n d := fun d m => by
  obtain ⟨i, _, rfl⟩ := List.mem_map.mp m
  exact .int i
theorem Pl.row {n : Nat} (r : List Int) : Pl (n + 1) (rowD r) := .tup Pl.ints
theorem Pl.rows {n : Nat} (rs : List (List Int)) : Pl (n + 2) (rowsD rs) := .lst fun d m => by
  obtain ⟨r, _, rfl⟩ := List.mem_map.mp m
  exact .row r
section
variable {K : PySem.W.Frag} {H : Hp} {Q : VK}
theorem dpRow {a : Addr} {r : List Int} (h : Row H a r) : Dp K H (.ref a) (rowD r) := .tup (SqT.of h) (dpAll_ints r)
theorem dpRows {as : List Addr} {rs : List (List Int)} (h : RowsAt H as rs) : DpAll K H (as.map V.ref) (rs.map rowD) := by
  induction h with
  | nil => exact .nil
  | cons r _ ih => exact .cons (dpRow r) ih
theorem dpList {l : Addr} {as : List Addr} {rs : List (List Int)} (o : H l = some (.lst (as.map V.ref))) (h : RowsAt H as rs) : Dp K H (.ref l) (rowsD rs) := .lst (SqL.of o) (dpRows h)
theorem dpInts {l : Addr} {ns : List Int} (o : H l = some (.lst (ns.map V.int))) : Dp K H (.ref l) (.list (ns.map .int)) := .lst (SqL.of o) (dpAll_ints ns)
/-- x != y, both the same data -/
theorem i_neSame {x y : V} {n : Nat} {d : PyData} (h1 : Dp K H x d) (h2 : Dp K H y d) (p : Pl n d) (hn : n ≤ 60) (q : Q (.bl false) H) : rNeD K x y H Q := ⟨d, d, h1, h2, p.shaped hn, p.shaped hn, by rw [p.facts.2.2]; exact q⟩
/-- a list of rows against [] -/
theorem i_neNil {l e : Addr} {as : List Addr} {rs : List (List Int)} (o : H l = some (.lst (as.map V.ref))) (h : RowsAt H as rs) (oe : H e = some (.lst [])) (q : Q (.bl (!decide (rs = []))) H) : rNeD K (.ref l) (.ref e) H Q := by
  refine ⟨rowsD rs, .list [], dpList o h, .lst (SqL.of oe) .nil, (Pl.rows (n := 0) rs).shaped (by decide), (Pl.lst (n := 0) (fun _ m => by cases m)).shaped (by decide), ?_⟩
  have e1 : PyData.eqv (rowsD rs) (.list []) = decide (rs = []) := by
    unfold rowsD
    cases rs with
    | nil => simp [PyData.eqv, PyData.eqvAll]
    | cons r rs => simp [PyData.eqv, PyData.eqvAll]
  rw [e1]
  exact q
/-- a list of rows == [] -/
theorem i_eqNil {l e : Addr} {as : List Addr} {rs : List (List Int)} (o : H l = some (.lst (as.map V.ref))) (h : RowsAt H as rs) (oe : H e = some (.lst [])) (q : Q (.bl (decide (rs = []))) H) : rEqD K (.ref l) (.ref e) H Q := by
  refine ⟨rowsD rs, .list [], dpList o h, .lst (SqL.of oe) .nil, (Pl.rows (n := 0) rs).shaped (by decide), (Pl.lst (n := 0) (fun _ m => by cases m)).shaped (by decide), ?_⟩
  have e1 : PyData.eqv (rowsD rs) (.list []) = decide (rs = []) := by
    unfold rowsD
    cases rs with
    | nil => simp [PyData.eqv, PyData.eqvAll]
    | cons r rs => simp [PyData.eqv, PyData.eqvAll]
  rw [e1]
  exact q
theorem i_tupleOfT {p : Addr} {ys : List V} (h : H p = some (.tup ys)) (q : Q (.ref p) H) : rTupleOf K [.ref p] H Q := ⟨p, ys, rfl, .inr ⟨SqT.of h, q⟩⟩
end
end U
end

section
set_option Elab.async false
set_option linter.all false
set_option maxRecDepth 100000
set_option maxHeartbeats 4000000
/-! # U: more readings; lists side by side; a method that makes a lambda -/
namespace U
open PySem L2 LamX
/-! ### lists side by side -/
inductive All2 {α β : Type} (R : α → β → Prop) : List α → List β → Prop
  | nil : All2 R [] []
  | cons {a b as bs} : R a b → All2 R as bs → All2 R (a :: as) (b :: bs)
section
variable {α β : Type} {R S : α → β → Prop} {as cs : List α} {bs ds : List β}
theorem All2.len (h : All2 R as bs) : as.length = bs.length := by
  induction h with
  | nil => rfl
  | cons _ _ ih => simp [ih]
theorem All2.imp (h : All2 R as bs) (f : ∀ a b, R a b → S a b) : All2 S as bs := by
  induction h with
  | nil => exact .nil
  | cons r _ ih => exact .cons (f _ _ r) ih
theorem All2.app (h : All2 R as bs) (g : All2 R cs ds) : All2 R (as ++ cs) (bs ++ ds) := by
  induction h with
  | nil => exact g
  | cons r _ ih => exact .cons r ih
theorem All2.get (h : All2 R as bs) : ∀ (i : Nat) a, as[i]? = some a → ∃ b, bs[i]? = some b ∧ R a b := by
  induction h with
  | nil => intro i a e; simp at e
  | cons r _ ih =>
    intro i a e
    cases i with
    | zero => cases Option.some.inj e; exact ⟨_, rfl, r⟩
    | succ i => exact ih i a e
theorem All2.getR (h : All2 R as bs) : ∀ (i : Nat) b, bs[i]? = some b → ∃ a, as[i]? = some a ∧ R a b := by
  induction h with
  | nil => intro i a e; simp at e
  | cons r _ ih =>
    intro i a e
    cases i with
    | zero => cases Option.some.inj e; exact ⟨_, rfl, r⟩
    | succ i => exact ih i a e
theorem All2.perm (h : All2 R as bs) (p : as.Perm cs) : ∃ ds, ds.Perm bs ∧ All2 R cs ds := by
  induction p generalizing bs with
  | nil => exact ⟨bs, .refl _, h⟩
  | cons x p ih =>
    cases h with
    | cons r t =>
      obtain ⟨ds, p1, h1⟩ := ih t
      exact ⟨_, p1.cons _, .cons r h1⟩
  | swap x y l =>
    cases h with
    | cons r t =>
      cases t with
      | cons r2 t2 => exact ⟨_, .swap _ _ _, .cons r2 (.cons r t2)⟩
  | trans p q ih1 ih2 =>
    obtain ⟨d1, p1, h1⟩ := ih1 h
    obtain ⟨d2, p2, h2⟩ := ih2 h1
    exact ⟨d2, p2.trans p1, h2⟩
theorem All2.memL (h : All2 R as bs) {a : α} (m : a ∈ as) : ∃ b ∈ bs, R a b := by
  induction h with
  | nil => cases m
  | cons r _ ih =>
    rcases List.mem_cons.mp m with rfl | m
    · exact ⟨_, List.mem_cons_self, r⟩
    · obtain ⟨b, mb, rb⟩ := ih m
      exact ⟨b, List.mem_cons_of_mem _ mb, rb⟩
theorem All2.memR (h : All2 R as bs) {b : β} (m : b ∈ bs) : ∃ a ∈ as, R a b := by
  induction h with
  | nil => cases m
  | cons r _ ih =>
    rcases List.mem_cons.mp m with rfl | m
    · exact ⟨_, List.mem_cons_self, r⟩
    · obtain ⟨b, mb, rb⟩ := ih m
      exact ⟨b, List.mem_cons_of_mem _ mb, rb⟩
theorem All2.pairwise {P : α → α → Prop} {Q : β → β → Prop} (h : All2 R as bs) (f : ∀ a b c d, R a b → R c d → P a c → Q b d) (p : as.Pairwise P) : bs.Pairwise Q := by
  induction h with
  | nil => exact .nil
  | cons r t ih =>
    obtain ⟨p1, p2⟩ := List.pairwise_cons.mp p
    refine List.pairwise_cons.mpr ⟨fun b m => ?_, ih p2⟩
    obtain ⟨a, ma, ra⟩ := t.memR m
    exact f _ _ _ _ r ra (p1 a ma)
end
/-! ### readings -/
section
variable {σ : L2.St} {H : Hp} {Q : VK} {K : PySem.W.Frag}
theorem i_makeK {C : Addr} {n m : Nat} {sp : Sp} {gV : List V → List V → List V} {E : XK} {t tk : TA} (q : t σ H fun vs H1 => tk σ H1 fun zs H2 => vs.length = n ∧ zs.length = m ∧ ∀ x dx, H2 x = none → H2 dx = none → dx ≠ x → sp (gV (.ref x :: vs) zs) (upd (upd H2 dx (.own x)) x (.ins C dx [])) (fun v H3 => v = .non ∧ Q (.ref x) H3) E) : tMakeK C n m sp gV E t tk σ H Q := q
theorem i_makeN {C : Addr} {n m : Nat} {sp : Sp} {gV : List V → List V → List V} {E : XK} {t tk : TA} (q : t σ H fun vs H1 => tk σ H1 fun zs H2 => vs.length = n ∧ zs.length = m ∧ ∀ x dx, H2 x = none → H2 dx = none → dx ≠ x → sp (gV (.ref x :: vs) zs) (upd (upd H2 dx (.own x)) x (.ins C dx [])) (fun v H3 => v = .non ∧ Q (.ref x) H3) E) : tMakeN C n m sp gV E t tk σ H Q := q
theorem i_eqW {x y : Str} {b : Bool} (e : decide (V.str x = V.str y) = b) (q : Q (.bl b) H) : rEq (.str x) (.str y) H Q := ⟨rfl, by rw [e]; exact q⟩
theorem i_neW {x y : Str} {b : Bool} (e : decide (V.str x = V.str y) = b) (q : Q (.bl (!b)) H) : rNe (.str x) (.str y) H Q := ⟨rfl, by rw [e]; exact q⟩
theorem dB {x y : Bool} : decide (V.bl x = V.bl y) = decide (x = y) := by cases x <;> cases y <;> decide
theorem i_neB {x y : Bool} (q : Q (.bl (!decide (x = y))) H) : rNe (.bl x) (.bl y) H Q := ⟨rfl, by rw [dB]; exact q⟩
theorem i_eqB {x y : Bool} (q : Q (.bl (decide (x = y))) H) : rEq (.bl x) (.bl y) H Q := ⟨rfl, by rw [dB]; exact q⟩
theorem i_in1 {x : V} {p : Addr} {xs : List V} {b : Bool} (h : SqL K H p xs ∨ SqT K H p xs) (hf : flatV x = true) (ha : xs.all flatV = true) (e : inV x xs = b) (q : Q (.bl b) H) : rIn K false x (.ref p) H Q := i_in h hf ha (by
  rw [e]
  exact q)
theorem i_notIn1 {x : V} {p : Addr} {xs : List V} {b : Bool} (h : SqL K H p xs ∨ SqT K H p xs) (hf : flatV x = true) (ha : xs.all flatV = true) (e : inV x xs = b) (q : Q (.bl (!b)) H) : rIn K true x (.ref p) H Q := i_in h hf ha (by
  rw [e]
  exact q)
theorem in_ints {n : Int} {ns : List Int} : inV (.int n) (ns.map V.int) = decide (n ∈ ns) := by
  unfold inV
  rw [List.any_map, Bool.eq_iff_iff, decide_eq_true_iff, List.any_eq_true]
  constructor
  · rintro ⟨y, m, e⟩
    have : y = n := by simpa [eqV, Function.comp] using e
    exact this ▸ m
  · intro m
    exact ⟨n, m, by simp [eqV, Function.comp]⟩
theorem flat_ints {ns : List Int} : (ns.map V.int).all flatV = true := by
  rw [List.all_eq_true]
  intro x m
  obtain ⟨i, _, rfl⟩ := List.mem_map.mp m
  rfl
theorem Pl.listI {n : Nat} (ns : List Int) : Pl (n + 1) (.list (ns.map .int)) := .lst Pl.ints
theorem nilD {ns : List Int} : PyData.eqv (.list (ns.map .int)) (.list []) = decide (ns = []) := by
  cases ns with
  | nil => simp [PyData.eqv, PyData.eqvAll]
  | cons r rs => simp [PyData.eqv, PyData.eqvAll]
/-- a list of numbers against [] -/
theorem i_neNilI {l e : Addr} {ns : List Int} (o : H l = some (.lst (ns.map V.int))) (oe : H e = some (.lst [])) (q : Q (.bl (!decide (ns = []))) H) : rNeD K (.ref l) (.ref e) H Q := by
  refine ⟨.list (ns.map .int), .list [], dpInts o, .lst (SqL.of oe) .nil, (Pl.listI (n := 0) ns).shaped (by decide), (Pl.lst (n := 0) (fun _ m => by cases m)).shaped (by decide), ?_⟩
  rw [nilD]
  exact q
theorem i_eqNilI {l e : Addr} {ns : List Int} (o : H l = some (.lst (ns.map V.int))) (oe : H e = some (.lst [])) (q : Q (.bl (decide (ns = []))) H) : rEqD K (.ref l) (.ref e) H Q := by
  refine ⟨.list (ns.map .int), .list [], dpInts o, .lst (SqL.of oe) .nil, (Pl.listI (n := 0) ns).shaped (by decide), (Pl.lst (n := 0) (fun _ m => by cases m)).shaped (by decide), ?_⟩
  rw [nilD]
  exact q
theorem i_sortF {T : List (Addr × Str)} {te : TE} (q : te σ H fun x H1 => Tabs T H1 ∧ ∀ H2, ExtN H1 H2 → Tabs T H2 → ∃ (l : Addr) (qs : List (Int × Addr)), x = .ref l ∧ SqL K H2 l (qs.map fun q => V.ref q.2) ∧ (∀ q ∈ qs, ∃ ys, H2 q.2 = some (.tup (.int q.1 :: ys))) ∧
    ∀ (rs : List (Int × Addr)) (p : Addr), rs.Perm qs → (rs.Pairwise fun a b => a.1 ≤ b.1) → H2 p = none → Q (.ref p) (upd H2 p (.lst (rs.map fun q => V.ref q.2)))) : tSortF K T te σ H Q := q
end
/-! ### all but what stands at a and the tables -/
def ButN (a : Addr) (H H' : Hp) : Prop := ∀ b o, H b = some o → b ≠ a → (∀ ps, o ≠ .tbl ps) → H' b = some o
section
variable {a b : Addr} {H H1 H2 : Hp}
theorem ButN.refl : ButN a H H := fun _ _ e _ _ => e
theorem ButN.trans (h : ButN a H H1) (g : ButN a H1 H2) : ButN a H H2 := fun b o e n t => g b o (h b o e n t) n t
theorem ButN.same (h : ButN a H H1) (g : Same H1 H2) : ButN a H H2 := fun b o e n t => g b o (h b o e n t)
theorem ButN.of_same (g : Same H H1) : ButN a H H1 := fun b o e _ _ => g b o e
theorem ButN.of_ext (g : ExtN H H1) : ButN a H H1 := fun b o e _ t => g b o e t
theorem ButN.of_but (g : But a H H1) : ButN a H H1 := fun b o e n _ => g b o e n
theorem ButN.tup {xs : List V} {dx C : Addr} {fs : List (Str × V)} (h : ButN a H H1) (x : H a = some (.ins C dx fs)) (o : H b = some (.tup xs)) : H1 b = some (.tup xs) := h b _ o (fun e => by rw [e, x] at o; cases o) fun _ z => nomatch z
theorem ButN.lst {xs : List V} {dx C : Addr} {fs : List (Str × V)} (h : ButN a H H1) (x : H a = some (.ins C dx fs)) (o : H b = some (.lst xs)) : H1 b = some (.lst xs) := h b _ o (fun e => by rw [e, x] at o; cases o) fun _ z => nomatch z
theorem ButN.ins {C dx : Addr} {fs : List (Str × V)} (h : ButN a H H1) (n : b ≠ a) (o : H b = some (.ins C dx fs)) : H1 b = some (.ins C dx fs) := h b _ o n fun _ z => nomatch z
end
/-! ### a method that makes a lambda: its code object is told -/
structure MC (K : PySem.W.Frag) (C : Addr) (m q : Str) (st : Stmt) (ps : List Str) (c : Addr) : Prop where
  ex : ∃ (f : Addr) (fd : FuncData) (oc dV kV dc pm ct : Value) (od an : Option Addr) (sl : Array (Option Value)), fd = PySem.W.fnOf m q (defArgs st) (defBody st) (defScope st) dV kV dc pm an (.ref c) ct ∧ K.lookup f = some ⟨oc, od, .func fd, sl⟩ ∧ PySem.W.codeIn K (.ref c) q = true ∧ Cls K C ∧ Meth K C m f ∧ BD K fd ps []
section
variable {P : Program} {w : World} {K : PySem.W.Frag} {mg : Str → Option Value} {base : Heap}
theorem MC.ok {C c : Addr} {m q : Str} {st : Stmt} {ps N : List Str} {k : Nat} {sp : Sp} (F : MC K C m q st ps c) (S : FnScope N ps (defScope st)) (len : ∀ vs H Q E, sp vs H Q E → vs.length = ps.length)
    (hbody : ∀ (f : Addr) (A : Around) (outer : List Env) (s : Shared) (H : Hp) (vs : List V) (Q : VK) (E : XK), Room k (A.deeper (PyProof.Rows.envOfC q (defScope st) s.heap.objs.size f (.ref c))) → sp vs H Q E →
      ∃ t, PSs (cxOf (L2N.CX P w) P w K mg base N q (defScope st) f (.ref c) A outer s H E) (defBody st) t ∧ t { nx := fun _ H' => Q .non H', rt := Q } (start N vs) H) : Mt P w K mg base (k + 1) C m sp [] := by
  obtain ⟨f, fd, oc, dV, kV, dc, pm, ct, od, an, sl, rfl, lk, cd, cl, hm, b⟩ := F.ex
  exact ⟨f, _, ps, fn_of lk cd S len fun A outer s H vs Q E hr h => hbody f A outer s H vs Q E hr h, cl, hm, b⟩
end
end U
end

section
set_option Elab.async false
set_option linter.all false
set_option maxRecDepth 100000
set_option maxHeartbeats 4000000
/-! # UB: sorted of tuples of a number and something, the numbers all different -/
namespace U
open PySem L2 PySem.Spec PyProof.Rows PySem.W PySem.Calls
section
variable {prog : Program} {w : World} {A : Around} {E : Value → Shared → Prop} {s : Shared}
theorem eqB_same {r : Addr} {Q : Bool → Shared → Prop} (h : Q true s) : wpAny (model prog w) A (eqBool (.ref r) (.ref r)) Q E s := by
  unfold eqBool
  refine wpAny_holding ?_
  refine wpAny_ite_split (fun _ => ?_) (fun n => absurd (beq_self_eq_true (Value.ref r)) n)
  exact wpAny_bind (wpAny_rule (wpAny_pure h))
end
/-- a value that is one of these, by its number -/
def keyIn (qs : List (Int × Addr)) : Value → Option Int
  | .ref t => (qs.find? fun q => q.2 == t).map (·.1)
  | _ => none
def intKind (qs : List (Int × Addr)) : KeyKind where
  α := Int
  blt := fun a b => decide (a < b)
  irrefl := fun a => decide_eq_false (Int.lt_irrefl a)
  trans := fun a b c h1 h2 => by
    have := of_decide_eq_true h1
    have := of_decide_eq_true h2
    exact decide_eq_true (by omega)
  negTrans := fun a b c h => by
    have := of_decide_eq_true h
    by_cases z : a < b
    · exact .inl (decide_eq_true z)
    · exact .inr (decide_eq_true (by omega))
  total := fun a b h1 h2 => by
    have := of_decide_eq_false h1
    have := of_decide_eq_false h2
    omega
  keyOf := keyIn qs
  dflt := 0
theorem keyIn_some {qs : List (Int × Addr)} {v : Value} {k : Int} (h : keyIn qs v = some k) : ∃ t, v = .ref t ∧ (k, t) ∈ qs := by
  cases v with
  | ref t =>
    obtain ⟨q, hq, rfl⟩ := Option.map_eq_some_iff.mp (show (qs.find? fun q => q.2 == t).map (·.1) = some k from h)
    have m := List.mem_of_find?_eq_some hq
    have e : q.2 = t := eq_of_beq (List.find?_some (p := fun q : Int × Addr => q.2 == t) hq)
    exact ⟨t, rfl, by rw [← e]; exact m⟩
  | _ => cases h
theorem keyIn_mem {qs : List (Int × Addr)} (one : ∀ q ∈ qs, ∀ r ∈ qs, q.2 = r.2 → q.1 = r.1) {q : Int × Addr} (m : q ∈ qs) : keyIn qs (.ref q.2) = some q.1 := by
  show (qs.find? fun r => r.2 == q.2).map (·.1) = some q.1
  cases h : qs.find? fun r => r.2 == q.2 with
  | none =>
    have := List.find?_eq_none.mp h q m
    exact absurd (beq_self_eq_true q.2) this
  | some r =>
    have m2 := List.mem_of_find?_eq_some h
    have e : r.2 = q.2 := eq_of_beq (List.find?_some (p := fun r : Int × Addr => r.2 == q.2) h)
    show some r.1 = some q.1
    rw [one r m2 q m e]
/-- what sorted asks and tells -/
def rSortedF (K : PySem.W.Frag) : List V → Hp → VK → Prop := fun vs H Q => ∃ (a : Addr) (qs : List (Int × Addr)), vs = [.ref a] ∧ SqL K H a (qs.map fun q => V.ref q.2) ∧ (∀ q ∈ qs, ∃ r, H q.2 = some (.tup [.int q.1, .ref r])) ∧ qs.Pairwise (fun a b => a.1 ≠ b.1) ∧
  ∀ (rs : List (Int × Addr)) (p : Addr), rs.Perm qs → (rs.Pairwise fun a b => a.1 ≤ b.1) → H p = none → Q (.ref p) (upd H p (.lst (rs.map fun q => V.ref q.2)))
theorem intEq {a b : Int} (h : (a == b) = true) : a = b := eq_of_beq h
theorem pw_inj {qs : List (Int × Addr)} (d : qs.Pairwise fun a b => a.1 ≠ b.1) : ∀ q ∈ qs, ∀ r ∈ qs, q.1 = r.1 → q = r := by
  induction d with
  | nil => intro q m; cases m
  | @cons a l h _ ih =>
    intro q mq r mr e
    rcases List.mem_cons.mp mq with e1 | m1
    · rcases List.mem_cons.mp mr with e2 | m2
      · rw [e1, e2]
      · exact absurd (by rw [← e1]; exact e) (h r m2)
    · rcases List.mem_cons.mp mr with e2 | m2
      · exact absurd (by rw [← e2]; exact e.symm) (h q m1)
      · exact ih q m1 r m2 e
theorem cr_sortedF {X : Cx} : CallR X (.builtin "sorted") (rSortedF X.K) := by
  intro pins s σ H vs us Q I r h
  obtain ⟨a, qs, rfl, sq, firsts, diff, q⟩ := h
  obtain ⟨its, rv, hl, hz⟩ := I.list sq
  obtain rfl := refs_vals qs rv
  obtain ⟨u, rfl, ru⟩ := vals1 r
  obtain rfl : u = Value.ref a := ru
  rw [List.length_map] at hz
  have one : ∀ q ∈ qs, ∀ r ∈ qs, q.2 = r.2 → q.1 = r.1 := fun x mx y my e => by
    obtain ⟨r1, h1⟩ := firsts x mx
    obtain ⟨r2, h2⟩ := firsts y my
    rw [e, h2] at h1
    injection h1 with h1
    injection h1 with h1
    injection h1 with h1 _
    injection h1 with h1
    exact h1.symm
  have tup : ∀ x ∈ qs, ∃ r t0 o n, s.heap.get? x.2 = some o ∧ o.cls = .type "tuple" ∧ o.data = .seq #[Value.int x.1 t0, Value.ref r] n := fun x mx => by
    obtain ⟨r, hr⟩ := firsts x mx
    obtain ⟨us, rt, ⟨o, ho, hc, n, hd⟩, _⟩ := I.tuple (SqT.of hr)
    obtain ⟨u1, u2, rfl, r1, r2⟩ := vals2 rt
    obtain ⟨t0, rfl⟩ := r1
    cases r2
    exact ⟨r, t0, o, n, ho, hc, hd⟩
  refine G.sortedG (κ := intKind qs) (kd := tuples' true) hl.isList (fun p mp => ?_) (fun s₂ k => ?_) (fun h2 A E s₂ R k hq => ?_) (by rw [List.length_map]; exact hz) (fun st pm srt _ => ?_)
  · rw [pairsOf_toList] at mp
    obtain ⟨x, mx, e⟩ := List.mem_map.mp (mem_zip_self mp).2
    exact ⟨x.1, by rw [← e]; exact keyIn_mem one mx⟩
  · intro A E x y kx ky R hx hy hq
    obtain ⟨t, rfl, mt⟩ := keyIn_some hx
    obtain ⟨v, rfl, mv⟩ := keyIn_some hy
    obtain ⟨r1, t1, o1, n1, g1, c1, d1⟩ := tup _ mt
    obtain ⟨r2, t2, o2, n2, g2, c2, d2⟩ := tup _ mv
    refine kat_lt (k _ _ g1 c1) d1 (k _ _ g2 c2) d2 ?_
    refine kat_cons (wpAny_eqBool_int ?_)
    refine kat_go (fun e => kat_yes ?_) (fun e => kat_no (oneLt_any_int hq))
    have e' : kx = ky := intEq e
    have same := pw_inj diff _ mt _ mv e'
    cases same
    rw [g1] at g2
    cases g2
    rw [d1] at d2
    cases d2
    refine kat_cons (eqB_same (kat_yes (kat_nil ?_)))
    have z : (intKind qs).blt kx kx = false := (intKind qs).irrefl kx
    have hq' : R false s₂ := by
      have h' : R ((intKind qs).blt kx kx) s₂ := hq
      rw [z] at h'
      exact h'
    exact hq'
  · have tups : ∀ l : List (Int × Addr), (∀ x ∈ l, x ∈ qs) → ∃ fs, fs.length = l.length ∧ TupsOf s₂.heap (fun _ => false) (l.map fun q => Value.ref q.2) fs := by
      intro l
      induction l with
      | nil => intro _; exact ⟨[], rfl, .nil⟩
      | cons x l ih =>
        intro m
        obtain ⟨fs, lf, hf⟩ := ih fun y my => m y (List.mem_cons_of_mem _ my)
        obtain ⟨r1, t1, o1, n1, g1, c1, d1⟩ := tup _ (m x List.mem_cons_self)
        exact ⟨_ :: fs, by rw [List.length_cons, lf, List.length_cons], .cons ⟨x.2, o1, _, n1, rfl, k _ _ g1 c1, c1, d1, rfl, fun _ => ⟨_, _, rfl⟩, fun z => nomatch z⟩ hf⟩
    obtain ⟨fs, lf, hf⟩ := tups qs fun _ m => m
    rw [List.length_map] at h2
    exact tup_kind (by omega) hf hq
  · generalize harr : arrOf st = arr at pm srt ⊢
    have pl : arr.toList.Perm ((qs.map fun q => Value.ref q.2).zip (qs.map fun q => Value.ref q.2)) := by
      rw [← pairsOf_toList]
      exact Array.perm_iff_toList_perm.mp pm
    have both : ∀ p ∈ arr.toList, p.1 = p.2 ∧ ∃ x ∈ qs, p.1 = Value.ref x.2 := fun p mp => by
      have mz := mem_zip_self (pl.mem_iff.mp mp)
      obtain ⟨x, mx, e⟩ := List.mem_map.mp mz.2
      exact ⟨mz.1, x, mx, e.symm⟩
    let g : Value × Value → Int × Addr := fun p => ((keyIn qs p.1).getD 0, match p.2 with | .ref t => t | _ => 0)
    have gq : ((qs.map fun q => Value.ref q.2).zip (qs.map fun q => Value.ref q.2)).map g = qs := by
      rw [List.zip_map', List.map_map]
      refine (List.map_congr_left (g := id) fun x mx => ?_).trans (List.map_id _)
      show ((keyIn qs (.ref x.2)).getD 0, x.2) = x
      rw [keyIn_mem one mx]
      rfl
    have pr : (arr.toList.map g).Perm qs := by
      have := pl.map g
      rw [gq] at this
      exact this
    have back : (arr.toList.map g).map (fun q => Value.ref q.2) = (arr.map (·.2)).toList := by
      rw [List.map_map, Array.toList_map]
      refine List.map_congr_left fun p mp => ?_
      obtain ⟨e1, x, _, e2⟩ := both p mp
      show Value.ref (match p.2 with | .ref t => t | _ => 0) = p.2
      rw [← e1, e2]
    have so : (arr.toList.map g).Pairwise fun a b => a.1 ≤ b.1 := by
      rw [List.pairwise_iff_getElem]
      intro i j hi hj lt
      rw [List.length_map] at hi hj
      rw [List.getElem_map, List.getElem_map]
      have sz : (pairsOf (qs.map fun q => Value.ref q.2)).size = arr.size := (pm.size_eq).symm
      have hs := srt i j (Nat.le_of_lt lt) (by rw [sz, ← Array.length_toList]; exact hj)
      have kk : ∀ i (hi : i < arr.toList.length), KK (intKind qs) arr i = (g arr.toList[i]).1 := fun i hi => by
        unfold KK
        rw [Array.length_toList] at hi
        rw [Array.getElem?_eq_getElem hi]
        rfl
      rw [kk i hi, kk j hj] at hs
      have hs' : decide ((g arr.toList[j]).1 < (g arr.toList[i]).1) = false := hs
      have := of_decide_eq_false hs'
      omega
    obtain ⟨n, hn⟩ := sortedAll_at s.heap (qs.map fun q => Value.ref q.2) (arr.map (·.2))
    refine ⟨.ref (s.heap.objs.size + 1), upd H (s.heap.objs.size + 1) (.lst ((arr.toList.map g).map fun q => V.ref q.2)), I.laid (t' := s.toks) (fun b o e => sortedAll_old e) (Nat.le_succ _) ⟨?_, (arr.map (·.2)).toList, n, ?_, ?_⟩, rfl, q _ _ pr so (I.hok.fresh (Nat.le_succ _))⟩
    · rw [List.length_map, pr.length_eq]
      exact hz
    · rw [← back]
      exact vals_refs _
    · rw [Array.toArray_toList]
      exact hn
theorem i_sortedF {H : Hp} {Q : VK} {K : PySem.W.Frag} {a : Addr} {qs : List (Int × Addr)} (o : H a = some (.lst (qs.map fun q => V.ref q.2))) (f : ∀ q ∈ qs, ∃ r, H q.2 = some (.tup [.int q.1, .ref r])) (d : qs.Pairwise (fun a b => a.1 ≠ b.1))
    (q : ∀ (rs : List (Int × Addr)) (p : Addr), rs.Perm qs → (rs.Pairwise fun a b => a.1 ≤ b.1) → H p = none → Q (.ref p) (upd H p (.lst (rs.map fun q => V.ref q.2)))) : rSortedF K [.ref a] H Q := ⟨a, qs, rfl, SqL.of o, f, d, q⟩
end U
end

section
set_option Elab.async false
set_option linter.all false
set_option maxRecDepth 100000
set_option maxHeartbeats 4000000
/-! # UB2: UB: sorted of tuples of a number and something, the numbers all different -/
namespace U
open PySem L2 PySem.Spec PyProof.Rows PySem.W PySem.Calls
/-- what sorted asks and tells -/
def rSorted4 (K : PySem.W.Frag) : List V → Hp → VK → Prop := fun vs H Q => ∃ (a : Addr) (qs : List (Int × Addr)), vs = [.ref a] ∧ SqL K H a (qs.map fun q => V.ref q.2) ∧ (∀ q ∈ qs, ∃ s1 s2 m, H q.2 = some (.tup [.int q.1, .str s1, .str s2, .int m])) ∧ qs.Pairwise (fun a b => a.1 ≠ b.1) ∧
  ∀ (rs : List (Int × Addr)) (p : Addr), rs.Perm qs → (rs.Pairwise fun a b => a.1 ≤ b.1) → H p = none → Q (.ref p) (upd H p (.lst (rs.map fun q => V.ref q.2)))
theorem cr_sorted4 {X : Cx} : CallR X (.builtin "sorted") (rSorted4 X.K) := by
  intro pins s σ H vs us Q I r h
  obtain ⟨a, qs, rfl, sq, firsts, diff, q⟩ := h
  obtain ⟨its, rv, hl, hz⟩ := I.list sq
  obtain rfl := refs_vals qs rv
  obtain ⟨u, rfl, ru⟩ := vals1 r
  obtain rfl : u = Value.ref a := ru
  rw [List.length_map] at hz
  have one : ∀ q ∈ qs, ∀ r ∈ qs, q.2 = r.2 → q.1 = r.1 := fun x mx y my e => by
    obtain ⟨_, _, _, h1⟩ := firsts x mx
    obtain ⟨_, _, _, h2⟩ := firsts y my
    rw [e, h2] at h1
    injection h1 with h1
    injection h1 with h1
    injection h1 with h1 _
    injection h1 with h1
    exact h1.symm
  have tup : ∀ x ∈ qs, ∃ s1 s2 m t0 t1 t2 t3 o n, s.heap.get? x.2 = some o ∧ o.cls = .type "tuple" ∧ o.data = .seq #[Value.int x.1 t0, Value.str s1 t1, Value.str s2 t2, Value.int m t3] n := fun x mx => by
    obtain ⟨s1, s2, m, hr⟩ := firsts x mx
    obtain ⟨us, rt, ⟨o, ho, hc, n, hd⟩, _⟩ := I.tuple (SqT.of hr)
    cases rt with
    | cons r1 rt =>
      cases rt with
      | cons r2 rt =>
        cases rt with
        | cons r3 rt =>
          obtain ⟨u4, rfl, r4⟩ := vals1 rt
          obtain ⟨t0, rfl⟩ := r1
          obtain ⟨t1, rfl⟩ := r2
          obtain ⟨t2, rfl⟩ := r3
          obtain ⟨t3, rfl⟩ := r4
          exact ⟨s1, s2, m, t0, t1, t2, t3, o, n, ho, hc, hd⟩
  refine G.sortedG (κ := intKind qs) (kd := tuples' true) hl.isList (fun p mp => ?_) (fun s₂ k => ?_) (fun h2 A E s₂ R k hq => ?_) (by rw [List.length_map]; exact hz) (fun st pm srt _ => ?_)
  · rw [pairsOf_toList] at mp
    obtain ⟨x, mx, e⟩ := List.mem_map.mp (mem_zip_self mp).2
    exact ⟨x.1, by rw [← e]; exact keyIn_mem one mx⟩
  · intro A E x y kx ky R hx hy hq
    obtain ⟨t, rfl, mt⟩ := keyIn_some hx
    obtain ⟨v, rfl, mv⟩ := keyIn_some hy
    obtain ⟨p1, p2, p3, t1, t2, t3, t4, o1, n1, g1, c1, d1⟩ := tup _ mt
    obtain ⟨p5, p6, p7, t5, t6, t7, t8, o2, n2, g2, c2, d2⟩ := tup _ mv
    refine kat_lt (k _ _ g1 c1) d1 (k _ _ g2 c2) d2 ?_
    refine kat_cons (wpAny_eqBool_int ?_)
    refine kat_go (fun e => kat_yes ?_) (fun e => kat_no (oneLt_any_int hq))
    have e' : kx = ky := intEq e
    have same := pw_inj diff _ mt _ mv e'
    cases same
    rw [g1] at g2
    cases g2
    rw [d1] at d2
    cases d2
    refine kat_cons (wpAny_eqBool_str ?_)
    rw [decide_eq_true rfl]
    refine kat_yes (kat_cons (wpAny_eqBool_str ?_))
    rw [decide_eq_true rfl]
    refine kat_yes (kat_cons (wpAny_eqBool_int ?_))
    rw [beq_self_eq_true]
    refine kat_yes (kat_nil ?_)
    have z : (intKind qs).blt kx kx = false := (intKind qs).irrefl kx
    have hq' : R false s₂ := by
      have h' : R ((intKind qs).blt kx kx) s₂ := hq
      rw [z] at h'
      exact h'
    exact hq'
  · have tups : ∀ l : List (Int × Addr), (∀ x ∈ l, x ∈ qs) → ∃ fs, fs.length = l.length ∧ TupsOf s₂.heap (fun _ => false) (l.map fun q => Value.ref q.2) fs := by
      intro l
      induction l with
      | nil => intro _; exact ⟨[], rfl, .nil⟩
      | cons x l ih =>
        intro m
        obtain ⟨fs, lf, hf⟩ := ih fun y my => m y (List.mem_cons_of_mem _ my)
        obtain ⟨p1, p2, p3, t1, t2, t3, t4, o1, n1, g1, c1, d1⟩ := tup _ (m x List.mem_cons_self)
        exact ⟨_ :: fs, by rw [List.length_cons, lf, List.length_cons], .cons ⟨x.2, o1, _, n1, rfl, k _ _ g1 c1, c1, d1, rfl, fun _ => ⟨_, _, rfl⟩, fun z => nomatch z⟩ hf⟩
    obtain ⟨fs, lf, hf⟩ := tups qs fun _ m => m
    rw [List.length_map] at h2
    exact tup_kind (by omega) hf hq
  · generalize harr : arrOf st = arr at pm srt ⊢
    have pl : arr.toList.Perm ((qs.map fun q => Value.ref q.2).zip (qs.map fun q => Value.ref q.2)) := by
      rw [← pairsOf_toList]
      exact Array.perm_iff_toList_perm.mp pm
    have both : ∀ p ∈ arr.toList, p.1 = p.2 ∧ ∃ x ∈ qs, p.1 = Value.ref x.2 := fun p mp => by
      have mz := mem_zip_self (pl.mem_iff.mp mp)
      obtain ⟨x, mx, e⟩ := List.mem_map.mp mz.2
      exact ⟨mz.1, x, mx, e.symm⟩
    let g : Value × Value → Int × Addr := fun p => ((keyIn qs p.1).getD 0, match p.2 with | .ref t => t | _ => 0)
    have gq : ((qs.map fun q => Value.ref q.2).zip (qs.map fun q => Value.ref q.2)).map g = qs := by
      rw [List.zip_map', List.map_map]
      refine (List.map_congr_left (g := id) fun x mx => ?_).trans (List.map_id _)
      show ((keyIn qs (.ref x.2)).getD 0, x.2) = x
      rw [keyIn_mem one mx]
      rfl
    have pr : (arr.toList.map g).Perm qs := by
      have := pl.map g
      rw [gq] at this
      exact this
    have back : (arr.toList.map g).map (fun q => Value.ref q.2) = (arr.map (·.2)).toList := by
      rw [List.map_map, Array.toList_map]
      refine List.map_congr_left fun p mp => ?_
      obtain ⟨e1, x, _, e2⟩ := both p mp
      show Value.ref (match p.2 with | .ref t => t | _ => 0) = p.2
      rw [← e1, e2]
    have so : (arr.toList.map g).Pairwise fun a b => a.1 ≤ b.1 := by
      rw [List.pairwise_iff_getElem]
      intro i j hi hj lt
      rw [List.length_map] at hi hj
      rw [List.getElem_map, List.getElem_map]
      have sz : (pairsOf (qs.map fun q => Value.ref q.2)).size = arr.size := (pm.size_eq).symm
      have hs := srt i j (Nat.le_of_lt lt) (by rw [sz, ← Array.length_toList]; exact hj)
      have kk : ∀ i (hi : i < arr.toList.length), KK (intKind qs) arr i = (g arr.toList[i]).1 := fun i hi => by
        unfold KK
        rw [Array.length_toList] at hi
        rw [Array.getElem?_eq_getElem hi]
        rfl
      rw [kk i hi, kk j hj] at hs
      have hs' : decide ((g arr.toList[j]).1 < (g arr.toList[i]).1) = false := hs
      have := of_decide_eq_false hs'
      omega
    obtain ⟨n, hn⟩ := sortedAll_at s.heap (qs.map fun q => Value.ref q.2) (arr.map (·.2))
    refine ⟨.ref (s.heap.objs.size + 1), upd H (s.heap.objs.size + 1) (.lst ((arr.toList.map g).map fun q => V.ref q.2)), I.laid (t' := s.toks) (fun b o e => sortedAll_old e) (Nat.le_succ _) ⟨?_, (arr.map (·.2)).toList, n, ?_, ?_⟩, rfl, q _ _ pr so (I.hok.fresh (Nat.le_succ _))⟩
    · rw [List.length_map, pr.length_eq]
      exact hz
    · rw [← back]
      exact vals_refs _
    · rw [Array.toArray_toList]
      exact hn
theorem i_sorted4 {H : Hp} {Q : VK} {K : PySem.W.Frag} {a : Addr} {qs : List (Int × Addr)} (o : H a = some (.lst (qs.map fun q => V.ref q.2))) (f : ∀ q ∈ qs, ∃ s1 s2 m, H q.2 = some (.tup [.int q.1, .str s1, .str s2, .int m])) (d : qs.Pairwise (fun a b => a.1 ≠ b.1))
    (q : ∀ (rs : List (Int × Addr)) (p : Addr), rs.Perm qs → (rs.Pairwise fun a b => a.1 ≤ b.1) → H p = none → Q (.ref p) (upd H p (.lst (rs.map fun q => V.ref q.2)))) : rSorted4 K [.ref a] H Q := ⟨a, qs, rfl, SqL.of o, f, d, q⟩
end U
end

section
set_option Elab.async false
set_option linter.all false
set_option maxRecDepth 100000
set_option maxHeartbeats 4000000
/-! # U: len() and repr() of an own class, the truth of what has its own __len__ -/
namespace U
open PySem L2
section
variable {X : Cx} {n : Nat} {f C : Addr} {fd : FuncData} {ps : List Str} {sp : Sp}
/-- a def called somewhere below the running body -/
theorem own_call {A : Around} {pins : List (Addr × Obj)} {s : Shared} {σ : L2.St} {H : Hp} {xs : List V} {us : List Value} {Q : VK} (room : Room n A) (fr : A.frames = X.A.frames)
    (F : FnOk X.prog X.w X.K X.mg X.base (L2N.CX X.prog X.w) n f fd ps sp) (hb : Binds X.K fd ps []) (I : Inv X pins σ H s) (r : Vals xs us) (h : sp xs H Q fun _ _ _ => False) :
    wpAny (model X.prog X.w) A (call (.ref f) us) (EP X pins σ Q) X.xe s := by
  have e := I.env0
  have len : (us ++ []).length = ps.length := by
    rw [List.append_nil, ← F.len _ _ _ _ h]
    exact r.length.symm
  have bt : BindsTo s fd ⟨us, []⟩ (ps.zip us) := by simpa using hb s us I.kIn len
  have run := F.run A X.stack s H ⟨us, []⟩ us xs Q _ room { e with frames := fr ▸ e.frames } bt r h
  refine wpAny_call (codeAny_mono run ?_)
  intro z s' hz
  rcases z with er | fl
  · exact U.passN pins σ H s er s' I hz
  · cases fl with
    | ret u => exact I.after hz
    | _ => exact hz.elim
/-- what len() of an own thing asks -/
def rLenO (C : Addr) (sp : Sp) : List V → Hp → VK → Prop := fun xs H Q => ∃ a dx fs, xs = [.ref a] ∧ H a = some (.ins C dx fs) ∧ sp [.ref a] H (fun v H' => ∃ k : Int, v = .int k ∧ 0 ≤ k ∧ k < 2 ^ 63 ∧ Q (.int k) H') fun _ _ _ => False
theorem call_lenO (hs : PySem.W.findIn X.K (.ref C) "__len__" = some (some (.ref f))) (hf : PySem.W.isFn X.K (.ref f) = true) (room : Room (n + 1) X.A)
    (F : FnOk X.prog X.w X.K X.mg X.base (L2N.CX X.prog X.w) n f fd ps sp) (hb : Binds X.K fd ps []) : CallR X (.builtin "len") (rLenO C sp) := by
  intro pins s σ H xs us Q I r h
  obtain ⟨a, dx, fs, rfl, ha, hsp⟩ := h
  obtain ⟨u, rfl, ru⟩ : ∃ u, us = [u] ∧ RelV (.ref a) u := by
    cases r with
    | cons h t => cases t; exact ⟨_, rfl, h⟩
  cases ru
  obtain ⟨mA, J, _⟩ := ins_get I.hok ha
  obtain ⟨od, J, _⟩ := J.look
  obtain ⟨m, hF⟩ := I.fr
  refine PySem.W.len_K hF I.ok.mod.kin J hs hf ?_
  refine wpAny_mono (own_call room.in1 rfl F hb I r hsp) (fun v s' z => ?_) fun _ _ y => y
  obtain ⟨x, H', I', rx, k, rfl, k0, k1, q⟩ := z
  obtain ⟨t, rfl⟩ := rx
  exact ⟨⟨k0, k1⟩, .int k, H', I'.tok _, ⟨_, rfl⟩, q⟩
/-- the truth of an own thing without __bool__: its length -/
theorem own_truth {A : Around} {pins : List (Addr × Obj)} {s : Shared} {σ : L2.St} {H : Hp} {a dx : Addr} {fs : List (Str × V)} {Q : Bool → Hp → Prop} (room : Room (n + 1) A) (fr : A.frames = X.A.frames) (hbl : PySem.W.findIn X.K (.ref C) "__bool__" = some none) (hs : PySem.W.findIn X.K (.ref C) "__len__" = some (some (.ref f))) (hf : PySem.W.isFn X.K (.ref f) = true)
    (F : FnOk X.prog X.w X.K X.mg X.base (L2N.CX X.prog X.w) n f fd ps sp) (hb : Binds X.K fd ps []) (I : Inv X pins σ H s) (ha : H a = some (.ins C dx fs)) (hsp : sp [.ref a] H (fun v H' => ∃ k : Int, v = .int k ∧ 0 ≤ k ∧ k < 2 ^ 63 ∧ Q (k != 0) H') fun _ _ _ => False) :
    wpAny (model X.prog X.w) A (truthy (.ref a)) (TP X pins σ Q) X.xe s := by
  obtain ⟨mA, J, _⟩ := ins_get I.hok ha
  obtain ⟨od, J, _⟩ := J.look
  have K1 := I.kIn
  have inner : wpAny (model X.prog X.w) A (runValue (.builtin "len" ⟨[.ref a], []⟩)) (fun v s' => ∃ k t, v = .int k t ∧ TP X pins σ Q (k != 0) s') X.xe s := by
    refine wpAny_runValue (codeAny_builtin entry_len ?_)
    rw [Around.under_plainId plain_len _]
    unfold Builtin.«len»
    refine wpAny_bind (m := oneArg "len" _) (wpAny_pure ?_)
    refine wpAny_bind (m := callSpecial? (.ref a) (Str.ofString "__len__")) (PySem.W.special_fn K1 J hs (beq_iff_eq.mp hf) (wpAny_mono (own_call (xs := [.ref a]) room.in1 fr F hb I (.cons rfl .nil) hsp) (fun v s' z => ?_) fun _ _ y => y))
    obtain ⟨x, H', I', rx, k, rfl, k0, k1, q⟩ := z
    obtain ⟨t, rfl⟩ := rx
    refine wpAny_bind (wpAny_holding (wpAny_pure (wpAny_bind (wpAny_letGo ?_))))
    show wpAny _ _ (if k < 0 then _ else _) _ _ _
    rw [if_neg (Int.not_lt.mpr k0)]
    show wpAny _ _ (if k ≥ 2 ^ 63 then _ else _) _ _ _
    rw [if_neg (Int.not_le.mpr k1)]
    refine wpAny_bind (wpAny_mkInt (wpAny_pure ?_))
    exact ⟨k, _, rfl, H', I'.tok _, q⟩
  unfold truthy
  refine wpAny_bind (m := callSpecial? (.ref a) (Str.ofString "__bool__")) (DSub.special_no K1 J hbl ?_)
  refine wpAny_bind (wpAny_bind (J.type.here ((PySem.W.looks_findIn K1 hs).here ?_)))
  refine wpAny_bind (wpAny_mono inner (fun v s' z => ?_) fun _ _ y => y)
  obtain ⟨k, t, rfl, q⟩ := z
  exact wpAny_pure q
theorem tru_lenO (hbl : PySem.W.findIn X.K (.ref C) "__bool__" = some none) (hs : PySem.W.findIn X.K (.ref C) "__len__" = some (some (.ref f))) (hf : PySem.W.isFn X.K (.ref f) = true) (room : Room (n + 1) X.A)
    (F : FnOk X.prog X.w X.K X.mg X.base (L2N.CX X.prog X.w) n f fd ps sp) (hb : Binds X.K fd ps []) :
    TruR X (fun x H Q => ∃ a dx fs, x = .ref a ∧ H a = some (.ins C dx fs) ∧ sp [.ref a] H (fun v H' => ∃ k : Int, v = .int k ∧ 0 ≤ k ∧ k < 2 ^ 63 ∧ Q (k != 0) H') fun _ _ _ => False) := by
  intro pins s σ H x u Q I r h
  obtain ⟨a, dx, fs, rfl, ha, hsp⟩ := h
  cases r
  exact own_truth room rfl hbl hs hf F hb I ha hsp
/-- bool() of an own thing -/
def rBoolO (C : Addr) (sp : Sp) : List V → Hp → VK → Prop := fun xs H Q => ∃ a dx fs, xs = [.ref a] ∧ H a = some (.ins C dx fs) ∧ sp [.ref a] H (fun v H' => ∃ k : Int, v = .int k ∧ 0 ≤ k ∧ k < 2 ^ 63 ∧ Q (.bl (k != 0)) H') fun _ _ _ => False
theorem call_boolO (hbl : PySem.W.findIn X.K (.ref C) "__bool__" = some none) (hs : PySem.W.findIn X.K (.ref C) "__len__" = some (some (.ref f))) (hf : PySem.W.isFn X.K (.ref f) = true) (room : Room (n + 3) X.A)
    (F : FnOk X.prog X.w X.K X.mg X.base (L2N.CX X.prog X.w) n f fd ps sp) (hb : Binds X.K fd ps []) : CallR X (.type "bool") (rBoolO C sp) := by
  intro pins s σ H xs us Q I r h
  obtain ⟨a, dx, fs, rfl, ha, hsp⟩ := h
  obtain ⟨u, rfl, ru⟩ := vals1 r
  cases ru
  have g : MeetsIn X.prog X.w (Builtin.«bool.__new__» ⟨[.type "bool", .ref a], []⟩) (fun A R s => wpAny (model X.prog X.w) A.in1 (truthy (.ref a)) (fun b s' => R (.ok (.ret (.bool b))) s') (fun e s' => R (.error e) s') s) := MeetsIn.of_wp fun A R s1 hs1 => by
    obtain ⟨hp, gg, d, tk, os⟩ := s1
    have f1 := PySem.F.conv_sub_bool
    have hs2 := wpAny_mono hs1 (Q' := fun b s' => wpAny (model X.prog X.w) A.in1 (ret (.bool b)) (fun fin s' => ∃ v, fin = Fin.done (Flow.ret v) ∧ R (Except.ok (Flow.ret v)) s') (fun e s' => R (.error e) s') s') (fun b s' z => wpAny_pure ⟨_, rfl, z⟩) fun _ _ y => y
    repeat (any_goals (first | assumption | exact wpAny_bind hs2 | wp_step))
  refine callType_newIn PySem.F.called_bool PySem.F.newNe_bool (PySem.F.typeCall_bool_1 _) (PySem.F.newCall_bool_1 _) (fun obj => PySem.F.args_object_init_2 obj _) PySem.F.entry_bool_new g ?_
  refine wpAny_mono (own_truth (Q := fun b H' => Q (.bl b) H') room.in1.in1 rfl hbl hs hf F hb I ha hsp) (fun b s' z => ?_) fun _ _ y => y
  obtain ⟨H', I', q⟩ := z
  exact ⟨typeIs_bool _ _, .bl b, H', I', rfl, q⟩
/-- repr() of an own thing -/
def rReprO (C : Addr) (sp : Sp) : List V → Hp → VK → Prop := fun xs H Q => ∃ a dx fs, xs = [.ref a] ∧ H a = some (.ins C dx fs) ∧ sp [.ref a] H (fun v H' => ∃ z : Str, v = .str z ∧ Q (.str z) H') fun _ _ _ => False
theorem call_reprO (hs : PySem.W.findIn X.K (.ref C) "__repr__" = some (some (.ref f))) (hf : PySem.W.isFn X.K (.ref f) = true) (room : Room (n + 1) X.A)
    (F : FnOk X.prog X.w X.K X.mg X.base (L2N.CX X.prog X.w) n f fd ps sp) (hb : Binds X.K fd ps []) : CallR X (.builtin "repr") (rReprO C sp) := by
  intro pins s σ H xs us Q I r h
  obtain ⟨a, dx, fs, rfl, ha, hsp⟩ := h
  obtain ⟨u, rfl, ru⟩ := vals1 r
  cases ru
  obtain ⟨mA, J, _⟩ := ins_get I.hok ha
  obtain ⟨od, J, _⟩ := J.look
  obtain ⟨m, hF⟩ := I.fr
  refine PySem.W.repr_K room.in1.units0 hF I.ok.mod.kin J hs hf ?_
  refine wpAny_mono (own_call (xs := [.ref a]) room.in1 rfl F hb I (.cons rfl .nil) hsp) (fun v s' z => ?_) fun _ _ y => y
  obtain ⟨x, H', I', rx, z, rfl, q⟩ := z
  obtain ⟨t, rfl⟩ := rx
  exact ⟨.str z, H', I', ⟨_, rfl⟩, q⟩
/-- str() of an own thing -/
theorem call_strO (hs : PySem.W.findIn X.K (.ref C) "__str__" = some (some (.ref f))) (hf : PySem.W.isFn X.K (.ref f) = true) (room : Room (n + 3) X.A)
    (F : FnOk X.prog X.w X.K X.mg X.base (L2N.CX X.prog X.w) n f fd ps sp) (hb : Binds X.K fd ps []) : CallR X (.type "str") (rReprO C sp) := by
  intro pins s σ H xs us Q I r h
  obtain ⟨a, dx, fs, rfl, ha, hsp⟩ := h
  obtain ⟨u, rfl, ru⟩ := vals1 r
  cases ru
  obtain ⟨mA, J, _⟩ := ins_get I.hok ha
  obtain ⟨od, J, _⟩ := J.look
  have g : MeetsIn X.prog X.w (Builtin.«str.__new__» ⟨[.type "str", .ref a], []⟩) (fun A R s => wpAny (model X.prog X.w) A.in1 (Builtin.Str.strOf (.ref a)) (fun r s' => R (.ok (.ret r)) s') (fun e s' => R (.error e) s') s) := MeetsIn.of_wp fun A R s1 hs1 => by
    rw [str_new_tree]
    refine wpAny_bind (wpAny_pure (wpAny_bind (wpAny_of_eq isSubtype_str_str ?_)))
    exact wpAny_bind (wpAny_mono hs1 (fun r s' z => wpAny_pure ⟨_, rfl, z⟩) fun _ _ e => e)
  refine callType_newIn PySem.F.called_str (by decide) (PySem.F.typeCall_str_1 _) (PySem.F.newCall_str_1 _) (fun obj => PySem.F.args_object_init_2 obj _) PySem.F.entry_str_new g ?_
  show wpAny _ X.A.in1.in1 (Builtin.Str.strOf (.ref a)) _ _ s
  unfold Builtin.Str.strOf
  refine wpAny_bind (wpAny_cRoomFor room.in1.in1.units0 ?_)
  refine wpAny_bind (m := callSpecial? (.ref a) (Str.ofString "__str__")) (PySem.W.special_fn I.kIn J hs (beq_iff_eq.mp hf) (wpAny_mono (own_call (xs := [.ref a]) (room.in1.in1.mono (by omega)) rfl F hb I (.cons rfl .nil) hsp) (fun v s' z => ?_) fun _ _ y => y))
  obtain ⟨x, H', I', rx, z, rfl, q⟩ := z
  obtain ⟨t, rfl⟩ := rx
  exact wpAny_pure ⟨typeIs_str _ _ _, .str z, H', I', ⟨_, rfl⟩, q⟩
/-- what stands right of an own ==: one of the same class, a number, a text -/
def RightOf (K : PySem.W.Frag) (C : Addr) (y : V) (H : Hp) : Prop :=
  (∃ b dy gs, y = .ref b ∧ H b = some (.ins C dy gs)) ∨ (∃ i, y = .int i ∧ PySem.W.notFirst K C (.type "int") = true) ∨ (∃ z, y = .str z ∧ PySem.W.notFirst K C (.type "str") = true)
/-- x == y by an own __eq__ that tells True or False -/
def rEqO (K : PySem.W.Frag) (C : Addr) (sp : Sp) : R2 := fun x y H Q => ∃ a dx fs, x = .ref a ∧ H a = some (.ins C dx fs) ∧ RightOf K C y H ∧ sp [.ref a, y] H (fun v H' => ∃ b : Bool, v = .bl b ∧ Q (.bl b) H') fun _ _ _ => False
theorem op_eqO (hs : PySem.W.findIn X.K (.ref C) "__eq__" = some (some (.ref f))) (hf : PySem.W.isFn X.K (.ref f) = true) (room : Room n X.A)
    (F : FnOk X.prog X.w X.K X.mg X.base (L2N.CX X.prog X.w) n f fd ps sp) (hb : Binds X.K fd ps []) : OpR X (compareOp .Eq) (rEqO X.K C sp) := by
  intro pins s σ H x y v u Q I rx ry h
  obtain ⟨a, dx, fs, rfl, ha, hy, hsp⟩ := h
  cases rx
  obtain ⟨mA, J, _⟩ := ins_get I.hok ha
  obtain ⟨od, J, _⟩ := J.look
  obtain ⟨m, hF⟩ := I.fr
  obtain ⟨tb, look, nf⟩ : ∃ tb, PySem.W.Looks (model X.prog X.w) s.heap (typeOf u) tb ∧ PySem.W.notFirst X.K C tb = true := by
    rcases hy with ⟨b, dy, gs, rfl, hb'⟩ | ⟨i, rfl, nf⟩ | ⟨z, rfl, nf⟩
    · cases ry
      obtain ⟨mB, J', _⟩ := ins_get I.hok hb'
      obtain ⟨od', J', _⟩ := J'.look
      exact ⟨.ref C, J'.type, by simp [PySem.W.notFirst]⟩
    · obtain ⟨t, rfl⟩ := ry
      exact ⟨.type "int", PySem.W.Looks.of_pure rfl, nf⟩
    · obtain ⟨t, rfl⟩ := ry
      exact ⟨.type "str", PySem.W.Looks.of_pure rfl, nf⟩
  show wpAny (model X.prog X.w) X.A (richCompare .Eq (.ref a) u) (EP X pins σ Q) X.xe s
  refine PySem.W.cmp_K (op := .Eq) room.units0 hF I.ok.mod.kin J look nf hs hf ?_
  refine wpAny_mono (own_call (xs := [.ref a, y]) room rfl F hb I (.cons rfl (.cons ry .nil)) hsp) (fun w s' z => ?_) fun _ _ e => e
  obtain ⟨r, H', I', rr, b, rfl, q⟩ := z
  cases rr
  exact ⟨.bl b, H', I', rfl, q⟩
/-- a special name that a built-in serves, asked by the way of operators -/
theorem special_B {M : Model} {A : Around} {E : Value → Shared → Prop} {s : Shared} {K : PySem.W.Frag} {x C : Addr} {ox : Obj} {od : Option Obj} {name : Str} {id : String} {args : List Value} {R : Option Value → Shared → Prop} (hk : K.In s.heap) (J : PySem.W.InstAt s.heap x ox C od)
    (hs : PySem.W.findIn K (.ref C) name = some (some (.builtin id))) (bd : bindSpecial (.builtin id) (.ref x) = pure (.builtin id, [.ref x])) (h : wpAny M A (call (.builtin id) (.ref x :: args)) (fun v => R (some v)) E s) : wpAny M A (callSpecialIfBound? (.ref x) name args) R E s := by
  have last : wpAny M A (call (.builtin id) ([.ref x] ++ args) >>= fun v => pure (some v)) R E s := wpAny_bind (wpAny_mono h (fun _ _ z => wpAny_pure z) fun _ _ z => z)
  simp only [callSpecialIfBound?, bindSpecialIfBound?, bd]
  refine wpAny_holding ?_
  refine wpAny_bind (wpAny_bind (wpAny_bind ?_))
  refine J.type.here ((PySem.W.looks_findIn hk hs).here ?_)
  refine wpAny_bind (wpAny_askSetting (wpAny_ite ?_))
  rw [bd]
  split
  · exact wpAny_bind (wpAny_pure (wpAny_pure last))
  · exact wpAny_tryCatch (wpAny_bind (wpAny_pure (wpAny_pure last)))
/-- object.__ne__ by an own __eq__ that tells True or False -/
theorem ne_body {A : Around} {pins : List (Addr × Obj)} {s : Shared} {σ : L2.St} {H : Hp} {a dx : Addr} {fs : List (Str × V)} {y : V} {u : Value} {Q : Bool → Hp → Prop} (room : Room (n + 1) A) (fr : A.frames = X.A.frames)
    (ob : PySem.W.mroIn X.K C (.type "object") = some true) (hs : PySem.W.findIn X.K (.ref C) "__eq__" = some (some (.ref f))) (hf : PySem.W.isFn X.K (.ref f) = true)
    (F : FnOk X.prog X.w X.K X.mg X.base (L2N.CX X.prog X.w) n f fd ps sp) (hb : Binds X.K fd ps []) (I : Inv X pins σ H s) (ha : H a = some (.ins C dx fs)) (ry : RelV y u) (hsp : sp [.ref a, y] H (fun v H' => ∃ b : Bool, v = .bl b ∧ Q (!b) H') fun _ _ _ => False) :
    wpAny (model X.prog X.w) A (call (.builtin "object.__ne__") [.ref a, u]) (fun v s' => ∃ b : Bool, v = .bool b ∧ TP X pins σ Q b s') X.xe s := by
  obtain ⟨mA, J, _⟩ := ins_get I.hok ha
  obtain ⟨od, J, _⟩ := J.look
  refine wpAny_call (codeAny_call_builtin PySem.F.slot_object_ne.plain PySem.F.entry_object_ne (PySem.W.check_slot (owner := "object") (n := "__ne__") (by decide +kernel) (by decide +kernel) (J.type.andThen (PySem.W.looks_mroIn I.kIn ob)) (PySem.F.args_object_ne_2 _ _) ?_))
  unfold Builtin.«object.__ne__»
  refine wpAny_bind (m := slotArgs "__ne__" 1 _) (wpAny_pure ?_)
  refine wpAny_bind (wpAny_cRoomFor room.in1.units0 (wpAny_bind (m := callSpecialIfBound? (.ref a) (Str.ofString "__eq__") _) (PySem.W.ifBound_K I.kIn J hs hf ?_)))
  refine wpAny_mono (own_call (xs := [.ref a, y]) room.in1 fr F hb I (.cons rfl (.cons ry .nil)) hsp) (fun v s' z => ?_) fun _ _ e => e
  obtain ⟨r, H', I', rr, b, rfl, q⟩ := z
  cases rr
  refine wpAny_bind (wpAny_truthy_bool (wpAny_pure ?_))
  exact ⟨!b, rfl, H', I', q⟩
/-- x != y of two of one class -/
def rNeO (C : Addr) (sp : Sp) : R2 := fun x y H Q => ∃ a dx fs c dy gs, x = .ref a ∧ H a = some (.ins C dx fs) ∧ y = .ref c ∧ H c = some (.ins C dy gs) ∧ sp [.ref a, .ref c] H (fun v H' => ∃ b : Bool, v = .bl b ∧ Q (.bl (!b)) H') fun _ _ _ => False
theorem op_neO (ob : PySem.W.mroIn X.K C (.type "object") = some true) (hn : PySem.W.findIn X.K (.ref C) "__ne__" = some (some (.builtin "object.__ne__"))) (hs : PySem.W.findIn X.K (.ref C) "__eq__" = some (some (.ref f))) (hf : PySem.W.isFn X.K (.ref f) = true) (room : Room (n + 1) X.A)
    (F : FnOk X.prog X.w X.K X.mg X.base (L2N.CX X.prog X.w) n f fd ps sp) (hb : Binds X.K fd ps []) : OpR X (compareOp .NotEq) (rNeO C sp) := by
  intro pins s σ H x y v u Q I rx ry h
  obtain ⟨a, dx, fs, c, dy, gs, rfl, ha, rfl, hc, hsp⟩ := h
  cases rx
  cases ry
  obtain ⟨mA, J, _⟩ := ins_get I.hok ha
  obtain ⟨od, J, _⟩ := J.look
  obtain ⟨mC, J', _⟩ := ins_get I.hok hc
  obtain ⟨od', J', _⟩ := J'.look
  have tell : wpAny (model X.prog X.w) X.A (tryCompare (.ref a) (cmpInfo .NotEq).2.1 (.ref c)) (fun r s' => ∃ b : Bool, r = some (.bool b) ∧ TP X pins σ (fun b H' => Q (.bl b) H') b s') X.xe s := by
    unfold tryCompare
    refine wpAny_bind (special_B I.kIn J hn (PySem.F.slot_object_ne.bind _) (wpAny_mono (ne_body (y := .ref c) (Q := fun b H' => Q (.bl b) H') room rfl ob hs hf F hb I ha rfl hsp) (fun v s' z => ?_) fun _ _ e => e))
    obtain ⟨b, rfl, q⟩ := z
    exact wpAny_pure ⟨b, rfl, q⟩
  show wpAny (model X.prog X.w) X.A (richCompare .NotEq (.ref a) (.ref c)) (EP X pins σ Q) X.xe s
  unfold richCompare
  simp only [oneThing_ref]
  refine wpAny_holding (wpAny_bind (wpAny_cRoomFor room.units0 (wpAny_bind (J.type.here (wpAny_bind (J'.type.here ?_))))))
  have same : (Value.ref C != Value.ref C) = false := by simp
  rw [same]
  refine wpAny_bind (wpAny_pure ?_)
  simp only [Bool.false_eq_true, if_false]
  refine wpAny_bind (wpAny_mono tell (fun r s' z => ?_) fun _ _ e => e)
  obtain ⟨b, rfl, H', I', q⟩ := z
  exact wpAny_pure ⟨.bl b, H', I', rfl, q⟩
end
end U
end

section
set_option Elab.async false
set_option linter.all false
set_option maxRecDepth 100000
set_option maxHeartbeats 4000000
/-! # U: max(d, default=c) of a dict with int keys -/
namespace U
open PySem L2
/-- max(d, default=c): c of an empty dict, else the highest key -/
def rMaxDef : List V → List V → Hp → VK → Prop := fun xs zs H Q => ∃ (a : Addr) (kvs : List (Key × V)) (ks : List Int) (c : Int), xs = [.ref a] ∧ zs = [.int c] ∧ Rd H a (.dK kvs) ∧ kvs.map (·.1) = ks.map Sum.inl ∧
  (ks = [] → Q (.int c) H) ∧ ∀ m, m ∈ ks → (∀ y ∈ ks, y ≤ m) → Q (.int m) H
theorem cr_maxDef {X : Cx} (calm : X.calm = true) : CallRK X (.builtin "max") [Str.ofString "default"] rMaxDef := by
  intro pins s σ H xs zs us ws Q I rx rz h
  obtain ⟨a, kvs, ks, c, rfl, rfl, hd, keys, q0, q1⟩ := h
  obtain ⟨u, rfl, ru⟩ := vals1 rx
  obtain ⟨d, rfl, rd⟩ := vals1 rz
  cases ru
  obtain ⟨_, lo, vs, rel, dd⟩ := dk_rd I.hok hd
  obtain ⟨ep, hat⟩ := dd.dictAt
  have vk : vs.map (·.1) = ks.map Sum.inl := rel.keys ▸ keys
  have len : vs.length = ks.length := by
    have := congrArg List.length vk
    simpa using this
  obtain ⟨oI, St, hit, W, st0⟩ := (PySem.W.kdl_dict (knd := mixKind X.prog X.w) (kvs := vs) (ep := ep) lo).iter X.A.in1 s (I.ok.hd calm) hat
  have la : a < s.heap.objs.size := hat.lt_size
  have keep : ∀ {s' : Shared}, Moved [s.heap.objs.size] (fun a b => b = a) { s with heap := s.heap.push oI } s' → Inv X pins σ H s' := fun {s'} mv => by
    have k : ∀ b o, s.heap.get? b = some o → s'.heap.get? b = some o := fun b o e => mv.heap b o (fun m => by
      rw [List.mem_singleton.mp m] at e
      exact Nat.lt_irrefl _ (Heap.lt_size e)) (Heap.get?_push_of_some _ e)
    have e : s' = { s with heap := s'.heap, toks := s'.toks } := by
      obtain ⟨h', g', d', t', o'⟩ := s'
      have e1 := mv.gens
      have e2 := mv.drawn
      have e3 := mv.os
      simp only at e1 e2 e3
      subst e1 e2 e3
      rfl
    rw [e]
    exact I.kept k
  have val : ∀ i v, (∃ k x, vs[i]? = some (k, x) ∧ (mixKind X.prog X.w).is k v = true) → ∃ t, v = .int (ks.getD i 0) t := fun i v ⟨k, x, e1, e2⟩ => by
    have e3 : (ks.map Sum.inl)[i]? = some k := by rw [← vk, List.getElem?_map, e1]; rfl
    rw [List.getElem?_map] at e3
    cases e4 : ks[i]? with
    | none => rw [e4] at e3; cases e3
    | some y =>
      rw [e4] at e3
      obtain rfl : Sum.inl y = k := Option.some.inj e3
      rcases keyIs_shape (show keyIs (Sum.inl y) v = true from e2) with ⟨j, t, ek, ev⟩ | ⟨z, t, ek, _⟩
      · cases ek
        exact ⟨t, by rw [List.getD_eq_getElem?_getD, e4]; exact ev⟩
      · cases ek
  refine call_max_walkD (hit _ _ ⟨s.heap.objs.size, _, _, _, vs.length, _, _, s.heap, fun i j => decide (ks.getD i 0 > ks.getD j 0), rfl, W.toS, st0, fun b hb => ?_, fun b o e m => ?_, fun b o e => Heap.get?_push_of_some _ e, fun e s' mv => ?_, fun pos => ⟨fun i j vi vj s1 Q1 E1 _ => CmpOf.ints_gt (fun i => ks.getD i 0) val i j vi vj s1 Q1 E1, fun v s' hv mv => ?_⟩⟩)
  · show b < (s.heap.push oI).objs.size
    rw [Heap.size_push]
    rcases List.mem_cons.mp hb with rfl | hb
    · exact Nat.lt_succ_self _
    · rw [List.mem_singleton.mp hb]
      exact Nat.lt_succ_of_lt la
  · rw [List.mem_singleton.mp m] at e
    exact Nat.lt_irrefl _ (Heap.lt_size e)
  · exact ⟨.int c, H, keep mv, rd, q0 (List.eq_nil_of_length_eq_zero (by omega))⟩
  · obtain ⟨t, rfl⟩ := val _ v hv
    obtain ⟨m1, m2⟩ := argBest_gt (fun i => ks.getD i 0) (vs.length - 1)
    have m1' : argBest (fun i j => decide (ks.getD i 0 > ks.getD j 0)) (vs.length - 1) ≤ vs.length - 1 := m1
    refine ⟨.int _, H, keep mv, ⟨t, rfl⟩, q1 _ (PySem.getD_mem (by omega)) fun y my => ?_⟩
    obtain ⟨j, lj, rfl⟩ := List.getElem_of_mem my
    have := m2 j (by omega)
    rw [show ks.getD j 0 = ks[j] by rw [List.getD_eq_getElem?_getD, List.getElem?_eq_getElem lj]; rfl] at this
    exact this
end U
end

section
set_option Elab.async false
set_option linter.all false
set_option maxRecDepth 100000
set_option maxHeartbeats 4000000
/-! # UI: sorted lists are one; nets' plain data -/
namespace U
open PySem L2
theorem lt_irr (a : List Nat) : ¬ a < a := List.lt_irrefl a
/-- texts in order: each pair -/
theorem sortedS_pw : ∀ {l : List Str}, PyProof.Rows.sortedS l = true → l.Pairwise fun a b => a.cps.toList ≤ b.cps.toList
  | [], _ => .nil
  | x :: l, h => by
    have h' : PyProof.Rows.risingS x l = true := h
    clear h
    induction l generalizing x with
    | nil => exact List.pairwise_singleton _ _
    | cons y l ih =>
      have h2 : (!Spec.ltCps y.cps.toList x.cps.toList && PyProof.Rows.risingS y l) = true := h'
      obtain ⟨h3, h4⟩ := Bool.and_eq_true_iff.mp h2
      have le : x.cps.toList ≤ y.cps.toList := by
        rw [PyProof.Rows.ltCps_eq] at h3
        have h5 : ¬ y.cps.toList < x.cps.toList := by simpa using h3
        exact List.not_lt.mp h5
      have p := ih y h4
      refine List.pairwise_cons.mpr ⟨fun z m => ?_, p⟩
      rcases List.mem_cons.mp m with rfl | m
      · exact le
      · exact List.le_trans le ((List.pairwise_cons.mp p).1 z m)
theorem str_ext {a b : Str} (h : a.cps.toList = b.cps.toList) : a = b := by
  obtain ⟨x⟩ := a
  obtain ⟨y⟩ := b
  have : x = y := Array.toList_inj.mp h
  rw [this]
theorem sortedS_one {as bs : List Str} (p : as.Perm bs) (ha : PyProof.Rows.sortedS as = true) (hb : PyProof.Rows.sortedS bs = true) : as = bs :=
  List.Perm.eq_of_pairwise (le := fun a b : Str => a.cps.toList ≤ b.cps.toList) (fun a b _ _ h1 h2 => str_ext (List.le_antisymm h1 h2)) (sortedS_pw ha) (sortedS_pw hb) p
theorem keys_one {α : Type} {k : α → Int} {as bs : List α} (p : as.Perm bs) (d : as.Pairwise fun a b => k a ≠ k b) (ha : as.Pairwise fun a b => k a ≤ k b) (hb : bs.Pairwise fun a b => k a ≤ k b) : as = bs := by
  refine List.Perm.eq_of_pairwise (le := fun a b => k a ≤ k b) (fun a b ma mb h1 h2 => ?_) ha hb p
  have mb' := p.mem_iff.mpr mb
  apply Classical.byContradiction
  intro ne
  have e : k a = k b := by omega
  have key : ∀ {l : List α}, (l.Pairwise fun a b => k a ≠ k b) → a ∈ l → b ∈ l → False := by
    intro l
    induction l with
    | nil => intro _ m _; cases m
    | cons c l ih =>
      intro pw m1 m2
      have pc := List.pairwise_cons.mp pw
      rcases List.mem_cons.mp m1 with e1 | m1
      · rcases List.mem_cons.mp m2 with e2 | m2
        · exact ne (e1.trans e2.symm)
        · exact pc.1 b m2 (by rw [← e1]; exact e)
      · rcases List.mem_cons.mp m2 with e2 | m2
        · exact pc.1 a m1 (by rw [← e2]; exact e.symm)
        · exact ih pc.2 m1 m2
  exact key d ma mb'
end U
end

section
set_option Elab.async false
set_option linter.all false
set_option maxRecDepth 100000
set_option maxHeartbeats 4000000
/-! # UJ: a method called with keywords; dicts by their keys -/
namespace U
open PySem L2
/-- o.m(e, .., k = v, ..): the object is the first argument -/
def tMethN (C : Addr) (nm : Str) (n m : Nat) (sp : Sp) (gV : List V → List V → List V) (E : XK) (ta : TE) (t tk : TA) : TE := fun σ H Q => ta σ H fun x H1 => ∃ a dx fs, x = .ref a ∧ H1 a = some (.ins C dx fs) ∧ fs.lookup nm = none ∧
  t σ H1 fun vs H2 => tk σ H2 fun zs H3 => (x :: vs).length = n ∧ zs.length = m ∧ sp (gV (x :: vs) zs) H3 Q E
section
variable {X : Cx} {CX : CXT} {k n : Nat} {C f : Addr} {fd : FuncData} {ps ks : List Str} {sp : Sp} {E : XK} {m : Str} {apos pos : Pos} {o e : Expr} {es : List Expr} {kws : List Keyword} {ta : TE} {t tk : TA} {g : List Value → List Value → List Value} {gV : List V → List V → List V} {pl : Sem Bool}
theorem pe_methN (ho : PE X o ta) (cl : Cls X.K C) (hm : Meth X.K C m f) (F : FnOk X.prog X.w X.K X.mg X.base CX k f fd ps sp) (room : Room k X.A) (b : KBn X.K fd ps n ks g gV) (hx : Passes CX X E) (ha : PA X (e :: es) t) (hk : PK X kws tk)
    (h1 : (backToKw pos (keywordEach kws X.env)).all (·.1.isSome) = true := by rfl) (h2 : (backToKw pos (keywordEach kws X.env)).filterMap (·.1) = ks := by rfl) (h3 : starEach (e :: es) X.env = (false, eval e X.env) :: starEach es X.env := by rfl)
    (h4 : ((backTo pos (starEach (e :: es) X.env)).any (·.1) || (backToKw pos (keywordEach kws X.env)).any (·.1.isNone)) = false := by rfl)
    (h5 : eval (.Call (.Attribute o m apos) (e :: es) kws pos) X.env = (do
      let ov ← eval o X.env
      standAt apos.atName
      let r ← holding [ov] (getMethod ov m pl)
      callWith pos r.1 r.2 (backTo pos (starEach (e :: es) X.env)) (backToKw pos (keywordEach kws X.env))) := by rfl) :
    PE X (.Call (.Attribute o m apos) (e :: es) kws pos) (tMethN C m n ks.length sp gV E ta t tk) := by
  constructor
  intro pins s σ H Q I h
  refine PySem.W.methodCall_KW (pl := pl) (thn (ho.run pins s σ H _ I h) ?_) h5
  rintro u s1 ⟨x, H1, I1, rx, a, dx, fs, rfl, ea, l, q⟩
  cases rx
  refine getmeth_ok I1 ea cl hm l (PySem.W.callWith_KW (first := [.ref a]) (h₀ := X.base) I.ok.mod.kin hm.kp h1 (thn (ha.run pos pins s1 σ H1 _ I1 q) ?_) h4 h3)
  rintro us s2 ⟨vs, H2, I2, r, q2⟩
  refine thn (hk.run pos pins s2 σ H2 _ I2 q2) ?_
  rintro ws s3 ⟨zs, H3, I3, rz, l1, l2, q3⟩
  refine ⟨I3.kIn, ?_⟩
  rw [h2]
  exact run_fnN (us := .ref a :: us) (vs := .ref a :: vs) F room b hx I3 (.cons rfl r) rz l1 l2 q3
end
section
variable {σ : L2.St} {H : Hp} {Q : VK}
theorem i_methN {C : Addr} {nm : Str} {n m : Nat} {sp : Sp} {gV : List V → List V → List V} {E : XK} {ta : TE} {t tk : TA} (q : ta σ H fun x H1 => ∃ a dx fs, x = .ref a ∧ H1 a = some (.ins C dx fs) ∧ fs.lookup nm = none ∧
  t σ H1 fun vs H2 => tk σ H2 fun zs H3 => (x :: vs).length = n ∧ zs.length = m ∧ sp (gV (x :: vs) zs) H3 Q E) : tMethN C nm n m sp gV E ta t tk σ H Q := q
theorem i_methN' {C dx a : Addr} {fs : List (Str × V)} {nm : Str} {R : V → Prop} (h : H a = some (.ins C dx fs)) (l : fs.lookup nm = none) (q : R (.ref a)) : ∃ a' dx fs, V.ref a = .ref a' ∧ H a' = some (.ins C dx fs) ∧ fs.lookup nm = none ∧ R (.ref a) := ⟨a, dx, fs, rfl, h, l, q⟩
end
/-! ### dicts: names that stand for True, numbers that stand for objects -/
def nmK (ns : List Str) : List (Key × V) := ns.map fun s => (Sum.inr s, V.bl true)
def rdK (qs : List (Int × Addr)) : List (Key × V) := qs.map fun q => (Sum.inl q.1, V.ref q.2)
theorem nmK_val {ns : List Str} {s : Str} : (valV (nmK ns) (Sum.inr s)).isSome = decide (s ∈ ns) := by
  rw [← valV_any]
  unfold nmK
  induction ns with
  | nil => rfl
  | cons a l ih =>
    rw [List.map_cons, List.any_cons, ih]
    by_cases e : a = s
    · subst e; simp
    · simp [e, Ne.symm e]
theorem nmK_put {ns : List Str} {s : Str} (h : s ∉ ns) : putK (nmK ns) (Sum.inr s) (.bl true) = nmK (ns ++ [s]) := by
  have n : valV (nmK ns) (Sum.inr s) = none := by
    have := nmK_val (ns := ns) (s := s)
    rw [decide_eq_false h] at this
    exact Option.isNone_iff_eq_none.mp (by rw [← Option.not_isSome, this]; rfl)
  rw [putK_new _ n]
  unfold nmK
  rw [List.map_append]
  rfl
theorem rdK_val {qs : List (Int × Addr)} {n : Int} : (valV (rdK qs) (Sum.inl n)).isSome = decide (n ∈ qs.map (·.1)) := by
  rw [← valV_any]
  unfold rdK
  induction qs with
  | nil => rfl
  | cons a l ih =>
    rw [List.map_cons, List.any_cons, ih]
    by_cases e : a.1 = n
    · simp [e]
    · simp [e, Ne.symm e]
theorem rdK_put {qs : List (Int × Addr)} {n : Int} {t : Addr} (h : n ∉ qs.map (·.1)) : putK (rdK qs) (Sum.inl n) (.ref t) = rdK (qs ++ [(n, t)]) := by
  have e : valV (rdK qs) (Sum.inl n) = none := by
    have := rdK_val (qs := qs) (n := n)
    rw [decide_eq_false h] at this
    exact Option.isNone_iff_eq_none.mp (by rw [← Option.not_isSome, this]; rfl)
  rw [putK_new _ e]
  unfold rdK
  rw [List.map_append]
  rfl
theorem rdK_get {qs : List (Int × Addr)} {q : Int × Addr} (d : (qs.map (·.1)).Nodup) (m : q ∈ qs) : valV (rdK qs) (Sum.inl q.1) = some (.ref q.2) := by
  induction qs with
  | nil => cases m
  | cons a l ih =>
    rw [List.map_cons] at d
    obtain ⟨d1, d2⟩ := List.nodup_cons.mp d
    unfold rdK
    rw [List.map_cons]
    rcases List.mem_cons.mp m with rfl | m
    · exact valV_pos rfl
    · rw [valV_neg]
      · exact ih d2 m
      · intro e
        have e' : a.1 = q.1 := by injection e
        exact d1 (e' ▸ List.mem_map.mpr ⟨q, m, rfl⟩)
end U
namespace U
open PySem L2
def rDni : R2 := fun y x H Q => ∃ a o, x = .ref a ∧ DGet H a y o ∧ Q (.bl (!o.isSome)) H
def rDin : R2 := fun y x H Q => ∃ a o, x = .ref a ∧ DGet H a y o ∧ Q (.bl o.isSome) H
def rDgt : R2 := fun x y H Q => ∃ a v, x = .ref a ∧ DGet H a y (some v) ∧ Q v H
def rDpt (x y v : V) (H : Hp) (W : Hp → Prop) : Prop := ∃ a H4, x = .ref a ∧ DPut H a y v H4 ∧ W H4
section
variable {σ : L2.St} {H : Hp} {Q : VK} {td ty tv : TE} {D : Ends}
theorem i_dni (q : ty σ H fun y H1 => td σ H1 fun x H2 => rDni y x H2 Q) : tDNotIn ty td σ H Q := q
theorem i_din (q : ty σ H fun y H1 => td σ H1 fun x H2 => rDin y x H2 Q) : tDIn ty td σ H Q := q
theorem i_dgt (q : td σ H fun x H1 => ty σ H1 fun y H2 => rDgt x y H2 Q) : tDGet td ty σ H Q := q
theorem i_dpt (q : tv σ H fun v H1 => td σ H1 fun x H2 => ty σ H2 fun y H3 => rDpt x y v H3 fun H4 => D.nx σ H4) : sDPut td ty tv D σ H := q
theorem i_dnew (q : ∀ p, H p = none → Q (.ref p) (upd H p (.dK []))) : tDNewK σ H Q := q
theorem i_lenD {a : Addr} {kvs : List (Key × V)} (h : H a = some (.dK kvs)) (q : Q (.int kvs.length) H) : ∃ a' kvs, [V.ref a] = [.ref a'] ∧ H a' = some (.dK kvs) ∧ Q (.int kvs.length) H := ⟨a, kvs, rfl, h, q⟩
end
section
variable {H : Hp} {nd : Addr} {ns : List Str} {qs : List (Int × Addr)} {Q : VK} {W : Hp → Prop}
theorem i_dniN {s : Str} (h : H nd = some (.dK (nmK ns))) (q : Q (.bl (!decide (s ∈ ns))) H) : rDni (.str s) (.ref nd) H Q := ⟨nd, _, rfl, DGet.k (k := Sum.inr s) h, by rw [nmK_val]; exact q⟩
theorem i_dinN {s : Str} (h : H nd = some (.dK (nmK ns))) (q : Q (.bl (decide (s ∈ ns))) H) : rDin (.str s) (.ref nd) H Q := ⟨nd, _, rfl, DGet.k (k := Sum.inr s) h, by rw [nmK_val]; exact q⟩
theorem i_dniR {n : Int} (h : H nd = some (.dK (rdK qs))) (q : Q (.bl (!decide (n ∈ qs.map (·.1)))) H) : rDni (.int n) (.ref nd) H Q := ⟨nd, _, rfl, DGet.k (k := Sum.inl n) h, by rw [rdK_val]; exact q⟩
theorem i_dinR {n : Int} (h : H nd = some (.dK (rdK qs))) (q : Q (.bl (decide (n ∈ qs.map (·.1)))) H) : rDin (.int n) (.ref nd) H Q := ⟨nd, _, rfl, DGet.k (k := Sum.inl n) h, by rw [rdK_val]; exact q⟩
theorem i_dgtR {p : Int × Addr} (h : H nd = some (.dK (rdK qs))) (d : (qs.map (·.1)).Nodup) (m : p ∈ qs) (q : Q (.ref p.2) H) : rDgt (.ref nd) (.int p.1) H Q := ⟨nd, _, rfl, by rw [← rdK_get d m]; exact DGet.k (k := Sum.inl p.1) h, q⟩
theorem i_dptN {s : Str} (h : H nd = some (.dK (nmK ns))) (new : s ∉ ns) (few : ns.length < 1000) (q : W (upd H nd (.dK (nmK (ns ++ [s]))))) : rDpt (.ref nd) (.str s) (.bl true) H W := ⟨nd, _, rfl, DPut.k (k := Sum.inr s) h (small1000 (by unfold nmK; rw [List.length_map]; omega)), by rw [nmK_put new]; exact q⟩
theorem i_dptR {n : Int} {t : Addr} (h : H nd = some (.dK (rdK qs))) (new : n ∉ qs.map (·.1)) (few : qs.length < 1000) (q : W (upd H nd (.dK (rdK (qs ++ [(n, t)]))))) : rDpt (.ref nd) (.int n) (.ref t) H W := ⟨nd, _, rfl, DPut.k (k := Sum.inl n) h (small1000 (by unfold rdK; rw [List.length_map]; omega)), by rw [rdK_put new]; exact q⟩
end
end U
namespace U
open PySem L2
/-- the things at these places -/
def turn {α : Type} (is : List Nat) (xs : List α) : List α := is.filterMap fun i => xs[i]?
theorem turn_vals {is : List Nat} {vs : List V} {us : List Value} (r : Vals vs us) : Vals (turn is vs) (turn is us) := by
  unfold turn
  induction is with
  | nil => exact .nil
  | cons i is ih =>
    rw [List.filterMap_cons, List.filterMap_cons]
    cases e : vs[i]? with
    | none =>
      rw [r.none_of e]
      exact ih
    | some v =>
      obtain ⟨u, hu, ru⟩ := r.get e
      rw [hu]
      exact .cons ru ih
end U
namespace U
open PySem L2
theorem dStr {x y : Str} : decide (V.str x = V.str y) = decide (x = y) := by
  by_cases h : x = y
  · rw [decide_eq_true h, decide_eq_true (by rw [h])]
  · rw [decide_eq_false h, decide_eq_false (fun e => h (by injection e))]
theorem i_eqStr {x y : Str} {H : Hp} {Q : VK} (q : Q (.bl (decide (x = y))) H) : rEq (.str x) (.str y) H Q := ⟨rfl, by rw [dStr]; exact q⟩
theorem All2.mem {α β : Type} {R : α → β → Prop} {as : List α} {bs : List β} (h : All2 R as bs) {b : β} (m : b ∈ bs) : ∃ a ∈ as, R a b := h.memR m
end U
namespace U
open PySem L2
theorem catTK {X : L2.Cx} (K : PySem.W.Frag) (h : X.K = K) : OpR X (binaryOp .Add) (rCatA K) := h ▸ op_catA
end U
namespace U
open PySem L2
theorem i_ckw {r : List V → List V → Hp → VK → Prop} {t tk : TA} {σ : L2.St} {H : Hp} {Q : VK} (q : t σ H fun vs H1 => tk σ H1 fun zs H2 => r vs zs H2 Q) : tCKw r t tk σ H Q := q
theorem key_one {α : Type} {k : α → Int} {l : List α} (d : (l.map k).Nodup) {a b : α} (ma : a ∈ l) (mb : b ∈ l) (e : k a = k b) : a = b := by
  induction l with
  | nil => cases ma
  | cons c l ih =>
    rw [List.map_cons] at d
    obtain ⟨d1, d2⟩ := List.nodup_cons.mp d
    rcases List.mem_cons.mp ma with e1 | m1
    · rcases List.mem_cons.mp mb with e2 | m2
      · rw [e1, e2]
      · exact absurd (List.mem_map.mpr ⟨b, m2, by rw [← e, e1]⟩) d1
    · rcases List.mem_cons.mp mb with e2 | m2
      · exact absurd (List.mem_map.mpr ⟨a, m1, by rw [e, e2]⟩) d1
      · exact ih d2 m1 m2
theorem nodup_of_map {α β : Type} {k : α → β} {l : List α} (d : (l.map k).Nodup) : l.Nodup := by
  induction l with
  | nil => exact .nil
  | cons c l ih =>
    rw [List.map_cons] at d
    obtain ⟨d1, d2⟩ := List.nodup_cons.mp d
    exact List.nodup_cons.mpr ⟨fun m => d1 (List.mem_map.mpr ⟨c, m, rfl⟩), ih d2⟩
theorem perm_of_keys {α : Type} {k : α → Int} {as bs : List α} (p : (as.map k).Perm (bs.map k)) (d : (bs.map k).Nodup) (s : ∀ a ∈ as, a ∈ bs) : as.Perm bs := by
  have da : (as.map k).Nodup := p.nodup_iff.mpr d
  refine (List.perm_ext_iff_of_nodup (nodup_of_map da) (nodup_of_map d)).mpr fun x => ⟨s x, fun m => ?_⟩
  obtain ⟨y, my, ey⟩ := List.mem_map.mp (p.mem_iff.mpr (List.mem_map.mpr ⟨x, m, rfl⟩))
  have := key_one d (s y my) m ey
  rw [← this]
  exact my
end U
namespace U
theorem mapErase {α β : Type} (f : α → β) : ∀ (l : List α) (k : Nat), (l.map f).eraseIdx k = (l.eraseIdx k).map f
  | [], _ => rfl
  | _ :: _, 0 => rfl
  | x :: l, k + 1 => congrArg (f x :: ·) (mapErase f l k)
end U
end

section
set_option Elab.async false
set_option linter.all false
set_option maxRecDepth 100000
set_option maxHeartbeats 4000000
/-! # UJ2: written dicts by texts (sK) and by numbers (iK), any values -/
namespace U
open PySem L2
def sK (es : List (Str × V)) : List (Key × V) := es.map fun e => (Sum.inr e.1, e.2)
def iK (es : List (Int × V)) : List (Key × V) := es.map fun e => (Sum.inl e.1, e.2)
section
variable {α : Type} [DecidableEq α] {f : α → Key} {es : List (α × V)} {a : α} {v : V}
def gK (f : α → Key) (es : List (α × V)) : List (Key × V) := es.map fun e => (f e.1, e.2)
theorem gK_some (inj : ∀ x y, f x = f y → x = y) : (valV (gK f es) (f a)).isSome = decide (a ∈ es.map (·.1)) := by
  rw [← valV_any]
  unfold gK
  induction es with
  | nil => rfl
  | cons e l ih =>
    rw [List.map_cons, List.any_cons, ih]
    by_cases q : e.1 = a
    · simp [q]
    · have : f e.1 ≠ f a := fun z => q (inj _ _ z)
      simp [this, q, Ne.symm q]
theorem gK_none (inj : ∀ x y, f x = f y → x = y) (h : a ∉ es.map (·.1)) : valV (gK f es) (f a) = none := by
  have := gK_some (es := es) (a := a) inj
  rw [decide_eq_false h] at this
  exact Option.isNone_iff_eq_none.mp (by rw [← Option.not_isSome, this]; rfl)
theorem gK_put (inj : ∀ x y, f x = f y → x = y) (h : a ∉ es.map (·.1)) : putK (gK f es) (f a) v = gK f (es ++ [(a, v)]) := by
  rw [putK_new _ (gK_none inj h)]
  unfold gK
  rw [List.map_append]
  rfl
theorem gK_get (inj : ∀ x y, f x = f y → x = y) (d : (es.map (·.1)).Nodup) (m : (a, v) ∈ es) : valV (gK f es) (f a) = some v := by
  induction es with
  | nil => cases m
  | cons e l ih =>
    rw [List.map_cons] at d
    obtain ⟨d1, d2⟩ := List.nodup_cons.mp d
    unfold gK
    rw [List.map_cons]
    rcases List.mem_cons.mp m with q | m
    · rw [← q]
      exact valV_pos rfl
    · rw [valV_neg]
      · exact ih d2 m
      · intro z
        exact d1 (inj _ _ z ▸ List.mem_map.mpr ⟨_, m, rfl⟩)
theorem gK_drop (inj : ∀ x y, f x = f y → x = y) : dropK (gK f es) (f a) = gK f (es.filter fun e => decide (e.1 ≠ a)) := by
  unfold dropK gK
  induction es with
  | nil => rfl
  | cons e l ih =>
    rw [List.map_cons, List.filter_cons, List.filter_cons, ih]
    by_cases h : e.1 = a
    · simp [h]
    · have : f e.1 ≠ f a := fun z => h (inj _ _ z)
      simp [h, this]
end
theorem inlI (x y : Int) (e : (Sum.inl x : Key) = Sum.inl y) : x = y := by injection e
theorem inrI (x y : Str) (e : (Sum.inr x : Key) = Sum.inr y) : x = y := by injection e
section
variable {H : Hp} {d : Addr} {Q : VK} {W : Hp → Prop}
theorem i_dniS {es : List (Str × V)} {s : Str} (h : H d = some (.dK (sK es))) (q : Q (.bl (!decide (s ∈ es.map (·.1)))) H) : rDni (.str s) (.ref d) H Q := ⟨d, _, rfl, DGet.k (k := Sum.inr s) h, by rw [show sK es = gK Sum.inr es from rfl, gK_some inrI]; exact q⟩
theorem i_dinS {es : List (Str × V)} {s : Str} (h : H d = some (.dK (sK es))) (q : Q (.bl (decide (s ∈ es.map (·.1)))) H) : rDin (.str s) (.ref d) H Q := ⟨d, _, rfl, DGet.k (k := Sum.inr s) h, by rw [show sK es = gK Sum.inr es from rfl, gK_some inrI]; exact q⟩
theorem i_dgtS {es : List (Str × V)} {s : Str} {v : V} (h : H d = some (.dK (sK es))) (nd : (es.map (·.1)).Nodup) (m : (s, v) ∈ es) (q : Q v H) : rDgt (.ref d) (.str s) H Q := ⟨d, v, rfl, by rw [← gK_get inrI nd m]; exact DGet.k (k := Sum.inr s) h, q⟩
theorem i_dptS {es : List (Str × V)} {s : Str} {v : V} (h : H d = some (.dK (sK es))) (new : s ∉ es.map (·.1)) (few : es.length < 1000) (q : W (upd H d (.dK (sK (es ++ [(s, v)]))))) : rDpt (.ref d) (.str s) v H W :=
  ⟨d, _, rfl, DPut.k (k := Sum.inr s) h (small1000 (by unfold sK; rw [List.length_map]; omega)), by rw [show sK es = gK Sum.inr es from rfl, gK_put inrI new]; exact q⟩
theorem i_dniI {es : List (Int × V)} {n : Int} (h : H d = some (.dK (iK es))) (q : Q (.bl (!decide (n ∈ es.map (·.1)))) H) : rDni (.int n) (.ref d) H Q := ⟨d, _, rfl, DGet.k (k := Sum.inl n) h, by rw [show iK es = gK Sum.inl es from rfl, gK_some inlI]; exact q⟩
theorem i_dinI {es : List (Int × V)} {n : Int} (h : H d = some (.dK (iK es))) (q : Q (.bl (decide (n ∈ es.map (·.1)))) H) : rDin (.int n) (.ref d) H Q := ⟨d, _, rfl, DGet.k (k := Sum.inl n) h, by rw [show iK es = gK Sum.inl es from rfl, gK_some inlI]; exact q⟩
theorem i_dgtI {es : List (Int × V)} {n : Int} {v : V} (h : H d = some (.dK (iK es))) (nd : (es.map (·.1)).Nodup) (m : (n, v) ∈ es) (q : Q v H) : rDgt (.ref d) (.int n) H Q := ⟨d, v, rfl, by rw [← gK_get inlI nd m]; exact DGet.k (k := Sum.inl n) h, q⟩
theorem i_dptI {es : List (Int × V)} {n : Int} {v : V} (h : H d = some (.dK (iK es))) (new : n ∉ es.map (·.1)) (few : es.length < 1000) (q : W (upd H d (.dK (iK (es ++ [(n, v)]))))) : rDpt (.ref d) (.int n) v H W :=
  ⟨d, _, rfl, DPut.k (k := Sum.inl n) h (small1000 (by unfold iK; rw [List.length_map]; omega)), by rw [show iK es = gK Sum.inl es from rfl, gK_put inlI new]; exact q⟩
end
/-- numbers that stand for True -/
def usK (us : List Int) : List (Key × V) := iK (us.map fun n => (n, V.bl true))
theorem usK_keys {us : List Int} : (us.map fun n : Int => (n, V.bl true)).map (·.1) = us := by
  rw [List.map_map]
  exact List.map_id _
theorem usK_put {us : List Int} {n : Int} (h : n ∉ us) : putK (usK us) (Sum.inl n) (.bl true) = usK (us ++ [n]) := by
  have : putK (gK Sum.inl (us.map fun n : Int => (n, V.bl true))) (Sum.inl n) (.bl true) = _ := gK_put inlI (by rw [usK_keys]; exact h)
  unfold usK iK
  rw [List.map_append]
  exact this
theorem usK_drop {us : List Int} {n : Int} : dropK (usK us) (Sum.inl n) = usK (us.filter fun z => decide (z ≠ n)) := by
  have : dropK (gK Sum.inl (us.map fun n : Int => (n, V.bl true))) (Sum.inl n) = _ := gK_drop (a := n) inlI
  unfold usK
  rw [List.filter_map] at this
  exact this
theorem usK_get {us : List Int} {n : Int} (nd : us.Nodup) (h : n ∈ us) : valV (usK us) (Sum.inl n) = some (.bl true) := gK_get (f := Sum.inl) inlI (by rw [usK_keys]; exact nd) (List.mem_map.mpr ⟨n, h, rfl⟩)
section
variable {H : Hp} {d : Addr} {Q : VK} {W : Hp → Prop}
theorem i_dniU {us : List Int} {n : Int} (h : H d = some (.dK (usK us))) (q : Q (.bl (!decide (n ∈ us))) H) : rDni (.int n) (.ref d) H Q := i_dniI (es := us.map fun n => (n, V.bl true)) h (by rw [usK_keys]; exact q)
theorem i_dinU {us : List Int} {n : Int} (h : H d = some (.dK (usK us))) (q : Q (.bl (decide (n ∈ us))) H) : rDin (.int n) (.ref d) H Q := i_dinI (es := us.map fun n => (n, V.bl true)) h (by rw [usK_keys]; exact q)
theorem i_dptU {us : List Int} {n : Int} (h : H d = some (.dK (usK us))) (new : n ∉ us) (few : us.length < 1000) (q : W (upd H d (.dK (usK (us ++ [n]))))) : rDpt (.ref d) (.int n) (.bl true) H W :=
  ⟨d, _, rfl, DPut.k (k := Sum.inl n) h (small1000 (by unfold usK iK; rw [List.length_map, List.length_map]; omega)), by rw [usK_put new]; exact q⟩
end
theorem i_neStr {x y : Str} {H : Hp} {Q : VK} (q : Q (.bl (!decide (x = y))) H) : rNe (.str x) (.str y) H Q := ⟨rfl, by rw [dStr]; exact q⟩
theorem perm_cons_filter {us : List Int} (nd : us.Nodup) {n : Int} (h : n ∈ us) : (n :: us.filter fun z => decide (z ≠ n)).Perm us := by
  induction us with
  | nil => cases h
  | cons a l ih =>
    obtain ⟨d1, d2⟩ := List.nodup_cons.mp nd
    by_cases e : a = n
    · subst e
      have : l.filter (fun z => decide (z ≠ a)) = l := List.filter_eq_self.mpr fun z m => decide_eq_true fun q => d1 (q ▸ m)
      rw [List.filter_cons_of_neg (by simp), this]
    · rw [List.filter_cons_of_pos (by simp [e])]
      have := ih d2 ((List.mem_cons.mp h).resolve_left (Ne.symm e))
      exact (List.Perm.swap _ _ _).trans (this.cons a)
end U
end

section
set_option maxRecDepth 100000
/-! # Fields in plain Lean: what the program's defs compute, and what holds of that -/
namespace FM
def sizes : List Int := [2, 3, 4, 5, 7, 8, 9, 11, 13, 16]
def base (n : Int) : Int := if n = 4 ∨ n = 8 ∨ n = 16 then 2 else if n = 9 then 3 else n
def places (n : Int) : Nat := if n = 4 ∨ n = 9 then 2 else if n = 8 then 3 else if n = 16 then 4 else 1
def rule (n : Int) : List Int := if n = 4 then [1, 1] else if n = 8 then [1, 1, 0] else if n = 9 then [2, 0] else [1, 1, 0, 0]
/-- the figures of a number, the lowest first -/
def figs (p : Int) : Nat → Int → List Int
  | 0, _ => []
  | k + 1, x => x % p :: figs p k (x / p)
/-- what is left of it behind k figures -/
def rest (p : Int) : Nat → Int → Int
  | 0, x => x
  | k + 1, x => rest p k (x / p)
theorem figs_len (p : Int) : ∀ (k : Nat) (x : Int), (figs p k x).length = k
  | 0, _ => rfl
  | k + 1, x => by show (figs p k (x / p)).length + 1 = k + 1; rw [figs_len p k]
theorem rest_succ (p : Int) : ∀ (k : Nat) (x : Int), rest p (k + 1) x = rest p k x / p
  | 0, _ => rfl
  | k + 1, x => rest_succ p k (x / p)
theorem figs_succ (p : Int) : ∀ (k : Nat) (x : Int), figs p (k + 1) x = figs p k x ++ [rest p k x % p]
  | 0, _ => rfl
  | k + 1, x => by
    show x % p :: figs p (k + 1) (x / p) = x % p :: figs p k (x / p) ++ [rest p k (x / p) % p]
    rw [figs_succ p k]; rfl
/-- the number with these figures -/
def comp (p : Int) (fs : List Int) : Int := fs.reverse.foldl (fun acc f => acc * p + f % p) 0
def addL (p : Int) (k : Nat) (a b s : Int) : List Int := (List.range k).map fun i => (figs p k a).getD i 0 + s * (figs p k b).getD i 0
def addF (n a b s : Int) : Int := if places n = 1 then (a + s * b) % base n else comp (base n) (addL (base n) (places n) a b s)
/-- L[at + j] += left * right, for the first j of fb -/
def mulIn (at_ : Nat) (left : Int) (fb : List Int) (L : List Int) : Nat → List Int
  | 0 => L
  | j + 1 => (mulIn at_ left fb L j).set (at_ + j) ((mulIn at_ left fb L j).getD (at_ + j) 0 + left * fb.getD j 0)
def mulOut (fa fb : List Int) (k : Nat) : Nat → List Int
  | 0 => List.replicate (2 * k) 0
  | i + 1 => mulIn i (fa.getD i 0) fb (mulOut fa fb k i) fb.length
/-- long[at - k + to] += long[at] * figure, for the first j of the rule -/
def redIn (at_ k : Nat) (r : List Int) (L : List Int) : Nat → List Int
  | 0 => L
  | j + 1 => (redIn at_ k r L j).set (at_ - k + j) ((redIn at_ k r L j).getD (at_ - k + j) 0 + (redIn at_ k r L j).getD at_ 0 * r.getD j 0)
def redOut (k : Nat) (r : List Int) (L : List Int) : Nat → List Int
  | 0 => L
  | i + 1 => (redIn (2 * k - 1 - i) k r (redOut k r L i) r.length).set (2 * k - 1 - i) 0
def mulF (n a b : Int) : Int := if places n = 1 then a * b % base n else
  comp (base n) ((redOut (places n) (rule n) (mulOut (figs (base n) (places n) a) (figs (base n) (places n) b) (places n) (places n)) (places n)).take (places n))
theorem mulIn_len (at_ : Nat) (left : Int) (fb L : List Int) : ∀ j, (mulIn at_ left fb L j).length = L.length
  | 0 => rfl
  | j + 1 => by rw [mulIn, List.length_set, mulIn_len at_ left fb L j]
theorem mulOut_len (fa fb : List Int) (k : Nat) : ∀ i, (mulOut fa fb k i).length = 2 * k
  | 0 => by rw [mulOut, List.length_replicate]
  | i + 1 => by rw [mulOut, mulIn_len, mulOut_len fa fb k i]
theorem redIn_len (at_ k : Nat) (r L : List Int) : ∀ j, (redIn at_ k r L j).length = L.length
  | 0 => rfl
  | j + 1 => by rw [redIn, List.length_set, redIn_len at_ k r L j]
theorem redOut_len (k : Nat) (r L : List Int) : ∀ i, (redOut k r L i).length = L.length
  | 0 => rfl
  | i + 1 => by rw [redOut, List.length_set, redIn_len, redOut_len k r L i]
def invL (n a : Int) : List Int := ((List.range (n - 1).toNat).map fun (i : Nat) => (1 : Int) + i).filter fun b => mulF n a b == 1
def invF (n a : Int) : Int := (invL n a).headD 0
def overF (n a b : Int) : Int := mulF n a (invF n b)
/-- powers, by halving -/
def powGo (n : Int) : Nat → Int → Nat → Int → Int
  | 0, found, _, _ => found
  | fuel + 1, found, many, part => if many = 0 then found else powGo n fuel (if many % 2 = 1 then mulF n found part else found) (many / 2) (mulF n part part)
def powF (n a : Int) (m : Nat) : Int := powGo n m 1 m a
/-! ### checked for all sizes and numbers -/
def allN (n : Int) (p : Int → Bool) : Bool := (List.range n.toNat).all fun (i : Nat) => p i
theorem of_allN {n : Int} {p : Int → Bool} (h : allN n p = true) {a : Int} (h0 : 0 ≤ a) (h1 : a < n) : p a = true := by
  have := List.all_eq_true.mp h a.toNat (by rw [List.mem_range]; omega)
  have e : ((a.toNat : Nat) : Int) = a := by omega
  rw [← e]; exact this
def okMul (n : Int) : Bool := allN n fun a => allN n fun b => decide (0 ≤ mulF n a b ∧ mulF n a b < n)
def okAdd (n : Int) : Bool := allN n fun a => allN n fun b => decide (0 ≤ addF n a b 1 ∧ addF n a b 1 < n) && decide (0 ≤ addF n a b (-1) ∧ addF n a b (-1) < n)
def okInv (n : Int) : Bool := allN n fun a => decide (a = 0) || (decide ((invL n a).length ≠ 0) && decide (0 ≤ invF n a ∧ invF n a < n))
theorem okMul_all : sizes.all okMul = true := by decide +kernel
theorem okAdd_all : sizes.all okAdd = true := by decide +kernel
theorem okInv_all : sizes.all okInv = true := by decide +kernel
theorem of_sizes {p : Int → Bool} (h : sizes.all p = true) {n : Int} (hn : n ∈ sizes) : p n = true := List.all_eq_true.mp h n hn
section
variable {n a b : Int}
theorem mul_rng (hn : n ∈ sizes) (a0 : 0 ≤ a) (a1 : a < n) (b0 : 0 ≤ b) (b1 : b < n) : 0 ≤ mulF n a b ∧ mulF n a b < n := of_decide_eq_true (of_allN (of_allN (of_sizes okMul_all hn) a0 a1) b0 b1)
theorem add_rng (hn : n ∈ sizes) (a0 : 0 ≤ a) (a1 : a < n) (b0 : 0 ≤ b) (b1 : b < n) : 0 ≤ addF n a b 1 ∧ addF n a b 1 < n := by
  have := of_allN (of_allN (of_sizes okAdd_all hn) a0 a1) b0 b1
  rw [Bool.and_eq_true] at this
  exact of_decide_eq_true this.1
theorem sub_rng (hn : n ∈ sizes) (a0 : 0 ≤ a) (a1 : a < n) (b0 : 0 ≤ b) (b1 : b < n) : 0 ≤ addF n a b (-1) ∧ addF n a b (-1) < n := by
  have := of_allN (of_allN (of_sizes okAdd_all hn) a0 a1) b0 b1
  rw [Bool.and_eq_true] at this
  exact of_decide_eq_true this.2
theorem inv_ok (hn : n ∈ sizes) (a0 : 0 < a) (a1 : a < n) : (invL n a).length ≠ 0 ∧ 0 ≤ invF n a ∧ invF n a < n := by
  have := of_allN (of_sizes okInv_all hn) (Int.le_of_lt a0) a1
  rw [Bool.or_eq_true, Bool.and_eq_true] at this
  rcases this with h | ⟨h1, h2⟩
  · have := of_decide_eq_true h
    omega
  · exact ⟨of_decide_eq_true h1, of_decide_eq_true h2⟩
end
theorem size_cases {n : Int} (hn : n ∈ sizes) : n = 2 ∨ n = 3 ∨ n = 4 ∨ n = 5 ∨ n = 7 ∨ n = 8 ∨ n = 9 ∨ n = 11 ∨ n = 13 ∨ n = 16 := by simpa [sizes] using hn
theorem size_rng {n : Int} (hn : n ∈ sizes) : 2 ≤ n ∧ n ≤ 16 := by rcases size_cases hn with h | h | h | h | h | h | h | h | h | h <;> omega
theorem base_rng {n : Int} (hn : n ∈ sizes) : 2 ≤ base n ∧ base n ≤ 13 := by rcases size_cases hn with h | h | h | h | h | h | h | h | h | h <;> subst h <;> decide
theorem places_rng {n : Int} (hn : n ∈ sizes) : 1 ≤ places n ∧ places n ≤ 4 := by rcases size_cases hn with h | h | h | h | h | h | h | h | h | h <;> subst h <;> decide
theorem rule_len {n : Int} (hn : n ∈ sizes) (h : places n ≠ 1) : (rule n).length = places n := by rcases size_cases hn with h | h | h | h | h | h | h | h | h | h <;> subst h <;> first | decide | exact absurd (by decide) h
theorem addL_len {p : Int} {k : Nat} {a b s : Int} : (addL p k a b s).length = k := by simp [addL]
/-- the first i candidates of an inverse -/
def invP (n a : Int) (i : Nat) : List Int := ((List.range i).map fun (i : Nat) => (1 : Int) + i).filter fun b => mulF n a b == 1
theorem invP_succ (n a : Int) (i : Nat) : invP n a (i + 1) = if mulF n a (1 + i) = 1 then invP n a i ++ [1 + (i : Int)] else invP n a i := by
  unfold invP
  rw [List.range_succ, List.map_append, List.filter_append]
  show _ ++ List.filter _ [1 + (i : Int)] = _
  by_cases h : mulF n a (1 + i) = 1
  · rw [if_pos h, List.filter_cons_of_pos (by simpa using h), List.filter_nil]
  · rw [if_neg h, List.filter_cons_of_neg (by simpa using h), List.filter_nil, List.append_nil]
theorem invP_len (n a : Int) (i : Nat) : (invP n a i).length ≤ i := by
  unfold invP
  refine Nat.le_trans (List.length_filter_le _ _) ?_
  rw [List.length_map, List.length_range]
  exact Nat.le_refl _
def basesL : List Int := [2, 3, 5, 7, 11, 13]
def basP (n : Int) (i : Nat) : List Int := (basesL.take i).filter fun b => n % b == 0
theorem basP_len (n : Int) (i : Nat) : (basP n i).length ≤ 6 := by
  unfold basP
  refine Nat.le_trans (List.length_filter_le _ _) ?_
  rw [List.length_take]
  exact Nat.le_trans (Nat.min_le_right _ _) (by decide)
theorem basP_end {n : Int} (hn : n ∈ sizes) : (basP n 6)[0]? = some (base n) := by
  rcases size_cases hn with h | h | h | h | h | h | h | h | h | h <;> subst h <;> decide
theorem pow_lt {n : Int} (hn : n ∈ sizes) {k : Nat} (h1 : 1 ≤ k) (h2 : k ≤ places n) : (base n ^ k < n ↔ k < places n) := by
  have h4 := (places_rng hn).2
  have hk : k = 1 ∨ k = 2 ∨ k = 3 ∨ k = 4 := by omega
  rcases size_cases hn with h | h | h | h | h | h | h | h | h | h <;> subst h <;> rcases hk with e | e | e | e <;> subst e <;> first | decide | exact absurd h2 (by decide)
theorem powGo0 (n : Int) (fuel : Nat) (found part : Int) : powGo n fuel found 0 part = found := by
  cases fuel with
  | zero => rfl
  | succ f => rfl
theorem powGo1 (n : Int) (fuel m : Nat) (found part : Int) (h : m ≠ 0) : powGo n (fuel + 1) found m part = powGo n fuel (if m % 2 = 1 then mulF n found part else found) (m / 2) (mulF n part part) := by
  show (if m = 0 then _ else _) = _
  rw [if_neg h]
theorem figs_rng {p : Int} (hp : 0 < p) : ∀ (k : Nat) (x : Int) (i : Nat), 0 ≤ (figs p k x).getD i 0 ∧ (figs p k x).getD i 0 < p
  | 0, x, i => by simpa [figs] using hp
  | k + 1, x, 0 => by
    show 0 ≤ x % p ∧ x % p < p
    exact ⟨Int.emod_nonneg _ (by omega), Int.emod_lt_of_pos _ hp⟩
  | k + 1, x, i + 1 => figs_rng hp k (x / p) i
theorem rule_rng (n : Int) (i : Nat) : 0 ≤ (rule n).getD i 0 ∧ (rule n).getD i 0 ≤ 2 := by
  have : ∀ l : List Int, l ∈ [[1, 1], [1, 1, 0], [2, 0], [1, 1, 0, 0]] → ∀ i : Nat, 0 ≤ l.getD i 0 ∧ l.getD i 0 ≤ 2 := by
    intro l hl i
    have h4 : l.length ≤ 4 := by
      rcases (by simpa using hl : l = [1, 1] ∨ l = [1, 1, 0] ∨ l = [2, 0] ∨ l = [1, 1, 0, 0]) with h | h | h | h <;> subst h <;> decide
    by_cases hi : i < 4
    · have hi' : i = 0 ∨ i = 1 ∨ i = 2 ∨ i = 3 := by omega
      rcases (by simpa using hl : l = [1, 1] ∨ l = [1, 1, 0] ∨ l = [2, 0] ∨ l = [1, 1, 0, 0]) with h | h | h | h <;> subst h <;> rcases hi' with e | e | e | e <;> subst e <;> decide
    · rw [List.getD_eq_getElem?_getD, List.getElem?_eq_none (by omega)]
      decide
  refine this _ ?_ i
  unfold rule
  split
  · simp
  · split
    · simp
    · split <;> simp
theorem comp1 (n : Int) (h : places n ≠ 1) (h' : n ∈ sizes) : n = 4 ∨ n = 8 ∨ n = 9 ∨ n = 16 := by
  rcases size_cases h' with e | e | e | e | e | e | e | e | e | e <;> subst e <;> first | exact absurd (by decide) h | omega
end FM
end

section
set_option maxRecDepth 100000
/-! # The fields' laws, checked by tables -/
namespace FM
def tabM (n : Int) : Nat :=
  if n = 2 then 295147905179352825856 else
  if n = 3 then 98001321673230277487191767811267888152576 else
  if n = 4 then 53330256343845239771214889408017248588558707406201035998363648 else
  if n = 5 then 8633458173534295531708957194668506359272841672193293788818684081649949418234839040 else
  if n = 7 then 752134494153338365622163830121678227156171018913178456748888587115968116127437694089971613802901525030371665776032251641856 else
  if n = 8 then 638732648260906949777959678038565379125696596219037394524801015071477239970190909606175165633671146960191918252948923319017128185934182682198016 else
  if n = 9 then 350271593073168926145148751542696170272942420121852288454124347193083665193360404733703433787666620839746384371830655548203159746643362737104589857648376464715808768 else
  if n = 11 then 5707612740341513482889274215300219212607810937975125163326021618047279574149327542673081591604818746784293751015793188419071153316961378705602856340041906233280890908852574691014268478255257506201311641600 else
  if n = 13 then 497203193029057548978455390703706481544668932005568052453289575683692794108682690124607659936678962065035569766277507777915876887660390400113997489778725659446389730475565544531550620901614322287356732407761353473585146035747697513696149221933056 else
  116196760129267793630862849262464326346044543732748708940920453221664288556434379745879494961270582141731748813355742142288220638766218855867759359510984593843506004200114943278699875244065120512813025380665946106619127097398772031257643617143689515450995722003729973585221105779229319991106539050771048038400
def tabA (n : Int) : Nat :=
  if n = 2 then 18446744073709551632 else
  if n = 3 then 87792850665602123574159391271828613759504 else
  if n = 4 then 1826636604997524103687025415407641796770237830395656339993104 else
  if n = 5 then 23744325819004059034406350039066560157511542246644346540764386605092696850526646800 else
  if n = 7 then 3478623690343450189344135562249338476532584588467764427001429982800215446745271625268546827762217480443917131115877490766352 else
  if n = 8 then 13874437610526695973432030937281792794508753341615275460032961883811228700950539972536064596195808715573671356327488034696840624189815766921744 else
  if n = 9 then 242280702199725469974352990928395429226526593484772418668161944328841606494906220325586153284455581685689327813808656503597945483892057202906626319625518304218853904 else
  if n = 11 then 47801256700862043884254755031597379698302990695283899141412257882146020190621083950061315865283666969764863811388089464880391574791307388108407416765586075869961916621518697839661709194056553661440086782480 else
  if n = 13 then 5096332728548082069550025266041584509188004531269844101955021339290952149362303233226047325008983535190781031862781861491610551473830180381547968324462846126141658343850264751256541395366141382817658748651597524911171831391961899910866176572666384 else
  798974726605473726946832238011593618400339158202517049033210936078539962612148351302787556971974837864606271200763683943951953866025539096785282858647326000342156170857478456413950631519959977197563975844721619162716127815821009475742892049151496040916675244806998969647283770674449648040311876430683451920
def tabS (n : Int) : Nat :=
  if n = 2 then 18446744073709551632 else
  if n = 3 then 6125082604576892351803922643584827785504 else
  if n = 4 then 1826636604997524103687025415407641796770237830395656339993104 else
  if n = 5 then 539591135845893472321171984066689216925967072799218066438690850816917581846356800 else
  if n = 7 then 47008405884583648061467424797718584759945791232612042288631768981257414823882029296160509060924983202698854755891344000352 else
  if n = 8 then 13874437610526695973432030937281792794508753341615275460032961883811228700950539972536064596195808715573671356327488034696840624189815766921744 else
  if n = 9 then 4095011303551043298381458892634582099661919021127691590168361890825419730600297983608501207060755564031003343017753233465183726221160828082437653171683206079471904 else
  if n = 11 then 356725796271344595362538697544313619467488421369493498037371366550617322162310163111120231790700680003529965624301981853184719610088996951904922053270643896404871333048989141424242719323225739706285656480 else
  if n = 13 then 31075199564316097092164123159986678234084653062908532215099406960826074416817190105457162947172925869819060714816167685174817539909593556569676637595108693817430559743853949985054494722265734731669003308448100526216960918092851998983265129704384 else
  798974726605473726946832238011593618400339158202517049033210936078539962612148351302787556971974837864606271200763683943951953866025539096785282858647326000342156170857478456413950631519959977197563975844721619162716127815821009475742892049151496040916675244806998969647283770674449648040311876430683451920

def lk (t a b : Nat) : Nat := (t >>> (4 * (16 * a + b))) % 16
def allT (n : Nat) (p : Nat → Bool) : Bool := (List.range n).all p
def okTab (n : Int) : Bool := allT n.toNat fun a => allT n.toNat fun b => decide (mulF n a b = (lk (tabM n) a b : Nat)) && decide (addF n a b 1 = (lk (tabA n) a b : Nat)) && decide (addF n a b (-1) = (lk (tabS n) a b : Nat))
theorem okTab_all : sizes.all okTab = true := by decide +kernel
def ok2 (m : Nat) (tm ta ts : Nat) : Bool := allT m fun a => allT m fun b =>
  Nat.beq (lk tm a b) (lk tm b a) && Nat.beq (lk ta a b) (lk ta b a) && Nat.beq (lk ta (lk ts a b) b) a && Nat.beq (lk ts a a) 0 && Nat.beq (lk tm a 1) a
def ok3 (m : Nat) (tm ta : Nat) : Bool := allT m fun a => allT m fun b => allT m fun c =>
  Nat.beq (lk tm (lk tm a b) c) (lk tm a (lk tm b c)) && Nat.beq (lk ta (lk ta a b) c) (lk ta a (lk ta b c)) && Nat.beq (lk tm a (lk ta b c)) (lk ta (lk tm a b) (lk tm a c))
theorem ok2_all : (sizes.all fun n => ok2 n.toNat (tabM n) (tabA n) (tabS n)) = true := by decide +kernel
theorem ok3_all : (sizes.all fun n => ok3 n.toNat (tabM n) (tabA n)) = true := by decide +kernel
def okOver (n : Int) : Bool := allN n fun a => allN n fun b => decide (b = 0) || decide (mulF n (overF n a b) b = a)
def okPow (n : Int) : Bool := allN n fun a => decide (powF n a n.toNat = a)
theorem okOver_all : sizes.all okOver = true := by decide +kernel
theorem okPow_all : sizes.all okPow = true := by decide +kernel
theorem of_allT {n : Nat} {p : Nat → Bool} (h : allT n p = true) {a : Nat} (h1 : a < n) : p a = true := List.all_eq_true.mp h a (List.mem_range.mpr h1)
section
variable {n a b c : Int}
theorem tabs (hn : n ∈ sizes) {a b : Nat} (ha : (a : Int) < n) (hb : (b : Int) < n) : mulF n a b = (lk (tabM n) a b : Nat) ∧ addF n a b 1 = (lk (tabA n) a b : Nat) ∧ addF n a b (-1) = (lk (tabS n) a b : Nat) := by
  have h := of_allT (of_allT (of_sizes okTab_all hn) (a := a) (by omega)) (a := b) (by omega)
  rw [Bool.and_eq_true, Bool.and_eq_true] at h
  exact ⟨of_decide_eq_true h.1.1, of_decide_eq_true h.1.2, of_decide_eq_true h.2⟩
theorem natOf (h0 : 0 ≤ a) : ∃ k : Nat, a = (k : Int) := ⟨a.toNat, by omega⟩
theorem laws2 (hn : n ∈ sizes) (a0 : 0 ≤ a) (a1 : a < n) (b0 : 0 ≤ b) (b1 : b < n) : mulF n a b = mulF n b a ∧ addF n a b 1 = addF n b a 1 ∧ addF n (addF n a b (-1)) b 1 = a ∧ addF n a a (-1) = 0 ∧ mulF n a 1 = a := by
  obtain ⟨a, rfl⟩ := natOf a0
  obtain ⟨b, rfl⟩ := natOf b0
  have sr := size_rng hn
  have h := of_allT (of_allT (of_sizes (p := fun n => ok2 n.toNat (tabM n) (tabA n) (tabS n)) ok2_all hn) (a := a) (by omega)) (a := b) (by omega)
  simp only [Bool.and_eq_true] at h
  obtain ⟨⟨⟨⟨h1, h2⟩, h3⟩, h4⟩, h5⟩ := h
  replace h1 := Nat.eq_of_beq_eq_true h1
  replace h2 := Nat.eq_of_beq_eq_true h2
  replace h3 := Nat.eq_of_beq_eq_true h3
  replace h4 := Nat.eq_of_beq_eq_true h4
  replace h5 := Nat.eq_of_beq_eq_true h5
  have t1 := tabs hn a1 b1
  have t2 := tabs hn b1 a1
  have t3 := tabs hn a1 a1
  have r := sub_rng hn a0 a1 b0 b1
  rw [t1.2.2] at r
  have t4 := tabs hn (a := lk (tabS n) a b) (b := b) r.2 b1
  have t5 := tabs hn (a := a) (b := 1) a1 (by omega)
  refine ⟨?_, ?_, ?_, ?_, ?_⟩
  · rw [t1.1, t2.1, h1]
  · rw [t1.2.1, t2.2.1, h2]
  · rw [t1.2.2, t4.2.1, h3]
  · rw [t3.2.2, h4]; rfl
  · rw [show (1 : Int) = ((1 : Nat) : Int) from rfl, t5.1, h5]
theorem laws3 (hn : n ∈ sizes) (a0 : 0 ≤ a) (a1 : a < n) (b0 : 0 ≤ b) (b1 : b < n) (c0 : 0 ≤ c) (c1 : c < n) :
    mulF n (mulF n a b) c = mulF n a (mulF n b c) ∧ addF n (addF n a b 1) c 1 = addF n a (addF n b c 1) 1 ∧ mulF n a (addF n b c 1) = addF n (mulF n a b) (mulF n a c) 1 := by
  have m1 := mul_rng hn a0 a1 b0 b1
  have m2 := mul_rng hn b0 b1 c0 c1
  have m3 := mul_rng hn a0 a1 c0 c1
  have d1 := add_rng hn a0 a1 b0 b1
  have d2 := add_rng hn b0 b1 c0 c1
  obtain ⟨a, rfl⟩ := natOf a0
  obtain ⟨b, rfl⟩ := natOf b0
  obtain ⟨c, rfl⟩ := natOf c0
  have sr := size_rng hn
  have h := of_allT (of_allT (of_allT (of_sizes (p := fun n => ok3 n.toNat (tabM n) (tabA n)) ok3_all hn) (a := a) (by omega)) (a := b) (by omega)) (a := c) (by omega)
  simp only [Bool.and_eq_true] at h
  obtain ⟨⟨h1, h2⟩, h3⟩ := h
  replace h1 := Nat.eq_of_beq_eq_true h1
  replace h2 := Nat.eq_of_beq_eq_true h2
  replace h3 := Nat.eq_of_beq_eq_true h3
  have tab := tabs hn a1 b1
  have tbc := tabs hn b1 c1
  have tac := tabs hn a1 c1
  rw [tab.1] at m1
  rw [tbc.1] at m2
  rw [tac.1] at m3
  rw [tab.2.1] at d1
  rw [tbc.2.1] at d2
  refine ⟨?_, ?_, ?_⟩
  · rw [tab.1, tbc.1, (tabs hn m1.2 c1).1, (tabs hn a1 m2.2).1, h1]
  · rw [tab.2.1, tbc.2.1, (tabs hn d1.2 c1).2.1, (tabs hn a1 d2.2).2.1, h2]
  · rw [tab.1, tac.1, tbc.2.1, (tabs hn a1 d2.2).1, (tabs hn m1.2 m3.2).2.1, h3]
theorem over_mul (hn : n ∈ sizes) (a0 : 0 ≤ a) (a1 : a < n) (b0 : 0 ≤ b) (b1 : b < n) (hb : b ≠ 0) : mulF n (overF n a b) b = a := by
  have h := of_allN (of_allN (of_sizes okOver_all hn) a0 a1) b0 b1
  rw [Bool.or_eq_true] at h
  rcases h with h | h
  · exact absurd (of_decide_eq_true h) hb
  · exact of_decide_eq_true h
theorem over_rng (hn : n ∈ sizes) (a0 : 0 ≤ a) (a1 : a < n) (b0 : 0 ≤ b) (b1 : b < n) (hb : b ≠ 0) : 0 ≤ overF n a b ∧ overF n a b < n := by
  have i := inv_ok hn (a := b) (by omega) b1
  exact mul_rng hn a0 a1 i.2.1 i.2.2
theorem pow_size (hn : n ∈ sizes) (a0 : 0 ≤ a) (a1 : a < n) : powF n a n.toNat = a := of_decide_eq_true (of_allN (of_sizes okPow_all hn) a0 a1)
def rngL (n : Int) : List Int := (List.range n.toNat).map fun (i : Nat) => (i : Int)
def rowA (n a : Int) : List Int := (List.range n.toNat).map fun (i : Nat) => addF n a i 1
def rowM (n a : Int) : List Int := (List.range n.toNat).map fun (i : Nat) => mulF n a i
def okRow (n : Int) : Bool := allN n fun a => (rowA n a).isPerm (rngL n) && (decide (a = 0) || (rowM n a).isPerm (rngL n))
theorem okRow_all : sizes.all okRow = true := by decide +kernel
theorem rowA_perm (hn : n ∈ sizes) (a0 : 0 ≤ a) (a1 : a < n) : (rowA n a).Perm (rngL n) := by
  have h := of_allN (of_sizes okRow_all hn) a0 a1
  rw [Bool.and_eq_true] at h
  exact List.isPerm_iff.mp h.1
theorem rowM_perm (hn : n ∈ sizes) (a0 : 0 ≤ a) (a1 : a < n) (hz : a ≠ 0) : (rowM n a).Perm (rngL n) := by
  have h := of_allN (of_sizes okRow_all hn) a0 a1
  rw [Bool.and_eq_true, Bool.or_eq_true] at h
  rcases h.2 with h | h
  · exact absurd (of_decide_eq_true h) hz
  · exact List.isPerm_iff.mp h
theorem rngL_sorted (n : Int) : (rngL n).Pairwise (· ≤ ·) := by
  unfold rngL
  refine List.Pairwise.map _ (fun a b (h : a < b) => by omega) (List.pairwise_lt_range)
end
end FM
end

section
set_option linter.all false
set_option maxRecDepth 100000
/-! # FL: the law's own sums over figures, against the field's -/
namespace FL
open FM
/-- the law's sum: k more figures -/
def la (b : Int) : Nat → Int → Int → Int → Int → Int
  | 0, f, _, _, _ => f
  | k + 1, f, w, x, y => la b k (f + (x + y) % b * w) (w * b) (x / b) (y / b)
def okA (n : Int) : Bool := allN n fun a => allN n fun c => decide (la (base n) 4 0 1 a c = addF n a c 1)
theorem okA_all : sizes.all okA = true := by decide +kernel
theorem la_add {n a c : Int} (hn : n ∈ sizes) (a0 : 0 ≤ a) (a1 : a < n) (c0 : 0 ≤ c) (c1 : c < n) : la (base n) 4 0 1 a c = addF n a c 1 := of_decide_eq_true (of_allN (of_allN (of_sizes okA_all hn) a0 a1) c0 c1)
/-- the numbers that, with c, sum up to a -/
def lessL (n a c : Int) (k : Nat) : List Int := ((List.range k).map fun (i : Nat) => (i : Int)).filter fun l => decide (addF n l c 1 = a)
def okS (n : Int) : Bool := allN n fun a => allN n fun c => decide ((lessL n a c n.toNat)[0]? = some (addF n a c (-1)))
theorem okS_all : sizes.all okS = true := by decide +kernel
theorem less_head {n a c : Int} (hn : n ∈ sizes) (a0 : 0 ≤ a) (a1 : a < n) (c0 : 0 ≤ c) (c1 : c < n) : (lessL n a c n.toNat)[0]? = some (addF n a c (-1)) := of_decide_eq_true (of_allN (of_allN (of_sizes okS_all hn) a0 a1) c0 c1)
theorem lessL_succ (n a c : Int) (k : Nat) : lessL n a c (k + 1) = lessL n a c k ++ (if addF n k c 1 = a then [(k : Int)] else []) := by
  unfold lessL
  rw [List.range_succ, List.map_append, List.filter_append]
  congr 1
  by_cases h : addF n k c 1 = a <;> simp [h]
theorem lessL_len (n a c : Int) (k : Nat) : (lessL n a c k).length ≤ k := by
  unfold lessL
  refine Nat.le_trans (List.length_filter_le ..) ?_
  rw [List.length_map, List.length_range]
  exact Nat.le_refl k
end FL
end

section
/-! # FO: an order of houses or a ring, in plain Lean (no program here) -/
set_option linter.all false
namespace FO
section
variable {L V : Type} [DecidableEq V] {num : L → Int} {one two : L → V}
/-- no house told, all that lead to it told -/
def ready (one two : L → V) (rs : List L) (told : List V) (v : V) : Bool := !decide (v ∈ told) && rs.all fun r => !decide (two r = v) || decide (one r ∈ told)
theorem ready_iff {rs : List L} {told : List V} {v : V} : ready one two rs told v = true ↔ v ∉ told ∧ ∀ r ∈ rs, two r = v → one r ∈ told := by
  unfold ready
  rw [Bool.and_eq_true, List.all_eq_true]
  constructor
  · rintro ⟨h1, h2⟩
    refine ⟨by simpa using h1, fun r m e => ?_⟩
    have := h2 r m
    simpa [e] using this
  · rintro ⟨h1, h2⟩
    refine ⟨by simpa using h1, fun r m => ?_⟩
    by_cases e : two r = v
    · simpa [e] using h2 r m e
    · simp [e]
def nxt (one two : L → V) (hs : List V) (rs : List L) (told : List V) : Option V := hs.find? (ready one two rs told)
def grow (one two : L → V) (hs : List V) (rs : List L) (told : List V) : List V := told ++ (nxt one two hs rs told).toList
def iter (one two : L → V) (hs : List V) (rs : List L) : Nat → List V
  | 0 => []
  | n + 1 => grow one two hs rs (iter one two hs rs n)
/-- the order, as far as it goes -/
def ord (one two : L → V) (hs : List V) (rs : List L) : List V := iter one two hs rs hs.length
theorem ready_perm {rs qs : List L} (p : rs.Perm qs) (told : List V) : ready one two rs told = ready one two qs told := by
  funext v
  have : ready one two rs told v = true ↔ ready one two qs told v = true := by
    rw [ready_iff, ready_iff]
    exact ⟨fun h => ⟨h.1, fun r m => h.2 r (p.mem_iff.mpr m)⟩, fun h => ⟨h.1, fun r m => h.2 r (p.mem_iff.mp m)⟩⟩
  cases a : ready one two rs told v <;> cases b : ready one two qs told v <;> simp_all
theorem iter_perm {hs : List V} {rs qs : List L} (p : rs.Perm qs) : ∀ n, iter one two hs rs n = iter one two hs qs n
  | 0 => rfl
  | n + 1 => by
    show grow _ _ _ _ _ = grow _ _ _ _ _
    rw [iter_perm p n]
    unfold grow nxt
    rw [ready_perm p]
theorem ord_perm {hs : List V} {rs qs : List L} (p : rs.Perm qs) : ord one two hs rs = ord one two hs qs := iter_perm p _
theorem nxt_some {hs told : List V} {rs : List L} {v : V} (h : nxt one two hs rs told = some v) : v ∈ hs ∧ v ∉ told ∧ ∀ r ∈ rs, two r = v → one r ∈ told :=
  ⟨List.mem_of_find?_eq_some h, ready_iff.mp (List.find?_some h)⟩
theorem nxt_none {hs told : List V} {rs : List L} (h : nxt one two hs rs told = none) : ∀ v ∈ hs, v ∉ told → ∃ r ∈ rs, two r = v ∧ one r ∉ told := fun v m n => by
  have := List.find?_eq_none.mp h v m
  rw [ready_iff] at this
  apply Classical.byContradiction
  intro c
  refine this ⟨n, fun r mr e => ?_⟩
  apply Classical.byContradiction
  intro c2
  exact c ⟨r, mr, e, c2⟩
theorem iter_ok {hs : List V} {rs : List L} : ∀ n, (iter one two hs rs n).Nodup ∧ ∀ v ∈ iter one two hs rs n, v ∈ hs
  | 0 => ⟨.nil, nofun⟩
  | n + 1 => by
    obtain ⟨d, s⟩ := iter_ok (hs := hs) (rs := rs) n
    show (grow _ _ _ _ _).Nodup ∧ ∀ v ∈ grow _ _ _ _ _, v ∈ hs
    unfold grow
    cases e : nxt one two hs rs (iter one two hs rs n) with
    | none => rw [Option.toList_none, List.append_nil]; exact ⟨d, s⟩
    | some v =>
      obtain ⟨h1, h2, _⟩ := nxt_some e
      refine ⟨List.nodup_append.mpr ⟨d, by simp, fun a ma b mb e => ?_⟩, fun x m => ?_⟩
      · simp at mb
        exact h2 (mb ▸ e ▸ ma)
      · rcases List.mem_append.mp m with m | m
        · exact s x m
        · simp at m
          exact m ▸ h1
theorem iter_stay {hs : List V} {rs : List L} {k : Nat} (h : nxt one two hs rs (iter one two hs rs k) = none) : ∀ j, iter one two hs rs (k + j) = iter one two hs rs k
  | 0 => rfl
  | j + 1 => by
    show grow _ _ _ _ (iter one two hs rs (k + j)) = _
    rw [iter_stay h j]
    unfold grow
    rw [h]
    exact List.append_nil _
theorem pigeon : ∀ (xs ys : List V), xs.Nodup → (∀ x ∈ xs, x ∈ ys) → xs.length ≤ ys.length
  | [], _, _, _ => Nat.zero_le _
  | x :: xs, ys, d, h => by
    have d' := List.nodup_cons.mp d
    have m := h x List.mem_cons_self
    have := pigeon xs (ys.erase x) d'.2 fun y my => (List.mem_erase_of_ne (fun e => by rw [e] at my; exact d'.1 my)).mpr (h y (List.mem_cons_of_mem _ my))
    rw [List.length_erase_of_mem m] at this
    have := List.length_pos_of_mem m
    rw [List.length_cons]
    omega
/-- told k houses, one at each step, and no more: this is the order -/
theorem ord_of {hs : List V} {rs : List L} {k : Nat} (l : (iter one two hs rs k).length = k) (h : nxt one two hs rs (iter one two hs rs k) = none) : iter one two hs rs k = ord one two hs rs := by
  obtain ⟨d, s⟩ := iter_ok (one := one) (two := two) (hs := hs) (rs := rs) k
  have := pigeon _ _ d s
  rw [l] at this
  have e := iter_stay h (hs.length - k)
  rw [show k + (hs.length - k) = hs.length by omega] at e
  exact e.symm
/-- with as many steps as houses all is told that can be -/
theorem len_or {hs : List V} {rs : List L} : ∀ n, (iter one two hs rs n).length = n ∨ nxt one two hs rs (iter one two hs rs n) = none
  | 0 => .inl rfl
  | n + 1 => by
    rcases len_or (hs := hs) (rs := rs) n with h | h
    · cases e : nxt one two hs rs (iter one two hs rs n) with
      | none =>
        right
        rw [iter_stay e 1]
        exact e
      | some v =>
        left
        show (grow _ _ _ _ _).length = n + 1
        unfold grow
        rw [e, List.length_append, h]
        rfl
    · right
      rw [iter_stay h 1]
      exact h
theorem ord_none {hs : List V} {rs : List L} : nxt one two hs rs (ord one two hs rs) = none := by
  rcases len_or (hs := hs) (rs := rs) (one := one) (two := two) hs.length with h | h
  · cases e : nxt one two hs rs (ord one two hs rs) with
    | none => rfl
    | some v =>
      obtain ⟨h1, h2, _⟩ := nxt_some e
      obtain ⟨d, s⟩ := iter_ok (one := one) (two := two) (hs := hs) (rs := rs) hs.length
      have := pigeon (v :: ord one two hs rs) hs (List.nodup_cons.mpr ⟨h2, d⟩) fun x m => by
        rcases List.mem_cons.mp m with rfl | m
        · exact h1
        · exact s x m
      rw [List.length_cons] at this
      have : (ord one two hs rs).length = hs.length := h
      omega
  · exact h
/-- the order lacks a house -/
theorem ord_short {hs : List V} {rs : List L} (nd : hs.Nodup) : (ord one two hs rs).length = hs.length ↔ ∀ v ∈ hs, v ∈ ord one two hs rs := by
  obtain ⟨d, s⟩ := iter_ok (one := one) (two := two) (hs := hs) (rs := rs) hs.length
  constructor
  · intro e v m
    apply Classical.byContradiction
    intro n
    have := pigeon (v :: ord one two hs rs) hs (List.nodup_cons.mpr ⟨n, d⟩) fun x m' => by
      rcases List.mem_cons.mp m' with rfl | m'
      · exact m
      · exact s x m'
    rw [List.length_cons] at this
    omega
  · intro h
    have h1 := pigeon _ _ nd h
    have h2 := pigeon _ _ d s
    exact Nat.le_antisymm h2 h1
/-- a ring, by its lines' numbers -/
def Ring (num : L → Int) (one two : L → V) (rs : List L) (ks : List Int) : Prop := ∃ (qs : List L) (here : V) (w : List V), (∀ q ∈ qs, q ∈ rs) ∧ ks = qs.map num ∧ qs.map one = here :: w ∧ qs.map two = w ++ [here] ∧ (here :: w).Nodup
/-- what stands while one goes back: the lines gone, each into the house that it was met at -/
structure Back (one two : L → V) (rs : List L) (left : List V) (ps : List L) (here : V) : Prop where
  inn : ∀ p ∈ ps, p ∈ rs
  sub : ∀ v ∈ ps.map two, v ∈ left
  nd : (ps.map two).Nodup
  ch : ps.map one = (ps.map two ++ [here]).drop 1
  hl : here ∈ left
theorem Back.start {rs : List L} {left : List V} {here : V} (h : here ∈ left) : Back one two rs left [] here := ⟨nofun, nofun, .nil, rfl, h⟩
theorem Back.step {rs : List L} {left : List V} {ps : List L} {r : L} (b : Back one two rs left ps (two r)) (n : two r ∉ ps.map two) (m : r ∈ rs) (h : one r ∈ left) : Back one two rs left (ps ++ [r]) (one r) := by
  refine ⟨fun p mp => ?_, fun v mv => ?_, ?_, ?_, h⟩
  · rcases List.mem_append.mp mp with mp | mp
    · exact b.inn p mp
    · rw [List.mem_singleton.mp mp]; exact m
  · rw [List.map_append] at mv
    rcases List.mem_append.mp mv with mv | mv
    · exact b.sub v mv
    · rw [List.map_singleton, List.mem_singleton] at mv
      rw [mv]; exact b.hl
  · rw [List.map_append]
    refine List.nodup_append.mpr ⟨b.nd, by simp, fun x mx y my e => ?_⟩
    rw [List.map_singleton, List.mem_singleton] at my
    exact n (my ▸ e ▸ mx)
  · rw [List.map_append, b.ch, List.map_append, List.map_singleton, List.map_singleton]
    rw [List.drop_append_of_le_length (l₁ := ps.map two ++ [two r]) (by simp)]
theorem Back.ring {rs : List L} {left : List V} {ps : List L} {here : V} (b : Back one two rs left ps here) {i : Nat} (e : (ps.map two)[i]? = some here) : Ring num one two rs (((ps.map num).drop i).reverse) ∧ i < ps.length := by
  obtain ⟨hi, ei⟩ := List.getElem?_eq_some_iff.mp e
  have hi' := hi
  rw [List.length_map] at hi'
  refine ⟨⟨(ps.drop i).reverse, here, (((ps.map two).drop (i + 1))).reverse, fun q m => b.inn q (List.mem_of_mem_drop (List.mem_reverse.mp m)), ?_, ?_, ?_, ?_⟩, hi'⟩
  · rw [List.map_reverse, List.map_drop]
  · rw [List.map_reverse, List.map_drop, b.ch, List.drop_drop, List.drop_append_of_le_length (by omega), List.reverse_append, Nat.add_comm]
    rfl
  · rw [List.map_reverse, List.map_drop, List.drop_eq_getElem_cons hi, ei, List.reverse_cons]
  · have h1 : ((ps.map two).drop i).Nodup := (List.drop_sublist _ _).nodup b.nd
    rw [List.drop_eq_getElem_cons hi, ei] at h1
    rw [List.nodup_cons] at h1 ⊢
    exact ⟨fun m => h1.1 (List.mem_reverse.mp m), (List.reverse_perm _).nodup_iff.mpr h1.2⟩
end
end FO
end

section
set_option Elab.async false
set_option linter.all false
set_option maxRecDepth 100000
set_option maxHeartbeats 4000000
/-! # UTS: sets made of a list, told by what each add does; sets of texts, their length, sorted -/
namespace U
open PySem L2 PySem.Spec PyProof.Rows PySem.Froz
local macro_rules | `(tactic| walk_at "go on") => `(tactic| repeat (any_goals first | assumption | wp_step))
local macro_rules | `(tactic| walk_at "one more") => `(tactic| (refine codeAny_builtin F.entry_set_update_loop ?_; rw [Around.under_plainId F.plain_set_update_loop _]))
/-- a set as it is laid first -/
noncomputable def frs (w : World) : Obj := sObj "set" (#[], 0, SetTable.fresh 0 0 (!w.params.followText "set-order"))
section
variable {P : Program} {w : World}
/-- what one more add does to the set at S: Z tells it by the number of the items that are in -/
def AddStep (P : Program) (w : World) (S : Addr) (its : Array Value) (Z : Nat → Heap → Prop) : Prop :=
  ∀ (A : Around) (E : Value → Shared → Prop) (i : Nat) (v : Value) (s : Shared) (Q : Bool → Shared → Prop), its[i]? = some v → Z i s.heap →
    (∀ b h' tk, Heap.SameBut S s.heap h' → s.toks ≤ tk → Z (i + 1) h' → Q b { s with heap := h', toks := tk }) → wpAny (model P w) A (setAdd S v) Q E s
/-- Z asks nothing but the set's own object -/
def OnlyAt (S : Addr) (Z : Nat → Heap → Prop) : Prop := ∀ i h h', Z i h → (∀ o, h.get? S = some o → h'.get? S = some o) → Z i h'
theorem add_all {A : Around} {R : Result → Shared → Prop} {J S : Addr} {fp wr : List Addr} {G : Array GenState → Array GenState → Prop} {its : Array Value} {St : Nat → Shared → Prop} {Z : Nat → Heap → Prop}
    (W : WalksS P w A.in1 J fp wr G its.size (fun i v => its[i]? = some v) St) (free : S ∉ fp) (oz : OnlyAt S Z) (st : AddStep P w S its Z) :
    ∀ (left i : Nat) (s : Shared), its.size = i + left → St i s → Z i s.heap → (∀ s', Moved (S :: wr) G s s' → Z its.size s'.heap → R (.ok (.ret .none)) s') →
      codeAny (model P w) A (.builtin "set.update.loop" ⟨[.ref S, .ref J], []⟩) R s
  | 0, i, s, e, hs, z, k => by
    have ei : i = its.size := by omega
    subst ei
    walk_at "one more"
    show wpAny _ A.in1 (pyNext (.ref J) >>= _) _ _ s
    refine wpAny_bind (W.done s _ _ hs fun t m => ?_)
    show wpAny _ A.in1 (ret Value.none) _ _ t
    refine wpAny_pure (k t (m.mono fun b hb => List.mem_cons_of_mem _ hb) (oz _ _ _ z fun o q => m.heap S o (fun hb => free (W.sub _ hb)) q))
  | left + 1, i, s, e, hs, z, k => by
    walk_at "one more"
    show wpAny _ A.in1 (pyNext (.ref J) >>= _) _ _ s
    refine wpAny_bind (W.item i s _ _ (by omega) hs fun v t at_i hs1 m => ?_)
    have z1 : Z i t.heap := oz _ _ _ z fun o q => m.heap S o (fun hb => free (W.sub _ hb)) q
    show wpAny _ A.in1 (holding [v] (setAdd S v) >>= _) _ _ t
    refine wpAny_bind (wpAny_holding (st _ _ i v t _ at_i z1 fun b h' tk same le z2 => ?_))
    refine wpAny_pure ⟨plainId_quiet F.plain_set_update_loop _, add_all W free oz st left (i + 1) _ (by omega) (W.frame _ t _ _ hs1 le fun b hb o q => ?_) z2 fun s' m2 z3 => ?_⟩
    · exact (same.2 b fun y => free (y ▸ hb)).trans q
    · exact k s' (Moved.trans W.gtrans ((m.mono fun b hb => List.mem_cons_of_mem _ hb).then_heap le fun b o hb q => (same.2 b fun y => hb (y ▸ List.mem_cons_self)).trans q) m2) z3
/-- set.__init__ of the new set at S and a list -/
theorem init_all {A : Around} {S l : Addr} {its : Array Value} {Z : Nat → Heap → Prop} {s : Shared} {R : Result → Shared → Prop} (hh : A.handled = none) {led : Bool} (oS : s.heap.get? S = some { cls := .type "set", dict := none, data := .set #[] 0 (.fresh 0 0 led) }) (hl : s.heap.IsList l its) (lS : l ≠ S)
    (oz : OnlyAt S Z) (st : AddStep P w S its Z) (z0 : Z 0 s.heap)
    (k : ∀ h' tk, Z its.size h' → (∀ b o, b ≠ S → s.heap.get? b = some o → h'.get? b = some o) → R (.ok (.ret .none)) { s with heap := h', toks := tk }) :
    codeAny (model P w) A (.call (.builtin "set.__init__") ⟨[.ref S, .ref l], []⟩) R s := by
  obtain ⟨⟨cls, dct, dat, slo⟩, ol, ec, n, ed⟩ := hl
  simp only at ec ed
  subst ec
  subst ed
  have isS : s.TypeIs (.ref S) "set" := ⟨_, oS, rfl⟩
  have lt : S < s.heap.objs.size := Heap.lt_size oS
  have ll : l < s.heap.objs.size := Heap.lt_size ol
  have no1 := F.sub_list_set
  have no2 := F.sub_list_frozenset
  have no3 : (Value.type "list" == Value.type "dict") = false := by decide
  have hl : s.heap.IsList l its := ⟨_, ol, rfl, n, rfl⟩
  refine codeAny_call_builtin F.called_set.init.plain F.entry_set_init (check_set_init_1 isS ?_)
  unfold Builtin.«set.__init__» noKeywords Builtin.Frozenset.updateFrom
  generalize e : pyIter = it
  wp_walk
  subst e
  refine wpAny_pyIter_list hl (wpAny_bind (wpAny_runValue ?_))
  have calm : A.in1.in1.handled = none := by simp [hh]
  refine add_all (its := its) ((Walks.list calm s.heap.objs.size l (Nat.ne_of_lt ll) its).toS) (fun y => ?_) oz st its.size 0 _ (by omega) ?st ?zz fun s' m z => ?_
  · rcases List.mem_cons.mp y with y | y
    · exact Nat.ne_of_lt lt y
    · exact lS (List.mem_singleton.mp y).symm
  case st => exact ⟨⟨_, Heap.get?_push_size _ rfl, rfl, rfl⟩, hl.push _⟩
  case zz => exact oz _ _ _ z0 fun o q => Heap.get?_push_of_some _ q
  · obtain ⟨h', g, d, tk, os⟩ := s'
    have eg : g = s.gens := m.gens
    have ed : d = s.drawn := m.drawn
    have eo : os = s.os := m.os
    subst eg
    subst ed
    subst eo
    refine wpAny_pure (wpAny_pure (k h' tk z fun b o nb q => m.heap b o (fun y => ?_) (Heap.get?_push_of_some _ q)))
    rcases List.mem_cons.mp y with y | y
    · exact nb y
    · exact Nat.ne_of_lt (Heap.lt_size q) (List.mem_singleton.mp y)
/-- set(l), l a list -/
theorem set_all {A : Around} {l : Addr} {its : Array Value} {Z : Nat → Heap → Prop} {s : Shared} {Q : Value → Shared → Prop} {E : Value → Shared → Prop} (hh : A.handled = none) (hl : s.heap.IsList l its)
    (oz : OnlyAt s.heap.objs.size Z) (st : AddStep P w s.heap.objs.size its Z) (z0 : ∀ h, h.get? s.heap.objs.size = some (frs w) → Z 0 h)
    (k : ∀ h' tk, Z its.size h' → (∀ b o, s.heap.get? b = some o → h'.get? b = some o) → Q (.ref s.heap.objs.size) { s with heap := h', toks := tk }) :
    wpAny (model P w) A (call (.type "set") [.ref l]) Q E s := by
  have fresh := Heap.get?_push_size s.heap (o := frs w) rfl
  have a1 := F.called_set.made
  have a2 := F.called_set.sub
  have a3 := F.called_set.notType
  have a4 := F.called_set.canCreate
  have a5 := F.typeCall_set_1 (.ref l)
  obtain ⟨c1, c2, a6⟩ := F.called_set.mro
  have quiet : (Code.builtin "type.__call__" ⟨[.type "set", .ref l], []⟩).quiet = true := Code.quiet_builtin _ (by decide +kernel)
  have same := Around.under_plain (A := A) (weight_type_call_type "set" [.ref l] []) rfl
  refine wpAny_call (codeAny_of_tree (wpAny_pure (And.intro quiet (codeAny_builtin F.entry_type_call ?_))))
  simp only [same]
  walk_at "go on"
  refine codeAny_mono (code_set_led1 (.ref l) (E := E) (Q₁ := fun v t => v = .ref s.heap.objs.size ∧ t = { s with heap := s.heap.push (frs w) }) ⟨rfl, rfl⟩) fun r t hr => ?_
  rcases r with e | f
  · exact hr
  cases f with
  | ret v =>
    obtain ⟨rfl, rfl⟩ := hr
    have isT : Shared.TypeIs { s with heap := s.heap.push (frs w) } (.ref s.heap.objs.size) "set" := ⟨_, fresh, rfl⟩
    have a7 : isSubtype (frs w).cls (.type "set") = pure true := a2
    have a8 : (frs w).cls = .type "set" := rfl
    have b1 := F.called_set.init.lookup
    have b2 := F.called_set.init.bind (.ref s.heap.objs.size)
    walk_at "go on"
    refine codeAny_mono (init_all (P := P) (w := w) (Z := Z) (its := its) (led := !w.params.followText "set-order") (R := fun r t => ∃ h' tk, r = .ok (.ret .none) ∧ t = { s with heap := h', toks := tk } ∧ Z its.size h' ∧ ∀ b o, s.heap.get? b = some o → h'.get? b = some o) (by first | exact hh | simp [hh])
      fresh (hl.push _) (Nat.ne_of_lt (by obtain ⟨o, e, _⟩ := hl; exact Heap.lt_size e)) oz st (z0 _ fresh) fun h' tk z kp => ⟨h', tk, rfl, rfl, z, fun b o q => kp b o (Nat.ne_of_lt (Heap.lt_size q)) (Heap.get?_push_of_some _ q)⟩) fun r t hr => ?_
    obtain ⟨h', tk, rfl, rfl, z, kp⟩ := hr
    walk_at "go on"
    exact k h' tk z kp
  | _ => exact hr.elim
end
end U
end

section
set_option Elab.async false
set_option linter.all false
set_option maxRecDepth 100000
set_option maxHeartbeats 4000000
/-! # UTS2: sets of texts: made of a list, their length, sorted -/
namespace U
open PySem L2 PySem.Spec PyProof.Rows PySem.Froz
section
variable {P : Program} {w : World}
/-- the payload holds the texts l and can be walked -/
structure TxR (P : Program) (w : World) (D : SD) (l : List Str) : Prop where
  ok : TxOk P w D l
  ris : Ris D.2.2.place.toList
  led : w.params.followText "set-order" = true ∨ D.2.2.led = true
  one : l.Nodup
theorem TxR.new : TxR P w (#[], 0, SetTable.fresh 0 0 (!w.params.followText "set-order")) [] where
  ok := .nil (by rfl)
  ris := List.Pairwise.nil
  led := by
    show _ ∨ (!w.params.followText "set-order") = true
    cases w.params.followText "set-order" <;> simp
  one := .nil
theorem TxR.add {D : SD} {l : List Str} {k : Str} {u : Tok} (F : TxR P w D l) (no : k ∉ l) : TxR P w (addTx (hashStr w k) (.str k u) D) (k :: l) := by
  obtain ⟨es, ep, t⟩ := D
  have r1 := layNew_ris t es (hashStr w k) (.str k u) F.ris
  have l1 := layNew_led t es (hashStr w k) (.str k u)
  have both : Ris (addTx (hashStr w k) (.str k u) (es, ep, t)).2.2.place.toList ∧ (addTx (hashStr w k) (.str k u) (es, ep, t)).2.2.led = t.led := by
    unfold addTx tailTx
    dsimp only
    generalize layNew t es (hashStr w k) (.str k u) = L at r1 l1
    have r2 : Ris (if L.2.1.plain = true then { L.2.1 with plain := false } else L.2.1).place.toList ∧ (if L.2.1.plain = true then { L.2.1 with plain := false } else L.2.1).led = t.led := by
      by_cases c : L.2.1.plain = true
      · rw [if_pos c]; exact ⟨r1, l1⟩
      · rw [if_neg c]; exact ⟨r1, l1⟩
    generalize (if L.2.1.plain = true then { L.2.1 with plain := false } else L.2.1) = t2 at r2
    by_cases c : (!L.2.2.1 && t2.tooFull) = true
    · rw [if_pos c]
      exact ⟨relayAll_ris _ _ _, (relayAll_led _ _ _).trans r2.2⟩
    · rw [if_neg c]
      exact r2
  exact ⟨add_ok u F.ok, both.1, F.led.imp id fun y => both.2.trans y, List.nodup_cons.mpr ⟨no, F.one⟩⟩
/-- a text that is in already -/
theorem add_old {A : Around} {E : Value → Shared → Prop} {s : Shared} {S : Addr} {D : SD} {l : List Str} {k : Str} {u : Tok} {Q : Bool → Shared → Prop} (o : s.heap.get? S = some (sObj "set" D)) (F : TxOk P w D l) (hk : k ∈ l) (few : l.length < scanBound)
    (h : Q false s) : wpAny (model P w) A (setAddHashed S (.str k u) (hashStr w k)) Q E s := by
  obtain ⟨es, ep, t⟩ := D
  have sz : es.size = l.length := F.sz
  have el : ElemsOf (strKind P w) es.toList := F.el
  have fit : t.fits es.size = true := F.fit
  have dat : (sObj "set" (es, ep, t)).data = .set es ep t := rfl
  unfold setAddHashed setAddHashedIn
  refine wpAny_holding (wpAny_bind (wpAny_setState_of o dat fit ?_))
  dsimp only
  rw [byScan_of (knd := strKind P w) rfl (by omega) el, if_pos rfl]
  unfold setAddByScan
  refine wpAny_bind (wpAny_bind (wpAny_rule (wpAny_bind (wpAny_setScan_of (knd := strKind P w) (k := k) (is_str k u) o dat fit el ?_))))
  obtain ⟨e, he, ie⟩ := (F.mem k).mp hk
  cases hr : List.findIdx? (fun e => (strKind P w).is k e.2) es.toList with
  | none => exact absurd (List.findIdx?_eq_none_iff.mp hr e he) (by rw [ie]; exact Bool.noConfusion)
  | some j => exact wpAny_pure (wpAny_pure h)
/-- the set at S behind the first i texts -/
def TxZ (P : Program) (w : World) (S : Addr) (xs : List Str) (i : Nat) (h : Heap) : Prop := ∃ D l, h.get? S = some (sObj "set" D) ∧ TxR P w D l ∧ (∀ x, x ∈ l ↔ x ∈ xs.take i)
theorem nodup_le : ∀ {l xs : List Str}, l.Nodup → (∀ x, x ∈ l → x ∈ xs) → l.length ≤ xs.length
  | [], _, _, _ => Nat.zero_le _
  | a :: l, xs, n, m => by
    obtain ⟨n1, n2⟩ := List.nodup_cons.mp n
    have h := nodup_le (xs := xs.erase a) n2 fun x hx => (List.mem_erase_of_ne fun e => n1 (by rw [← e]; exact hx)).mpr (m x (List.mem_cons_of_mem _ hx))
    have ma := m a List.mem_cons_self
    have e := List.length_erase_of_mem ma
    have := List.length_pos_of_mem ma
    rw [List.length_cons]
    omega
theorem nodup_perm : ∀ {l xs : List Str}, l.Nodup → (∀ x, x ∈ l → x ∈ xs) → xs.length ≤ l.length → l.Perm xs
  | [], xs, _, _, h => by
    rw [List.eq_nil_of_length_eq_zero (Nat.le_zero.mp h)]
  | a :: l, xs, n, m, h => by
    obtain ⟨n1, n2⟩ := List.nodup_cons.mp n
    have ma := m a List.mem_cons_self
    have e := List.length_erase_of_mem ma
    rw [List.length_cons] at h
    have p := nodup_perm (xs := xs.erase a) n2 (fun x hx => (List.mem_erase_of_ne fun e => n1 (by rw [← e]; exact hx)).mpr (m x (List.mem_cons_of_mem _ hx))) (by omega)
    exact (p.cons a).trans (List.perm_cons_erase ma).symm
theorem strs_mem : ∀ {vs : List Value} {xs : List Str}, StrsAre vs xs → ∀ {x : Str} {v : Value}, v ∈ vs → Value.isStrOf x v = true → x ∈ xs
  | _, _, .cons y t r, x, v, h, e => by
    rcases List.mem_cons.mp h with z | z
    · subst z
      obtain ⟨t', z⟩ := Value.isStrOf_shape e
      cases z
      exact List.mem_cons_self
    · exact List.mem_cons_of_mem _ (strs_mem r z e)
theorem tx_step {S : Addr} {its : Array Value} {xs : List Str} (r : StrsAre its.toList xs) (few : xs.length + 1 < scanBound) : AddStep P w S its (TxZ P w S xs) := by
  intro A E i v s Q hv ⟨D, l, o, F, m⟩ k
  have hv' : its.toList[i]? = some v := by rw [Array.getElem?_toList]; exact hv
  obtain ⟨x, t, rfl, hx⟩ := StrsAre.item r i v hv'
  have tk : xs.take (i + 1) = xs.take i ++ [x] := by rw [List.take_add_one, hx]; rfl
  have ll : l.length ≤ xs.length := nodup_le F.one fun y hy => List.mem_of_mem_take ((m y).mp hy)
  unfold setAdd
  refine wpAny_holding (wpAny_bind ((strKind P w).pyHash (k := x) (strKind_is _ _ _ _) ?_))
  by_cases c : x ∈ l
  · refine add_old (s := { s with toks := s.toks + 1 }) o F.ok c (by omega) (k false s.heap (s.toks + 1) (.refl _ _) (Nat.le_succ _) ⟨D, l, o, F, fun y => ?_⟩)
    rw [tk, List.mem_append, m y, List.mem_singleton]
    exact ⟨.inl, fun z => z.elim id fun z => z ▸ (m x).mp c⟩
  · refine add_x (s := { s with toks := s.toks + 1 }) o F.ok c (by omega) (k true _ (s.toks + 1) (Heap.SameBut.update _ _ _) (Nat.le_succ _) ⟨_, x :: l, get_upd _ o rfl, F.add c, fun y => ?_⟩)
    rw [tk, List.mem_append, List.mem_cons, m y, List.mem_singleton]
    exact Or.comm
theorem tx_only {S : Addr} {xs : List Str} : OnlyAt S (TxZ P w S xs) := fun i h h' ⟨D, l, o, r⟩ k => ⟨D, l, k _ o, r⟩
end
/-- the set of the texts l at a -/
def SetTx (P : Program) (w : World) (a : Addr) (l : List Str) : HO := .ext fun h => ∃ D, h.get? a = some (sObj "set" D) ∧ TxR P w D l
theorem setTx_new {P : Program} {w : World} {H : Hp} {h : Heap} {a : Addr} {l : List Str} {D : SD} (o : h.get? a = some (sObj "set" D)) (F : TxR P w D l) : ObjOk P w H h a (SetTx P w a l) :=
  ⟨⟨D, o, F⟩, ⟨_, o⟩, fun h1 h2 p k => by
    obtain ⟨D, o, F⟩ := p
    exact ⟨D, k _ o, F⟩⟩
section
variable {X : Cx}
/-- set(l), l a list of texts -/
def rSetTx (K : PySem.W.Frag) (P : Program) (w : World) : List V → Hp → VK → Prop := fun vs H Q => ∃ (l : Addr) (xs : List Str), vs = [V.ref l] ∧ SqL K H l (xs.map V.str) ∧ xs.length ≤ 1000 ∧
  ∀ a ys, H a = none → ys.Nodup → (∀ x, x ∈ ys ↔ x ∈ xs) → Q (.ref a) (upd H a (SetTx P w a ys))
theorem cr_setTx (hc : X.calm = true) : CallR X (.type "set") (rSetTx X.K X.prog X.w) := by
  intro pins s σ H vs us Q I r h
  obtain ⟨l, xs, rfl, hl, few, q⟩ := h
  rw [Vals.ref1 r]
  obtain ⟨its, rv, pl, hz⟩ := I.list hl
  have len : its.toArray.size = xs.length := by rw [List.size_toArray, ← rv.length, List.length_map]
  refine set_all (P := X.prog) (w := X.w) (I.ok.hd hc) pl.isList (tx_only (xs := xs)) (tx_step (by simpa using rv.strs) (by unfold scanBound; omega)) (fun h o => ⟨_, [], o, .new, fun x => by simp⟩) fun h' tk z kp => ?_
  obtain ⟨D, ys, o, F, m⟩ := z
  rw [len, List.take_length] at m
  exact ⟨.ref s.heap.objs.size, upd H s.heap.objs.size (SetTx X.prog X.w s.heap.objs.size ys), I.laid (t' := tk) kp (Nat.le_refl _) (setTx_new o F), rfl, q _ ys (I.hok.fresh (Nat.le_refl _)) F.one m⟩
/-- len of such a set -/
def rLenTx (P : Program) (w : World) : List V → Hp → VK → Prop := fun vs H Q => ∃ a l, vs = [V.ref a] ∧ H a = some (SetTx P w a l) ∧ l.length ≤ 1000 ∧ Q (.int (l.length : Nat)) H
theorem cr_lenTx : CallR X (.builtin "len") (rLenTx X.prog X.w) := by
  intro pins s σ H vs us Q I r h
  obtain ⟨a, l, rfl, ha, few, q⟩ := h
  rw [Vals.ref1 r]
  obtain ⟨⟨es, ep, t⟩, o, F⟩ : ∃ D, s.heap.get? a = some (sObj "set" D) ∧ TxR X.prog X.w D l := (I.hok a _ ha).1
  have sz : es.size = l.length := F.ok.sz
  refine call_len_set o ⟨rfl, rfl, rfl⟩ rfl F.ok.fit (by rw [sz]; omega) ⟨.int (l.length : Nat), H, I.kept (t' := s.toks + 1 + 1) fun _ _ e => e, ⟨_, by rw [sz]⟩, q⟩
/-- sorted of such a set -/
def rSortTx (P : Program) (w : World) : List V → Hp → VK → Prop := fun vs H Q => ∃ a l, vs = [V.ref a] ∧ H a = some (SetTx P w a l) ∧ l.length < 64 ∧
  ∀ (ys : List Str) (p : Addr), ys.Perm l → sortedS ys = true → H p = none → Q (.ref p) (upd H p (.lst (ys.map V.str)))
theorem strs_of : ∀ (vs : List Value), (∀ v ∈ vs, ∃ x t, v = Value.str x t) → ∃ xs, StrsAre vs xs
  | [], _ => ⟨[], .nil⟩
  | v :: vs, h => by
    obtain ⟨x, t, rfl⟩ := h v List.mem_cons_self
    obtain ⟨xs, r⟩ := strs_of vs fun u hu => h u (List.mem_cons_of_mem _ hu)
    exact ⟨x :: xs, .cons x t r⟩
theorem cr_sortTx (hc : X.calm = true) : CallR X (.builtin "sorted") (rSortTx X.prog X.w) := by
  intro pins s σ H vs us Q I r h
  obtain ⟨a, l, rfl, ha, few, q⟩ := h
  rw [Vals.ref1 r]
  obtain ⟨⟨es, ep, t⟩, o, F⟩ : ∃ D, s.heap.get? a = some (sObj "set" D) ∧ TxR X.prog X.w D l := (I.hok a _ ha).1
  have sz : es.size = l.length := F.ok.sz
  refine Calls.call_function_entry kind_sorted plain_sorted entry_sorted (args_sorted1 _) ?_
  unfold Builtin.«sorted»
  refine wpAny_bind (m := checkCount "sorted" 1 1 _) (wpAny_pure ?_)
  refine wpAny_bind (collect_set (A := X.A.in1) (I.ok.hd hc) ⟨_, o, rfl, rfl⟩ F.ok.fit (by rw [sz]; unfold scanBound; omega) F.ris F.led fun s1 vs k1 hz g1 o1 pm => ?_)
  obtain ⟨xs, hx⟩ := strs_of vs fun v hv => by
    obtain ⟨e, he, rfl⟩ := List.mem_map.mp (pm.mem_iff.mp hv)
    obtain ⟨⟨k, y, _⟩, _⟩ := F.ok.el e he
    obtain ⟨tk, y⟩ := Value.isStrOf_shape (x := k) (v := e.2) y
    exact ⟨k, tk, y⟩
  have vl : vs.length = l.length := by rw [pm.length_eq, List.length_map, Array.length_toList]; exact sz
  refine wpAny_bind (wpAny_newList ?_ (by rw [vl, sizeLine_eq]; omega))
  have ho : (s1.heap.push (seqObj "list" vs.toArray 0)).get? s1.heap.objs.size = some (seqObj "list" vs.toArray 0) := Heap.get?_push_size _ rfl
  refine wpAny_bind (wpAny_holding (wpAny_call_entry slot_list_sort ⟨_, ho, rfl⟩ entry_list_sort (list_sort_treeK strKind_oneLt ho hx.keysOf (fun v₁ v₂ rest e => keyKind_strs (by rw [← e]; exact hx)) (by rw [vl]; exact few) fun st hp hs => ⟨_, rfl, ?_⟩) (args_list_sort _)))
  obtain ⟨ys, hy, py, up⟩ := sorted_out_str hx hp hs
  have pl : xs.Perm l := (nodup_perm F.one (fun x hm => by
    obtain ⟨e, he, ie⟩ := (F.ok.mem x).mp hm
    exact strs_mem hx (pm.mem_iff.mpr (List.mem_map.mpr ⟨e, he, rfl⟩)) ie) (by rw [← hx.len_eq, vl]; exact Nat.le_refl _)).symm
  have pyl := py.trans pl
  obtain ⟨c, hc⟩ := sortedHeap_at (vs := vs) (out := (arrOf st).map (·.2)) ho
  have new : H s1.heap.objs.size = none := I.hok.fresh hz
  have small : (ys.map V.str).length ≤ sizeLine := by rw [List.length_map, pyl.length_eq, sizeLine_eq]; omega
  have old : ∀ b o, s.heap.get? b = some o → (sortedHeap (s1.heap.push (seqObj "list" vs.toArray 0)) s1.heap.objs.size vs ((arrOf st).map (·.2))).get? b = some o := fun b o e => by
    have lt := Heap.lt_size (k1 b o e)
    rw [sortedHeap_old (Nat.ne_of_lt lt) (by rw [Heap.size_push]; exact Nat.lt_succ_of_lt lt)]
    exact Heap.get?_push_of_some _ (k1 b o e)
  have J : Inv X pins σ (upd H s1.heap.objs.size (.lst (ys.map V.str))) { s with heap := sortedHeap (s1.heap.push (seqObj "list" vs.toArray 0)) s1.heap.objs.size vs ((arrOf st).map (·.2)), gens := s1.gens, drawn := s1.drawn, toks := s1.toks } :=
    I.call (ch := []) (Un.laid old hz new) (I.hok.laid old hz ⟨small, _, c, vals_of_strs hy, hc⟩) (by rw [g1]; exact I.bare) (fun _ z => nomatch z)
  refine wpAny_pure ⟨_, rfl, .ref s1.heap.objs.size, _, ?_, rfl, q ys _ pyl up new⟩
  obtain ⟨hp1, gg, dd, tt, os⟩ := s1
  cases o1
  exact J
end
end U
end

section
set_option Elab.async false
set_option linter.all false
set_option maxRecDepth 100000
set_option maxHeartbeats 4000000
/-! # UTS3: the length of a set of tuples of ints -/
namespace U
open PySem L2 PySem.Spec PyProof.Rows PySem.Froz
section
variable {X : Cx}
def rLenTT (K : PySem.W.Frag) (P : Program) (w : World) : List V → Hp → VK → Prop := fun vs H Q => ∃ (a : Addr) (L : List (Addr × List Int)), vs = [V.ref a] ∧ H a = some (SetTO P w a L) ∧ (∀ q ∈ L, SqT K H q.1 (q.2.map V.int)) ∧ ((L.map (·.2)).Nodup → L.length < 64 → Q (.int (L.length : Nat)) H)
/-- the length of a set of tuples: by what TupSets tells of it -/
theorem cr_lenTT : CallR X (.builtin "len") (rLenTT X.K X.prog X.w) := by
  rintro pins s σ H _ _ Q I r ⟨a, L, rfl, ha, tups, q⟩
  rw [Vals.ref1 r]
  obtain ⟨es, ep, t, R⟩ := SetT0.full (I.hok a _ ha).1 fun c m => I.isT (tups c m)
  obtain ⟨ob, o, ex, da⟩ := R.ob
  have few := R.few
  have size := SetTR.size (s := s) R
  exact call_len_set o ex da (SetTR.fits (s := s) R) (by omega) ⟨.int (L.length : Nat), H, I.kept (t' := s.toks + 1 + 1) fun _ _ e => e, ⟨_, by rw [size]⟩, q R.nd few⟩
end
/-- lists without twins of the same things -/
theorem len_set {α : Type} [DecidableEq α] : ∀ {xs ys : List α}, ys.Nodup → (∀ x ∈ ys, x ∈ xs) → (∀ x ∈ xs, x ∈ ys) → (ys.length < xs.length ↔ ¬ xs.Nodup) := by
  intro xs ys d s1 s2
  have le : ∀ {l xs : List α}, l.Nodup → (∀ x, x ∈ l → x ∈ xs) → l.length ≤ xs.length := by
    intro l
    induction l with
    | nil => intro _ _ _; exact Nat.zero_le _
    | cons a l ih =>
      intro xs n m
      obtain ⟨n1, n2⟩ := List.nodup_cons.mp n
      have h := ih (xs := xs.erase a) n2 fun x hx => (List.mem_erase_of_ne fun e => n1 (by rw [← e]; exact hx)).mpr (m x (List.mem_cons_of_mem _ hx))
      have ma := m a List.mem_cons_self
      have e := List.length_erase_of_mem ma
      have := List.length_pos_of_mem ma
      rw [List.length_cons]
      omega
  constructor
  · intro lt nd
    have := le nd s2
    omega
  · intro nn
    apply Classical.byContradiction
    intro ge
    apply nn
    have l1 := le d s1
    have e : xs.length = ys.length := by omega
    clear ge l1 nn
    induction xs generalizing ys with
    | nil => exact .nil
    | cons x xs ih =>
      have mx := s2 x List.mem_cons_self
      have e2 := List.length_erase_of_mem mx
      rw [List.length_cons] at e
      have dn : x ∉ ys.erase x := fun m => by
        have := (List.Nodup.mem_erase_iff d).mp m
        exact this.1 rfl
      have hx : x ∉ xs := fun m => by
        have h3 := le (xs := xs) d fun y my => by
          rcases List.mem_cons.mp (s1 y my) with q | q
          · exact q ▸ m
          · exact q
        omega
      refine List.nodup_cons.mpr ⟨hx, ih (ys := ys.erase x) (d.erase x) (fun y my => ?_) (fun y my => ?_) (by omega)⟩
      · have h4 := (List.Nodup.mem_erase_iff d).mp my
        rcases List.mem_cons.mp (s1 y h4.2) with q | q
        · exact absurd q h4.1
        · exact q
      · exact (List.Nodup.mem_erase_iff d).mpr ⟨fun q => hx (q ▸ my), s2 y (List.mem_cons_of_mem _ my)⟩
/-- texts can be put in order -/
theorem sorted_ex (ns : List Str) : ∃ hs : List Str, hs.Perm ns ∧ sortedS hs = true := by
  refine ⟨ns.mergeSort fun a b : Str => !Spec.ltCps b.cps.toList a.cps.toList, List.mergeSort_perm _ _, sortedS_of_pairwise _ ?_⟩
  refine (List.pairwise_mergeSort (le := fun a b : Str => !Spec.ltCps b.cps.toList a.cps.toList) ?_ ?_ ns).imp fun {a b} h => ?_
  · intro a b c h1 h2
    rw [ltCps_eq, Bool.not_eq_true', decide_eq_false_iff_not] at h1 h2 ⊢
    exact List.not_lt.mpr (List.le_trans (List.not_lt.mp h1) (List.not_lt.mp h2))
  · intro a b
    rw [ltCps_eq, ltCps_eq, Bool.or_eq_true, Bool.not_eq_true', Bool.not_eq_true', decide_eq_false_iff_not, decide_eq_false_iff_not]
    rcases List.le_total a.cps.toList b.cps.toList with h | h
    · exact .inl (List.not_lt.mpr h)
    · exact .inr (List.not_lt.mpr h)
  · simpa using h
end U
end

section
set_option Elab.async false
set_option linter.all false
set_option maxRecDepth 100000
set_option maxHeartbeats 4000000
/-! # UTM: a method called in the body of a try: what it lets out may be told by the names' values there -/
namespace U
open PySem L2
def tMethW (C : Addr) (nm : Str) (sp : Sp) (E : L2.St → XK) (ta : TE) (t : TA) : TE := fun σ H Q => ta σ H fun x H1 => ∃ a dx fs, x = .ref a ∧ H1 a = some (.ins C dx fs) ∧ fs.lookup nm = none ∧ t σ H1 fun vs H2 => sp (x :: vs) H2 Q (E σ)
section
variable {X : Cx} {CX : CXT} {k : Nat} {C f : Addr} {fd : FuncData} {ps : List Str} {sp : Sp} {E : L2.St → XK} {m : Str} {apos pos : Pos} {o e : Expr} {es : List Expr} {ta : TE} {t : TA} {pl : Sem Bool}
theorem pe_methW0 (ho : PE X o ta) (cl : Cls X.K C) (hm : Meth X.K C m f) (F : FnOk X.prog X.w X.K X.mg X.base CX k f fd ps sp) (room : Room k X.A) (b : Binds X.K fd ps []) (hx : ∀ σ, PassesAt CX X σ (E σ))
    (h5 : eval (.Call (.Attribute o m apos) [] [] pos) X.env = (do
      let ov ← eval o X.env
      standAt apos.atName
      let r ← holding [ov] (getMethod ov m pl)
      callWith pos r.1 r.2 (backTo pos (starEach [] X.env)) (backToKw pos (keywordEach [] X.env))) := by rfl) :
    PE X (.Call (.Attribute o m apos) [] [] pos) (tMethW C m sp E ta tNil) := by
  constructor
  intro pins s σ H Q I h
  refine PySem.W.methodCall_KW (pl := pl) (thn (ho.run pins s σ H _ I h) ?_) h5
  rintro u s1 ⟨x, H1, I1, rx, a, dx, fs, rfl, ea, l, q⟩
  cases rx
  exact getmeth_ok I1 ea cl hm l (PySem.W.callWith_K0 (first := [.ref a]) I1.kIn hm.kp (run_fnS (us := [.ref a]) (vs := [.ref a]) F room b (hx σ) I1 (.cons rfl .nil) q))
end
section
variable {σ : L2.St} {H : Hp} {Q : VK}
theorem i_methW {C : Addr} {nm : Str} {sp : Sp} {E : L2.St → XK} {ta : TE} {t : TA} (q : ta σ H fun x H1 => ∃ a dx fs, x = .ref a ∧ H1 a = some (.ins C dx fs) ∧ fs.lookup nm = none ∧ t σ H1 fun vs H2 => sp (x :: vs) H2 Q (E σ)) : tMethW C nm sp E ta t σ H Q := q
end
end U
end

section
set_option Elab.async false
set_option linter.all false
set_option maxRecDepth 100000
set_option maxHeartbeats 4000000
/-! # U: small things: a test by a bool, any() inside a comprehension, a field counted up -/
namespace U
open PySem L2 LamX
theorem anyTK {X : Cx} (K : PySem.W.Frag) (h : X.K = K) (calm : X.calm = true) : CallR X (.builtin "any") (rAnyT K) := h ▸ cr_anyT calm
theorem pi_listK {X : Cx} {tg l : Expr} {tl : TE} (K : PySem.W.Frag) (h : X.K = K) (hl : PE X l tl) : PI X tg l (iList K tl) := h ▸ pi_list hl
theorem pi_tupK {X : Cx} {tg l : Expr} {tl : TE} (K : PySem.W.Frag) (h : X.K = K) (hl : PE X l tl) : PI X tg l (iTup K tl) := h ▸ pi_tup hl
theorem iteB {b : Bool} {A B : Prop} (h1 : b = true → A) (h2 : b = false → B) : if b = true then A else B := by
  cases b with
  | true => rw [if_pos rfl]; exact h1 rfl
  | false => rw [if_neg Bool.false_ne_true]; exact h2 rfl
theorem iteBn {b : Bool} {A B : Prop} (h1 : b = false → A) (h2 : b = true → B) : if (!b) = true then A else B := by
  cases b with
  | true => rw [if_neg (by decide)]; exact h2 rfl
  | false => rw [if_pos (by decide)]; exact h1 rfl
theorem cut_drop {xs : List V} {k : Nat} : cutV xs (some (k : Int)) none = xs.drop k := by
  unfold cutV
  rw [HT.sIx_none, HT.sIx_nat]
  by_cases h : k ≤ xs.length
  · rw [Nat.min_eq_left h, List.take_of_length_le (by rw [List.length_drop]; exact Nat.le_refl _)]
  · rw [Nat.min_eq_right (by omega), List.drop_of_length_le (by omega), List.drop_of_length_le (by omega)]
    simp
section
variable {σ : L2.St} {H : Hp} {Q : VK} {K : PySem.W.Frag} {D : Ends} {ta tv : TE}
theorem i_fldaug {f : Str} {rd : V → V → Hp → VK → Prop} (q : ta σ H fun x H1 => ∃ a C dx fs v, x = .ref a ∧ H1 a = some (.ins C dx fs) ∧ Cls K C ∧ NoAttr K C f ∧ fs.lookup f = some v ∧
    tv σ H1 fun y H2 => rd v y H2 fun z H3 => ∃ dx' fs', H3 a = some (.ins C dx' fs') ∧ fs'.length < 1000 ∧ D.nx σ (upd H3 a (.ins C dx' (putF f z fs')))) : sFldAug K ta tv rd f D σ H := q
theorem i_tupT {a : Addr} {ys : List V} (h : SqT K H a ys) (q : Q (.ref a) H) : ∃ a' ys', [V.ref a] = [.ref a'] ∧ SqT K H a' ys' ∧ Q (.ref a') H := ⟨a, ys, rfl, h, q⟩
end
end U
end

section
set_option Elab.async false
set_option linter.all false
set_option maxRecDepth 100000
set_option maxHeartbeats 400000
/-! # UM2: sum(l, start=0) -/
namespace U
open PySem L2
theorem sum_start {prog : Program} {w : World} {A : Around} {E : Value → Shared → Prop} {s : Shared} {x : Value} {tk : Tok} {Q : Value → Shared → Prop}
    (h : wpAny (model prog w) A.in1 (pyIter x) (fun it s2 => ∃ I fp wr n P St val, it = .ref I ∧ Walks prog w A.in1 I fp wr n P St ∧ St 0 s2.heap ∧ (∀ b ∈ fp, b < s2.heap.objs.size) ∧
      (∀ i v, P i v → ∃ t, v = .int (val i) t) ∧ ∀ h' tk t', (∀ b o, b ∉ wr → s2.heap.get? b = some o → h'.get? b = some o) → Q (.int (preSum val n) t') { s2 with heap := h', toks := tk }) E s) :
    wpAny (model prog w) A (call (.builtin "sum") [x] [(Str.ofString "start", .int 0 tk)]) Q E s := by
  refine PyProof.Rows.kmk_tree F.kind_sum F.plain_sum F.entry_sum (by rfl) ?_
  have bound : Builtin.Builtins.bindParams "sum" ["start"] 0 ⟨[], [(Str.ofString "start", Value.int 0 tk)]⟩ = pure [some (.int 0 tk)] := rfl
  unfold Builtin.«sum»
  dsimp only [List.length_cons, List.length_nil]
  rw [if_neg (by decide), bound]
  refine wpAny_bind (wpAny_pure (wpAny_bind ?_))
  refine wpAny_mono h ?_ fun _ _ z => z
  rintro it s2 ⟨I, fp, wr, n, Pv, St, val, rfl, W, st0, far, num, fin⟩
  wp_walk
  refine wpAny_of_eq (a := false) (by rfl) ?_
  wp_walk
  refine wpAny_of_eq (a := false) (by rfl) ?_
  wp_walk
  refine wpAny_of_eq (a := false) (by rfl) ?_
  wp_walk
  have new : s2.heap.objs.size ∉ fp := fun m => absurd (far _ m) (Nat.lt_irrefl _)
  constructor
  · exact plainId_quiet F.plain_sum_loop _
  · refine codeAny_sum_loopG W val num s2.heap.objs.size new n 0 _ s2.toks 0 0 (.inl rfl) rfl (Nat.zero_le _) ?_ (Heap.get?_push_size _ rfl) ?_
    · exact W.frame _ _ _ st0 fun _ _ _ e => Heap.get?_push_of_some _ e
    · intro h' t1 t2 keep
      exact fin h' t1 t2 fun b o nb e => keep b o nb (Nat.ne_of_lt (Heap.lt_size e)) (Heap.get?_push_of_some _ e)
/-- sum(l, start=0), l a list of numbers -/
def rSum0 (K : PySem.W.Frag) : List V → List V → Hp → VK → Prop := fun xs zs H Q => ∃ (a : Addr) (ns : List Int), xs = [.ref a] ∧ zs = [.int 0] ∧ SqL K H a (ns.map V.int) ∧ Q (.int ns.sum) H
theorem cr_sum0 {X : Cx} (calm : X.calm = true) : CallRK X (.builtin "sum") [Str.ofString "start"] (rSum0 X.K) := by
  rintro pins s σ H _ _ us ws Q I rx rz ⟨a, ns, rfl, rfl, ha, q⟩
  obtain ⟨u, rfl, ru⟩ := vals1 rx
  obtain ⟨d, rfl, td, rfl⟩ := vals1 rz
  cases ru
  obtain ⟨its, rv, isl, _⟩ := I.list ha
  obtain ⟨xs, e⟩ := rv.ints.allInts.items
  have en : numsOf (intItems xs).toList = ns := e ▸ rv.ints.numsOf
  rw [nums_intItems] at en
  rw [e] at isl
  refine sum_start (iter_intList isl.isList fun s2 e2 st far here => ?_)
  subst e2
  refine ⟨_, _, _, _, _, _, numAt xs, rfl, Walks.list (A := X.A.in1) (I.ok.hd calm) _ a here (intItems xs), st, far, fun _ _ => intItems_at, fun h' tk t' keep => ?_⟩
  have len : (intItems xs).size = xs.size := by simp [intItems]
  rw [len, preSum_eq, List.take_of_length_le (by simp), en]
  exact ⟨.int ns.sum, H, I.kept (t' := tk) (old_kept keep), ⟨t', rfl⟩, q⟩
end U
end

section
set_option Elab.async false
set_option linter.all false
set_option maxRecDepth 100000
set_option maxHeartbeats 4000000
/-! # UC: a loop over what is a list or a tuple; small readings -/
namespace U
open PySem L2 LamX PySem.Spec PyProof.Rows
theorem All2.flip {α β : Type} {R : α → β → Prop} {as : List α} {bs : List β} (h : All2 R as bs) : All2 (fun b a => R a b) bs as := by
  induction h with
  | nil => exact .nil
  | cons r _ ih => exact .cons r ih
section
variable {X : Cx} {tg : Expr}
def iSeq (K : PySem.W.Frag) (tl : TE) : TI := fun σ H R => tl σ H fun x H1 => ∃ a, x = .ref a ∧ (((∃ ys, SqL K H1 a ys) ∧ R (Itl K a) H1) ∨ ((∃ ys, SqT K H1 a ys) ∧ R (Itt K a) H1))
theorem pi_seq {l : Expr} {tl : TE} (hl : PE X l tl) : PI X tg l (iSeq X.K tl) := by
  constructor
  intro pins s σ H R I h
  refine thn (hl.run pins s σ H _ I h) ?_
  rintro v s1 ⟨x, H1, J, r1, a, rfl, q⟩
  cases r1
  rcases q with ⟨⟨ys, hq⟩, q⟩ | ⟨⟨ys, hq⟩, q⟩
  · obtain ⟨its, rv, il, hz⟩ := J.list hq
    exact wpAny_pyIter_list il.isList (pi_one (tk := s1.toks) J _ (turn_list a _) ⟨_, Heap.get?_push_size _ rfl, rfl, rfl⟩ q)
  · obtain ⟨its, rv, it, hz⟩ := J.tuple hq
    exact wpAny_pyIter_tuple (show s1.heap.IsTuple a its.toArray from it) (pi_one (tk := s1.toks) J _ (turn_tuple a _) ⟨_, Heap.get?_push_size _ rfl, rfl, rfl⟩ q)
end
section
variable {σ : L2.St} {H : Hp} {Q : VK} {K : PySem.W.Frag} {te : TE} {R : It → Hp → Prop}
theorem i_pseq (q : te σ H fun x H1 => ∃ a, x = .ref a ∧ (((∃ ys, SqL K H1 a ys) ∧ R (Itl K a) H1) ∨ ((∃ ys, SqT K H1 a ys) ∧ R (Itt K a) H1))) : iSeq K te σ H R := q
theorem i_pseqL {a : Addr} {ys : List V} (h : SqL K H a ys) (q : R (Itl K a) H) : ∃ b, V.ref a = .ref b ∧ (((∃ ys, SqL K H b ys) ∧ R (Itl K b) H) ∨ ((∃ ys, SqT K H b ys) ∧ R (Itt K b) H)) := ⟨a, rfl, .inl ⟨⟨ys, h⟩, q⟩⟩
theorem i_pseqT {a : Addr} {ys : List V} (h : SqT K H a ys) (q : R (Itt K a) H) : ∃ b, V.ref a = .ref b ∧ (((∃ ys, SqL K H b ys) ∧ R (Itl K b) H) ∨ ((∃ ys, SqT K H b ys) ∧ R (Itt K b) H)) := ⟨a, rfl, .inr ⟨⟨ys, h⟩, q⟩⟩
theorem i_notNT {x : V} (e : x ≠ V.non) (q : Q (.bl true) H) : rNotN x .non H Q := ⟨rfl, by rw [decide_eq_false e]; exact q⟩
theorem i_notNF {x : V} (e : x = V.non) (q : Q (.bl false) H) : rNotN x .non H Q := ⟨rfl, by rw [decide_eq_true e]; exact q⟩
theorem i_bm0 {T : String} {r : V → List V → Hp → VK → Prop} {ta : TE} (q : ta σ H fun x H1 => tyV K T x H1 ∧ r x [] H1 Q) : tBM0 K T r ta σ H Q := q
theorem all_rep {k : Nat} : (List.replicate k true).all id = true := by
  rw [List.all_eq_true]
  intro x m
  rw [List.eq_of_mem_replicate m]
  rfl
end
end U
end

section
set_option Elab.async false
set_option linter.all false
set_option maxRecDepth 100000
set_option maxHeartbeats 4000000
/-! # UG: what the top leaves, read by one run over a written list of places -/
namespace Hk
open PySem L2
theorem fdAt_some {K : Fg} {a : Addr} {fd : FuncData} (h : fdAt K a = some fd) : ∃ oc od sl, K.lookup a = some ⟨oc, od, .func fd, sl⟩ := by
  unfold fdAt at h
  cases e : K.lookup a with
  | none => rw [e] at h; cases h
  | some o =>
    obtain ⟨oc, od, dt, sl⟩ := o
    rw [e] at h
    cases dt with
    | func fd' => cases h; exact ⟨oc, od, sl, rfl⟩
    | _ => cases h
theorem Df.fun_ {K : Fg} {d : Df} (s : d.seen K = d.due) (c : d.fit K = true) : ∃ fd, U.FunA K d.x d.q d.st d.dv d.kw d.f fd ∧ fdAt K d.f = some fd := by
  unfold Df.seen at s
  unfold Df.fit at c
  cases e : fdAt K d.f with
  | none => rw [e] at c; cases c
  | some fd =>
    rw [e] at s c
    obtain ⟨oc, od, sl, lk⟩ := fdAt_some e
    obtain ⟨c1, c2⟩ := He.ba c
    obtain ⟨k, cd⟩ := He.ba c1
    obtain ⟨df, kw⟩ := He.ba c2
    obtain ⟨x1, x2, x3, x4, x5, x6, x7, x8, x9, x10, x11, x12, x13, x14, x15⟩ := fd
    have s' : (some (x1, x2, x3, x4, x5, x6, x7, x15) : He.FnW) = some (d.x, d.q, defArgs d.st, .stmts (defBody d.st), defScope d.st, mainGlobals, [], builtinsNs) := s
    injection s' with p
    injection p with p1 p
    injection p with p2 p
    injection p with p3 p
    injection p with p4 p
    injection p with p5 p
    injection p with p6 p
    injection p with p7 p8
    subst p1 p2 p3 p4 p5 p6 p7 p8
    exact ⟨_, ⟨⟨oc, od, x8, x9, x10, x11, x12, x13, x14, sl, rfl, lk, cd, He.dflB_ok df, He.kwdB_ok kw⟩, k⟩, rfl⟩
theorem at2 {l : List (List Bool)} (h : allB l = true) (i j : Nat) {r : List Bool} {b : Bool} (e1 : l[i]? = some r) (e2 : r[j]? = some b) : b = true := by
  have h1 := List.all_eq_true.mp h r (List.mem_of_getElem? e1)
  exact List.all_eq_true.mp h1 b (List.mem_of_getElem? e2)
structure Says (fn : List Df) (ex : Bits) (ts : List Addr) (h : Heap) (K : Fg) : Prop where
  ins : K.In h
  ex : allB (ex K) = true
  fn : ∀ d ∈ fn, ∃ fd, U.FunA K d.x d.q d.st d.dv d.kw d.f fd ∧ fdAt K d.f = some fd
  ts : ∀ p ∈ ts, h.get? p = some { cls := .none, data := .fields #[] }
theorem says_of {L : List Addr} {fn : List Df} {ex : Bits} {ts : List Addr} {h : Heap} (e : look L fn ex ts h.get? = (true, fn.map Df.due)) : Says fn ex ts h (He.frG h.get? L) := by
  obtain ⟨e1, e2⟩ := Prod.mk.inj e
  obtain ⟨c1, c2⟩ := He.ba e1
  obtain ⟨c3, c4⟩ := He.ba c2
  refine ⟨He.frG_in, c1, fun d m => Df.fun_ (List.map_inj_left.mp e2 d m) (List.all_eq_true.mp c3 d m), fun p m => ?_⟩
  have c := List.all_eq_true.mp c4 p m
  unfold isTab at c
  cases q : h.get? p with
  | none => rw [q] at c; cases c
  | some o =>
    rw [q] at c
    rw [He.emptyTab_eq c]
def hook (L : List Addr) (fn : List Df) (ex : Bits) (ts : List Addr) : PySem.W.Hook where
  α := Bool × List He.FnW
  obs := fun s => look L fn ex ts s.heap.get?
  val := fun _ => (true, fn.map Df.due)
  says := fun _ h => ∃ K : Fg, Says fn ex ts h K
  of := fun _ _ e => ⟨_, says_of e⟩
  keeps := fun _ _ _ ⟨K, c⟩ k => ⟨K, PySem.W.Frag.In.keeps c.ins k, c.ex, c.fn, fun p m => k _ _ (c.ts p m)⟩
theorem ob_eq {L : List Addr} {fn : List Df} {ex : Bits} {ts : List Addr} (s : PySem.W.SharedT) : look L fn ex ts (HandSHeadRun.getT s) = (hook L fn ex ts).obs s.abs := by
  have e : HandSHeadRun.getT s = s.abs.heap.get? := funext (HandSHeadRun.getT_eq s)
  rw [e]
  rfl
theorem allB_app (a b : List (List Bool)) : allB (a ++ b) = (allB a && allB b) := List.all_append
theorem look_app {L : List Addr} {f1 f2 : List Df} {e1 e2 : Bits} {ts : List Addr} {g : Addr → Option Obj} (a : look L f1 e1 ts g = (true, f1.map Df.due)) (b : look L f2 e2 ts g = (true, f2.map Df.due)) : look L (f1 ++ f2) (fun K => e1 K ++ e2 K) ts g = (true, (f1 ++ f2).map Df.due) := by
  obtain ⟨a1, a2⟩ := Prod.mk.inj a
  obtain ⟨b1, b2⟩ := Prod.mk.inj b
  obtain ⟨a3, a4⟩ := He.ba a1
  obtain ⟨a5, a6⟩ := He.ba a4
  obtain ⟨b3, b4⟩ := He.ba b1
  obtain ⟨b5, b6⟩ := He.ba b4
  unfold look
  rw [allB_app, List.all_append, List.map_append, List.map_append, a2, b2, a3, a5, a6, b3, b5]
  rfl
/-- a state's look, piece by piece -/
theorem join {α β γ : Type} {o : Option α} {f : α → β} {g : α → γ} {b : β} {c : γ} (h1 : o.map f = some b) (h2 : o.map g = some c) : ∃ s, o = some s ∧ f s = b ∧ g s = c := by
  cases o with
  | none => cases h1
  | some s => exact ⟨s, rfl, Option.some.inj h1, Option.some.inj h2⟩
section
variable {fn : List Df} {ex : Bits} {ts : List Addr} {h : Heap} {K : Fg}
theorem Says.bit (c : Says fn ex ts h K) (i j : Nat) {r : List Bool} {b : Bool} (e1 : (ex K)[i]? = some r) (e2 : r[j]? = some b) : b = true := at2 c.ex i j e1 e2
theorem Says.at_ (c : Says fn ex ts h K) (i : Nat) {d : Df} (e : fn[i]? = some d) : ∃ fd, U.FunA K d.x d.q d.st d.dv d.kw d.f fd ∧ fdAt K d.f = some fd := c.fn d (List.mem_of_getElem? e)
end
/-- a def without defaults whose code object is known -/
theorem code_of {K : Fg} {x q : Str} {st : Stmt} {f c : Addr} {fd : FuncData} (F : U.FunA K x q st [] [] f fd) (e : fdAt K f = some fd) (hc : codeAt K f c = true) :
    ∃ (oc : Value) (kV dc pm ct : Value) (od an : Option Addr) (sl : Array (Option Value)), K.lookup f = some ⟨oc, od, .func (PySem.W.fnOf x q (defArgs st) (defBody st) (defScope st) .none kV dc pm an (.ref c) ct), sl⟩ ∧ PySem.W.codeIn K (.ref c) q = true := by
  obtain ⟨oc, od, dV, kV, dc, pm, an, cdv, ct, sl, rfl, lk, cd, df, kw⟩ := F.ex
  unfold codeAt at hc
  rw [e] at hc
  rcases df with ⟨_, rfl⟩ | ⟨no, _⟩
  · cases cdv with
    | ref a =>
      have ea : a = c := beq_iff_eq.mp hc
      subst ea
      exact ⟨oc, kV, dc, pm, ct, od, an, sl, lk, cd⟩
    | _ => cases hc
  · exact absurd rfl no
/-! ### tuples and tables of the module -/
theorem tupB_ok {K : Fg} {a : Addr} {xs : List V} (h : tupB K a xs = true) (H : Hp) : SqT K H a xs := by
  unfold tupB at h
  cases e : K.lookup a with
  | none => rw [e] at h; cases h
  | some o =>
    obtain ⟨oc, od, dt, sl⟩ := o
    rw [e] at h
    cases dt with
    | seq its n =>
      obtain ⟨h1, h2⟩ := He.ba h
      obtain ⟨h3, h4⟩ := He.ba h2
      have e1 : oc = .type "tuple" := of_decide_eq_true h1
      exact U.sqT_of e ⟨its.toList, n, e1, by rw [Array.toArray_toList], Nat.le_of_lt (small1000 (of_decide_eq_true h3)), He.relAll_ok h4⟩
    | _ => cases h
theorem entsB_ok : ∀ {es : List DictEntry} {ps : List (Int × V)}, entsB es ps = true → ∃ l : List (Int × Tok × Value), es = l.map U.entI ∧ l.map (·.1) = ps.map (·.1) ∧ KV (ps.map fun p => ((Sum.inl p.1 : Key), p.2)) (l.map fun x => ((Sum.inl x.1 : Key), x.2.2))
  | [], [], _ => ⟨[], rfl, rfl, .nil⟩
  | [], _ :: _, h => by cases h
  | _ :: _, [], h => by cases h
  | e :: es, p :: ps, h => by
    obtain ⟨h1, h2⟩ := He.ba h
    obtain ⟨l, e1, e2, e3⟩ := entsB_ok h2
    obtain ⟨eh, ek, ev⟩ := e
    cases ek with
    | int k t =>
      obtain ⟨h3, h4⟩ := He.ba h1
      obtain ⟨h5, h6⟩ := He.ba h4
      have a1 : k = p.1 := of_decide_eq_true h3
      have a2 : eh = hashInt k := of_decide_eq_true h5
      subst a1 a2
      refine ⟨(p.1, t, ev) :: l, by rw [e1]; rfl, by rw [List.map_cons, List.map_cons, e2], .cons ⟨rfl, He.relB_ok h6⟩ e3⟩
    | _ => cases h1
theorem dicB_ok {P : Program} {w : World} {K : Fg} {a : Addr} {ps : List (Int × V)} (h : dicB K a ps = true) : U.WD P w K a (ps.map fun p => ((Sum.inl p.1 : Key), p.2)) := by
  unfold dicB at h
  cases e : K.lookup a with
  | none => rw [e] at h; cases h
  | some o =>
    obtain ⟨oc, od, dt, sl⟩ := o
    rw [e] at h
    cases dt with
    | dict es n =>
      obtain ⟨h1, h2⟩ := He.ba h
      obtain ⟨h3, h4⟩ := He.ba h1
      obtain ⟨h5, h6⟩ := He.ba h4
      obtain ⟨h7, h8⟩ := He.ba h2
      obtain ⟨l, e1, e2, e3⟩ := entsB_ok h7
      have a1 : oc = .type "dict" := of_decide_eq_true h3
      have a2 : od = none := by
        cases od with
        | none => rfl
        | some _ => cases h5
      have a3 : sl = #[] := Array.isEmpty_iff.mp h6
      subst a1 a2 a3
      refine U.wd_of e ⟨l, n, ⟨rfl, rfl, rfl⟩, ?_, by rw [e2]; exact of_decide_eq_true h8, e3⟩
      show Data.dict es n = _
      rw [← e1, Array.toArray_toList]
    | _ => cases h
end Hk
namespace Hk
open PySem L2
section
variable {K : Fg} {h : Heap} {mg : Str → Option Value}
theorem valB_ok (X : K.In h) (G : h.Ns mainGlobals mg) {x : Str} {v : V} (c : valB K x v = true) : ∃ u, mg x = some u ∧ RelV v u := by
  unfold valB at c
  cases e : PySem.W.nsIn K mainGlobals x with
  | none => rw [e] at c; cases c
  | some o =>
    rw [e] at c
    cases o with
    | none => cases c
    | some u => exact ⟨u, PySem.W.mg_of X G e, He.relB_ok c⟩
theorem none_of {K : Fg} {a : Addr} (c : (K.lookup a).isNone = true) : K.lookup a = none := Option.isNone_iff_eq_none.mp c
end
end Hk
namespace Hk
open PySem L2
theorem mc_of {K : Fg} {C c f : Addr} {m q : Str} {st : Stmt} {ps : List Str} {oc kV dc pm ct : Value} {od an : Option Addr} {sl : Array (Option Value)} {fd : FuncData} (F : U.FunA K m q st [] [] f fd)
    (lk : K.lookup f = some ⟨oc, od, .func (PySem.W.fnOf m q (defArgs st) (defBody st) (defScope st) .none kV dc pm an (.ref c) ct), sl⟩) (cd : PySem.W.codeIn K (.ref c) q = true) (cl : Cls K C) (mt : Meth K C m f) (b : U.BD K fd ps []) : U.MC K C m q st ps c := by
  obtain ⟨oc', od', dV, kV', dc', pm', an', cdv, ct', sl', rfl, lk', _, _, _⟩ := F.ex
  rw [lk] at lk'
  have e := congrArg Obj.data (Option.some.inj lk')
  injection e with e
  rw [← e] at b
  exact ⟨f, _, _, _, _, _, _, _, _, _, _, rfl, lk, cd, cl, mt, b⟩
end Hk
end

section
set_option Elab.async false
set_option linter.all false
set_option maxRecDepth 100000
set_option maxHeartbeats 4000000
/-! ### own steps (local) -/
local macro_rules | `(tactic| walk_at "hp") => `(tactic| first
  | assumption
  | exact L2.upd_same
  | ((with_reducible refine U.upd_new ?_ ?_); (focus (first | assumption | done)); walk_at "hp")
  | ((with_reducible refine U.upd_ne'' ?_ ?_); (focus (first | assumption | (apply Ne.symm; assumption))); walk_at "hp")
  | ((with_reducible refine' U.Same.get ?hx ?hy); (case hx => assumption); (case hy => walk_at "hp"))
  | ((with_reducible refine' U.ExtN.lst ?hx ?hy); (case hx => assumption); (case hy => walk_at "hp"))
  | ((with_reducible refine' U.ExtN.tup ?hx ?hy); (case hx => assumption); (case hy => walk_at "hp"))
  | ((with_reducible refine' U.ExtN.ins ?hx ?hy); (case hx => assumption); (case hy => walk_at "hp"))
  | fail "hp")
local macro_rules | `(tactic| walk_at "lay") => `(tactic| (intro p hn; generalize hg : L2.upd _ p _ = H'; have hs := U.same_of hg hn; have ho := U.at_of hg; clear hg))
local macro_rules | `(tactic| walk_at "sz") => `(tactic| first | decide | (show _ ≤ PySem.sizeLine; rw [PySem.sizeLine_eq]; (try simp only [List.length_cons, List.length_nil, List.length_map]); omega))
local macro_rules | `(tactic| walk_at "ref'") => `(tactic| skip)
local macro_rules | `(tactic| walk_at "rd1") => `(tactic| first
  | (with_reducible refine' U.i_seq ?_)
  | (with_reducible refine' U.i_asg ?_)
  | (with_reducible refine' U.i_ret ?_)
  | (with_reducible refine' U.i_ifS ?_)
  | (with_reducible refine' U.i_drop ?_)
  | ((with_reducible refine' U.i_var ?hx ?_); (case hx => rfl))
  | (with_reducible refine' U.i_c ?_)
  | (with_reducible refine' U.i_op ?_)
  | (with_reducible refine' U.i_un ?_)
  | (with_reducible refine' U.i_name ?_)
  | (with_reducible refine' U.i_gsub ?_)
  | (with_reducible refine' U.i_test ?_)
  | (with_reducible refine' U.i_tB ?_)
  | (with_reducible refine' U.i_bl ?_)
  | (with_reducible refine' U.i_not ?_)
  | (with_reducible refine' U.i_nil ?_)
  | (with_reducible refine' U.i_cons ?_)
  | (with_reducible refine' U.i_cb ?_)
  | (with_reducible refine' U.i_call ?_)
  | (with_reducible refine' U.i_fld ?_)
  | ((with_reducible refine' U.i_fld' ?hx ?hy ?hz ?hw ?_); (case hx => walk_at "hp"); (case hy => assumption); (case hz => assumption); (case hw => rfl))
  | (with_reducible refine' U.i_meth ?_)
  | ((with_reducible refine' U.i_meth' ?hx ?hy ?_); (case hx => walk_at "hp"); (case hy => rfl))
  | (with_reducible refine' U.i_add ?_)
  | (with_reducible refine' U.i_sub ?_)
  | ((with_reducible refine' U.i_mul ?hx ?_); (case hx => (first | (left; constructor <;> omega) | (right; constructor <;> omega))))
  | ((with_reducible refine' U.i_mod ?hx ?_); (case hx => omega))
  | ((with_reducible refine' U.i_fdiv ?hx ?_); (case hx => (constructor <;> omega)))
  | ((with_reducible refine' U.i_pow ?hx ?_); (case hx => (refine ⟨?_, ?_, ?_⟩ <;> decide)))
  | (with_reducible refine' U.i_lt ?_)
  | (with_reducible refine' U.i_le ?_)
  | (with_reducible refine' U.i_gt ?_)
  | (with_reducible refine' U.i_ge ?_)
  | (with_reducible refine' U.i_eqI ?_)
  | (with_reducible refine' U.i_neI ?_)
  | (with_reducible refine' U.i_rU ?_)
  | (with_reducible refine' U.i_abs ?_)
  | (with_reducible refine' U.i_callN ?_)
  | ((with_reducible refine' U.i_lens ?hx ?hy ?_); (case hx => rfl); (case hy => rfl))
  | ((with_reducible refine' U.i_ixL ?hx ?hy ?_); (case hx => exact L2.SqL.of (by walk_at "hp")); (case hy => rfl))
  | ((with_reducible refine' U.i_lenL ?hx ?_); (case hx => exact L2.SqL.of (by walk_at "hp")))
  | ((with_reducible refine' U.i_setL ?hx ?hy ?_); (case hx => walk_at "hp"); (case hy => rfl))
  | (with_reducible refine' U.i_augS ?_)
  | ((with_reducible refine' U.i_aug ?hx ?_); (case hx => rfl))
  | (with_reducible refine' U.i_ipI ?_)
  | ((with_reducible refine' U.i_ipMul ?hx ?_); (case hx => (first | (left; constructor <;> omega) | (right; constructor <;> omega))))
  | ((with_reducible refine' U.i_gtup ?hx ?hy ?_); (case hx => exact L2.SqT.of (by walk_at "hp")); (case hy => rfl))
  | (with_reducible refine' U.i_gcons ?_)
  | (with_reducible refine' U.i_gnil ?_)
  | ((with_reducible refine' U.i_divmod ?hx ?_); (case hx => (constructor <;> omega)); walk_at "lay")
  | (with_reducible refine' U.i_tup ?_)
  | (with_reducible refine' U.i_lst ?_)
  | ((with_reducible refine' U.lay_and ?hx ?_); (case hx => walk_at "sz"); walk_at "lay")
  | (with_reducible refine' U.i_sl ?_)
  | (with_reducible refine' U.i_part ?_)
  | (with_reducible refine' U.i_part' ?_)
  | (with_reducible refine' U.i_nopart ?_)
  | ((with_reducible refine' U.i_slL ?hx ?_); (case hx => exact L2.SqL.of (by walk_at "hp")); walk_at "lay")
  | (with_reducible refine' U.i_bm ?_)
  | ((with_reducible refine' U.i_bm' ?hx ?_); (case hx => walk_at "hp"))
  | ((with_reducible refine' U.i_append ?hx ?hy ?_); (case hx => walk_at "hp"); (case hy => walk_at "szl"))
  | ((with_reducible refine' U.i_chLL ?hx ?hy ?_); (case hx => rfl); (case hy => rfl))
  | (with_reducible refine' U.i_chain ?_)
  | (with_reducible refine' U.i_rng1 ?_)
  | ((with_reducible refine' U.i_rng1' ?hx ?hy ?_); (case hx => omega); (case hy => omega))
  | (with_reducible refine' U.i_rng2 ?_)
  | ((with_reducible refine' U.i_rng2' ?hx ?_); (case hx => (refine ⟨?_, ?_, ?_, ?_⟩ <;> omega)))
  | (with_reducible refine' U.i_rng3 ?_)
  | (with_reducible refine' U.i_enum ?_)
  | ((with_reducible refine' U.i_enum' ?hx ?_); (case hx => exact L2.SqL.of (by walk_at "hp")))
  | (with_reducible refine' U.i_enumT ?_)
  | ((with_reducible refine' U.i_enumT' ?hx ?_); (case hx => exact L2.SqT.of (by walk_at "hp")))
  | (with_reducible refine' U.i_rev ?_)
  | ((with_reducible refine' U.i_rev' ?hx ?_); (case hx => exact L2.SqL.of (by walk_at "hp")))
  | (with_reducible refine' U.i_plist ?_)
  | ((with_reducible refine' U.i_plist' ?hx ?_); (case hx => exact L2.SqL.of (by walk_at "hp")))
  | (with_reducible refine' U.i_for ?_)
  | (with_reducible refine' U.i_sfld ?_)
  | ((with_reducible refine' U.i_sfld' ?hx ?hy ?hz ?hw ?_); (case hx => walk_at "hp"); (case hy => assumption); (case hz => assumption); (case hw => exact Nat.le_of_ble_eq_true rfl))
  | (with_reducible refine' U.i_lc ?_)
  | (with_reducible refine' U.i_par3 ?_)
  | (with_reducible refine' U.i_par3' ?_)
  | (with_reducible refine' U.i_par ?_)
  | (with_reducible refine' U.i_par' ?_)
  | (with_reducible refine' U.i_lrg ?_)
  | (with_reducible refine' U.i_rg1 ?_)
  | (with_reducible refine' U.i_rg1' ?_)
  | (with_reducible refine' U.i_pl ?_)
  | ((with_reducible refine' U.i_pl' ?hx ?hy ?_); (case hx => walk_at "hp"); (case hy => exact Nat.le_of_ble_eq_true rfl))
  | (with_reducible refine' U.i_rAdd ?_)
  | ((with_reducible refine' U.i_listOf ?hx ?_); (case hx => exact L2.SqL.of (by walk_at "hp")); walk_at "lay")
  | (with_reducible refine' U.i_intB ?_)
  | (with_reducible refine' U.i_wget ?_)
  | ((with_reducible refine' U.i_tupleOf ?hx ?_); (case hx => walk_at "hp"); walk_at "lay")
  | ((with_reducible refine' U.i_repA ?hx ?hn ?h0 ?h1 ?h2 ?_); (case hx => walk_at "hp"); (case hn => simp); (case h0 => omega); (case h1 => omega); (case h2 => simp); intro p H' hs ho)
  | ((with_reducible refine' U.i_catA ?hx ?hy ?hz ?_); (case hx => walk_at "hp"); (case hy => walk_at "hp"); (case hz => walk_at "sz"); intro p H' hs ho)
  | ((with_reducible refine' U.i_slA ?hx ?_); (case hx => walk_at "hp"); intro p H' hs ho)
  | (with_reducible refine' U.i_zipS ?_)
  | ((with_reducible refine' U.i_zipTT ?hx ?hy ?_); (case hx => exact L2.SqT.of (by walk_at "hp")); (case hy => exact L2.SqT.of (by walk_at "hp")))
  | ((with_reducible refine' U.i_zipLL ?hx ?hy ?_); (case hx => exact L2.SqL.of (by walk_at "hp")); (case hy => exact L2.SqL.of (by walk_at "hp")))
  | (with_reducible refine' U.i_ptup ?_)
  | ((with_reducible refine' U.i_ptup' ?hx ?_); (case hx => exact L2.SqT.of (by walk_at "hp")))
  | ((with_reducible refine' U.i_lenT ?hx ?_); (case hx => exact L2.SqT.of (by walk_at "hp")))
  | (with_reducible refine' U.i_yes ?_)
  | (with_reducible refine' L2.iteT ?_)
  | (with_reducible refine' U.i_next ?_)
  | fail "rd1")
local macro_rules | `(tactic| walk_at "szl") => `(tactic| first | decide | (refine L2.small1000 ?_; (try simp only [List.length_cons, List.length_nil, List.length_map]); omega))
local macro_rules | `(tactic| walk_at "rd") => `(tactic| (repeat walk_at "rd1"))
local macro_rules | `(tactic| walk_at "ro") => `(tactic| (refine' U.i_or ?_; walk_at "rd"))
local macro_rules | `(tactic| walk_at "ra") => `(tactic| (refine' U.i_pt ?_; walk_at "rd"))
local macro_rules | `(tactic| walk_at "gd") => `(tactic| (repeat (first | walk_at "rd1" | (with_reducible refine' U.i_andV ?_))))

namespace Lw
open PySem L2 U LamX
structure Ad where
  BadSize : Addr
  BadNumber : Addr
  SIZES : Addr
  BASES : Addr
  r4 : Addr
  r8 : Addr
  r9 : Addr
  r16 : Addr
  RULES : Addr
  Field : Addr
  Net : Addr
  Task : Addr
  TE0 : Addr
  BadRow : Addr
  BadName : Addr
  BadLine : Addr
  BadHearers : Addr
  BadLoss : Addr
  BadPlan : Addr
  BadDeed : Addr
  BadText : Addr
  Ringed : Addr
  Short : Addr
  Narrow : Addr
  Heavy : Addr
  Unsolved : Addr
  NoHouse : Addr
  NoLine : Addr
  Taken : Addr
  Full : Addr
  InUse : Addr
  Told : Addr
  NothingLeft : Addr
  NoShare : Addr
  MingleError : Addr
  Missing : Addr
  Busy : Addr
structure Txt (P : Program) (w : World) (K : PySem.W.Frag) (mg : Str → Option Value) (A : Ad) : Prop where
  len : mg "len" = none
  abs : mg "abs" = none
  list : mg "list" = none
  int : mg "int" = none
  d_law_bag : U.DA K mg "_law_bag" (top 77) ["_law_script"] []
  d_law_pull : U.DA K mg "_law_pull" (top 87) ["_law_bag_here", "_law_tally"] []
  d_law_size : U.DA K mg "_law_size" (top 88) ["_law_bag_here"] []
  isinstance : mg "isinstance" = none
  str : mg "str" = none
  e_BadSize : U.EA K mg "BadSize" A.BadSize
  e_BadNumber : U.EA K mg "BadNumber" A.BadNumber
  range : mg "range" = none
  bool : mg "bool" = none
  g_SIZES : mg "SIZES" = some (.ref A.SIZES)
  s_SIZES : ∀ H, SqT K H A.SIZES [V.int 2, V.int 3, V.int 4, V.int 5, V.int 7, V.int 8, V.int 9, V.int 11, V.int 13, V.int 16]
  g_BASES : mg "BASES" = some (.ref A.BASES)
  s_BASES : ∀ H, SqT K H A.BASES [V.int 2, V.int 3, V.int 5, V.int 7, V.int 11, V.int 13]
  g_RULES : mg "RULES" = some (.ref A.RULES)
  w_RULES : U.WD P w K A.RULES [((Sum.inl 4 : Key), V.ref A.r4), ((Sum.inl 8 : Key), V.ref A.r8), ((Sum.inl 9 : Key), V.ref A.r9), ((Sum.inl 16 : Key), V.ref A.r16)]
  s_r4 : ∀ H, SqT K H A.r4 [V.int 1, V.int 1]
  s_r8 : ∀ H, SqT K H A.r8 [V.int 1, V.int 1, V.int 0]
  s_r9 : ∀ H, SqT K H A.r9 [V.int 2, V.int 0]
  s_r16 : ∀ H, SqT K H A.r16 [V.int 1, V.int 1, V.int 0, V.int 0]
  d_grown : U.DA K mg "grown" (top 33) ["one", "many"] []
  c_Field : Cls K A.Field
  na_Field_many : NoAttr K A.Field "many"
  na_Field_prime : NoAttr K A.Field "prime"
  na_Field_places : NoAttr K A.Field "places"
  n_Field : U.NA K mg "Field" A.Field "Field.__init__" (inClass (top 34) 0) ["self", "size"] [V.int 16]
  m_Field_size : U.MA K A.Field "size" "Field.size" (inClass (top 34) 5) ["self"] []
  all : mg "all" = none
  sorted : mg "sorted" = none
  max : mg "max" = none
  g_LETTERS : ∃ u, mg "LETTERS" = some u ∧ RelV (.str "abcdefghijklmnopqrstuvwxyz") u
  g_LONGEST : ∃ u, mg "LONGEST" = some u ∧ RelV (.int 6) u
  g_MOST_HOUSES : ∃ u, mg "MOST_HOUSES" = some u ∧ RelV (.int 12) u
  g_MOST_LINES : ∃ u, mg "MOST_LINES" = some u ∧ RelV (.int 30) u
  g_MOST_NUMBER : ∃ u, mg "MOST_NUMBER" = some u ∧ RelV (.int 99) u
  g_MOST_SLOW : ∃ u, mg "MOST_SLOW" = some u ∧ RelV (.int 4) u
  c_Net : Cls K A.Net
  na_Net_named : NoAttr K A.Net "named"
  na_Net_roads : NoAttr K A.Net "roads"
  n_Net : U.NA K mg "Net" A.Net "Net.__init__" (inClass (top 65) 0) ["self"] []
  d_need_name : U.DA K mg "need_name" (top 64) ["name"] []
  m_Net_need_house : U.MA K A.Net "need_house" "Net.need_house" (inClass (top 65) 3) ["self", "name"] []
  m_Net_need_line : U.MA K A.Net "need_line" "Net.need_line" (inClass (top 65) 4) ["self", "number"] []
  m_Net_house : U.MA K A.Net "house" "Net.house" (inClass (top 65) 5) ["self", "name"] []
  m_Net_houses : U.MA K A.Net "houses" "Net.houses" (inClass (top 65) 9) ["self"] []
  m_Net_numbers : U.MA K A.Net "numbers" "Net.numbers" (inClass (top 65) 10) ["self"] []
  m_Net_lines : U.MA K A.Net "lines" "Net.lines" (inClass (top 65) 11) ["self"] []
  m_Net_into : U.MA K A.Net "into" "Net.into" (inClass (top 65) 12) ["self", "name"] []
  m_Net_out_of : U.MA K A.Net "out_of" "Net.out_of" (inClass (top 65) 13) ["self", "name"] []
  m_Net_ends : U.MA K A.Net "ends" "Net.ends" (inClass (top 65) 14) ["self", "number"] []
  m_Net_told_order : U.MA K A.Net "told_order" "Net.told_order" (inClass (top 65) 15) ["self"] []
  m_Net_ring : U.MA K A.Net "ring" "Net.ring" (inClass (top 65) 16) ["self"] []
  m_Net_order : U.MA K A.Net "order" "Net.order" (inClass (top 65) 17) ["self"] []
  m_Net_twin : U.MA K A.Net "twin" "Net.twin" (inClass (top 65) 18) ["self"] []
  m_Net_line : U.MK K A.Net "line" "Net.line" (inClass (top 65) 6) [] [("slow", V.int 1), ("number", V.non)] (fun fd => U.BP K fd ["self", "one", "other", "slow", "number"] [V.int 1, V.non] ∧ U.BN K fd ["self", "one", "other", "slow", "number"] 3 ["number", "slow"] (fun vs zs => vs ++ U.turn [1, 0] zs))
  min : mg "min" = none
  tuple : mg "tuple" = none
  dict : mg "dict" = none
  sum : mg "sum" = none
  set : mg "set" = none
  g_MOST_HEARERS : ∃ u, mg "MOST_HEARERS" = some u ∧ RelV (.int 4) u
  g_MOST_LETTERS : ∃ u, mg "MOST_LETTERS" = some u ∧ RelV (.int 4) u
  g_MOST_LOSSES : ∃ u, mg "MOST_LOSSES" = some u ∧ RelV (.int 3) u
  d_need_letters : U.DA K mg "need_letters" (top 70) ["letters"] []
  d_is_loss : U.DA K mg "is_loss" (top 71) ["lines"] []
  d_need_losses : U.DA K mg "need_losses" (top 72) ["losses"] []
  c_Task : Cls K A.Task
  na_Task_rank_of : NoAttr K A.Task "rank_of"
  na_Task_field_of : NoAttr K A.Task "field_of"
  na_Task_web : NoAttr K A.Task "web"
  na_Task_start : NoAttr K A.Task "start"
  na_Task_ears : NoAttr K A.Task "ears"
  na_Task_many : NoAttr K A.Task "many"
  na_Task_gone : NoAttr K A.Task "gone"
  nk_Task : U.NK K mg "Task" A.Task "Task.__init__" (inClass (top 73) 0) [] [("letters", V.int 2), ("losses", V.ref A.TE0), ("size", V.int 16)] (fun fd => U.BN K fd ["self", "net", "source", "hearers", "letters", "losses", "size"] 4 ["letters", "losses", "size"] (fun vs zs => vs ++ zs))
  m_Task_net : U.MA K A.Task "net" "Task.net" (inClass (top 73) 3) ["self"] []
  m_Task_field : U.MA K A.Task "field" "Task.field" (inClass (top 73) 8) ["self"] []
  m_Task_fed_by : U.MA K A.Task "fed_by" "Task.fed_by" (inClass (top 73) 11) ["self", "number"] []
  m_Task_inputs : U.MA K A.Task "inputs" "Task.inputs" (inClass (top 73) 12) ["self", "number"] []
  gx_BadSize : mg "BadSize" = some (.ref A.BadSize)
  gx_BadNumber : mg "BadNumber" = some (.ref A.BadNumber)
  gx_BadRow : mg "BadRow" = some (.ref A.BadRow)
  gx_BadName : mg "BadName" = some (.ref A.BadName)
  gx_BadLine : mg "BadLine" = some (.ref A.BadLine)
  gx_BadHearers : mg "BadHearers" = some (.ref A.BadHearers)
  gx_BadLoss : mg "BadLoss" = some (.ref A.BadLoss)
  gx_BadPlan : mg "BadPlan" = some (.ref A.BadPlan)
  gx_BadDeed : mg "BadDeed" = some (.ref A.BadDeed)
  gx_BadText : mg "BadText" = some (.ref A.BadText)
  gx_Ringed : mg "Ringed" = some (.ref A.Ringed)
  gx_Short : mg "Short" = some (.ref A.Short)
  gx_Narrow : mg "Narrow" = some (.ref A.Narrow)
  gx_Heavy : mg "Heavy" = some (.ref A.Heavy)
  gx_Unsolved : mg "Unsolved" = some (.ref A.Unsolved)
  gx_NoHouse : mg "NoHouse" = some (.ref A.NoHouse)
  gx_NoLine : mg "NoLine" = some (.ref A.NoLine)
  gx_Taken : mg "Taken" = some (.ref A.Taken)
  gx_Full : mg "Full" = some (.ref A.Full)
  gx_InUse : mg "InUse" = some (.ref A.InUse)
  gx_Told : mg "Told" = some (.ref A.Told)
  gx_NothingLeft : mg "NothingLeft" = some (.ref A.NothingLeft)
  gx_NoShare : mg "NoShare" = some (.ref A.NoShare)
  gx_MingleError : mg "MingleError" = some (.ref A.MingleError)
  gx_Missing : mg "Missing" = some (.ref A.Missing)
  gx_Busy : mg "Busy" = some (.ref A.Busy)
  d_law_kind : U.DA K mg "_law_kind" (top 83) ["_law_e"] []
  d_law_why : U.DA K mg "_law_why" (top 92) ["_law_ask_here"] []
  xi_Heavy : U.EIa K mg "Heavy" A.Heavy "tries" "Heavy.__init__" (inClass (top 16) 0) ["self", "tries"]
  xf_NoHouse : L2.XfC K A.NoHouse
  xn_NoHouse : PySem.W.findIn K (.ref A.NoHouse) "name" = some none
  xm_NoHouse_NoHouse : PySem.W.exmOne K (.ref A.NoHouse) (.ref A.NoHouse) = some true
  xf_NoLine : L2.XfC K A.NoLine
  xn_NoLine : PySem.W.findIn K (.ref A.NoLine) "number" = some none
  xm_NoLine_NoHouse : PySem.W.exmOne K (.ref A.NoLine) (.ref A.NoHouse) = some false
  xm_NoLine_NoLine : PySem.W.exmOne K (.ref A.NoLine) (.ref A.NoLine) = some true
  xf_InUse : L2.XfC K A.InUse
  xn_InUse : PySem.W.findIn K (.ref A.InUse) "number" = some none
  xm_InUse_NoHouse : PySem.W.exmOne K (.ref A.InUse) (.ref A.NoHouse) = some false
  xm_InUse_NoLine : PySem.W.exmOne K (.ref A.InUse) (.ref A.NoLine) = some false
  xm_InUse_InUse : PySem.W.exmOne K (.ref A.InUse) (.ref A.InUse) = some true
  xf_BadText : L2.XfC K A.BadText
  xn_BadText : PySem.W.findIn K (.ref A.BadText) "row" = some none
  xm_BadText_NoHouse : PySem.W.exmOne K (.ref A.BadText) (.ref A.NoHouse) = some false
  xm_BadText_NoLine : PySem.W.exmOne K (.ref A.BadText) (.ref A.NoLine) = some false
  xm_BadText_InUse : PySem.W.exmOne K (.ref A.BadText) (.ref A.InUse) = some false
  xm_BadText_BadText : PySem.W.exmOne K (.ref A.BadText) (.ref A.BadText) = some true
  xf_Heavy : L2.XfC K A.Heavy
  xn_Heavy : PySem.W.findIn K (.ref A.Heavy) "tries" = some none
  xm_Heavy_NoHouse : PySem.W.exmOne K (.ref A.Heavy) (.ref A.NoHouse) = some false
  xm_Heavy_NoLine : PySem.W.exmOne K (.ref A.Heavy) (.ref A.NoLine) = some false
  xm_Heavy_InUse : PySem.W.exmOne K (.ref A.Heavy) (.ref A.InUse) = some false
  xm_Heavy_BadText : PySem.W.exmOne K (.ref A.Heavy) (.ref A.BadText) = some false
  xm_Heavy_Heavy : PySem.W.exmOne K (.ref A.Heavy) (.ref A.Heavy) = some true
  d_law_whole : U.DA K mg "_law_whole" (top 91) ["_law_one"] []
  d_law_alike : U.DA K mg "_law_alike" (top 75) ["_law_found", "_law_due"] []
  g_MOST_TRIES : ∃ u, mg "MOST_TRIES" = some u ∧ RelV (.int 4096) u
  d_first_plan : U.DK K mg "first_plan" (top 55) [] [("most", V.int 4096)] (fun fd => U.BN K fd ["task", "most"] 1 ["most"] (fun vs zs => vs ++ zs))
  d_first_copying : U.DK K mg "first_copying" (top 56) [] [("most", V.int 4096)] (fun fd => U.BN K fd ["task", "most"] 1 ["most"] (fun vs zs => vs ++ zs))
  d_need_most : U.DA K mg "need_most" (top 47) ["most"] []
  d_need_light : U.DA K mg "need_light" (top 48) ["count", "most"] []
  d_widths : U.DA K mg "widths" (top 49) ["task"] []
  d_tries : U.DA K mg "tries" (top 50) ["task"] []
  d_copying_tries : U.DA K mg "copying_tries" (top 51) ["task"] []
  d_law_names : U.DA K mg "_law_names" (top 84) ["_law_bag_here", "_law_tally"] []
  d_law_order_drawn : U.DA K mg "_law_order_drawn" (top 85) ["_law_bag_here", "_law_row"] []
  d_law_plain_net : U.DA K mg "_law_plain_net" (top 86) ["_law_world_here"] []
  d_law_world : U.DA K mg "_law_world" (top 93) ["_law_bag_here", "_law_upto", "_law_lines", "_law_ringless"] []
  d_law_gone : U.DA K mg "_law_gone" (top 81) ["_law_bag_here", "_law_roads", "_law_upto"] []
  d_law_ask : U.DA K mg "_law_ask" (top 76) ["_law_bag_here", "_law_upto", "_law_lines"] []
  d_law_fed : U.DA K mg "_law_fed" (top 80) ["_law_ask_here", "_law_mark"] []
  d_law_inputs : U.DA K mg "_law_inputs" (top 82) ["_law_ask_here", "_law_mark"] []
  d_law_tries : U.DA K mg "_law_tries" (top 90) ["_law_ask_here"] []
  d_law_copying_tries : U.DA K mg "_law_copying_tries" (top 78) ["_law_ask_here"] []
  d_law_task : U.DA K mg "_law_task" (top 89) ["_law_ask_here"] []
  d_law_far : U.DA K mg "_law_far" (top 79) ["_law_bag_here"] []


/-! ### promises -/
def Bag (H : Hp) (a c : Addr) : Prop := ∃ (ns : List Int) (i l s : Int), H a = some (.lst [.ref c, .int i, .int l, .int s]) ∧ H c = some (.lst (ns.map V.int)) ∧ a ≠ c ∧ 0 ≤ i ∧ 0 ≤ s ∧ s < 2147483629
def spPull : Sp := fun vs H Q _ => ∃ (a c : Addr) (n : Int), vs = [.ref a, .int n] ∧ Bag H a c ∧ 0 < n ∧ n < 1073741824 ∧ ∀ (r : Int) (H' : Hp), 0 ≤ r → r < n → Bag H' a c → But a H H' → Q (.int r) H'
def spSize : Sp := fun vs H Q _ => ∃ (a c : Addr), vs = [.ref a] ∧ Bag H a c ∧ ∀ (r : Int) (H' : Hp), r ∈ FM.sizes → Bag H' a c → But a H H' → Q (.int r) H'
def spBag (K : PySem.W.Frag) : Sp := fun vs H Q _ => ∃ (a : Addr) (ns : List Int), vs = [.ref a] ∧ SqL K H a (ns.map V.int) ∧ ns.length ≤ 63 ∧ ∀ (b c : Addr) (H' : Hp), H b = none → H c = none → Same H H' → Bag H' b c → Q (.ref b) H'
theorem Bag.same {H H' : Hp} {a c : Addr} (h : Bag H a c) (s : Same H H') : Bag H' a c := by
  obtain ⟨ns, i, l, z, h1, h2, h3⟩ := h
  exact ⟨ns, i, l, z, s _ _ h1, s _ _ h2, h3⟩
/-- a Field of size n stands at p -/
def flds (n : Int) : List (Str × V) := [("many", .int n), ("prime", .int (FM.base n)), ("places", .int (FM.places n : Nat))]
def FA (A : Ad) (H : Hp) (p : Addr) (n : Int) : Prop := n ∈ FM.sizes ∧ ∃ dx, H p = some (.ins A.Field dx (flds n))
theorem FA.same {A : Ad} {H H' : Hp} {p : Addr} {n : Int} (h : FA A H p n) (s : Same H H') : FA A H' p n := by
  obtain ⟨h1, dx, h2⟩ := h
  exact ⟨h1, dx, s _ _ h2⟩
theorem FA.but {A : Ad} {H H' : Hp} {p a : Addr} {n : Int} (h : FA A H p n) (s : But a H H') (ne : p ≠ a) : FA A H' p n := by
  obtain ⟨h1, dx, h2⟩ := h
  exact ⟨h1, dx, s _ _ h2 ne⟩
local macro_rules | `(tactic| walk_at "fa") => `(tactic| first
  | assumption
  | ((with_reducible refine' Lw.FA.same ?hx ?hy); (case hy => assumption); (case hx => walk_at "fa"))
  | fail "fa")
local macro_rules | `(tactic| walk_at "bg") => `(tactic| first
  | assumption
  | ((with_reducible refine' Lw.Bag.same ?hx ?hy); (case hy => assumption); (case hx => walk_at "bg"))
  | fail "bg")
def spGrown : Sp := fun vs H Q _ => ∃ (a : Int) (k : Nat), vs = [.int a, .int (k : Nat)] ∧ -(2 ^ 64) < a ∧ a < 2 ^ 64 ∧ k < 2 ^ 62 ∧ Q (.int (a ^ k)) H
def spInit (A : Ad) : Sp := fun vs H Q E => ∃ (p dx : Addr) (n : Int), vs = [.ref p, .int n] ∧ H p = some (.ins A.Field dx []) ∧
  (n ∈ FM.sizes → ∀ H', (∀ b o, H b = some o → b ≠ p → H' b = some o) → FA A H' p n → Q .non H') ∧ (n ∉ FM.sizes → E (.ref A.BadSize) none H)
def spHas (A : Ad) : Sp := fun vs H Q _ => ∃ (p : Addr) (n a : Int), vs = [.ref p, .int a] ∧ FA A H p n ∧ Q (.bl (decide (0 ≤ a ∧ a < n))) H
def spNeed (A : Ad) : Sp := fun vs H Q E => ∃ (p : Addr) (n a : Int), vs = [.ref p, .int a] ∧ FA A H p n ∧ (0 ≤ a ∧ a < n → Q .non H) ∧ (¬ (0 ≤ a ∧ a < n) → E (.ref A.BadNumber) none H)
def spFigs (A : Ad) : Sp := fun vs H Q _ => ∃ (p : Addr) (n a : Int), vs = [.ref p, .int a] ∧ FA A H p n ∧ ∀ l H', H l = none → Same H H' → H' l = some (.lst ((FM.figs (FM.base n) (FM.places n) a).map V.int)) → Q (.ref l) H'
def spComp (A : Ad) : Sp := fun vs H Q _ => ∃ (p l : Addr) (n : Int) (fs : List Int), vs = [.ref p, .ref l] ∧ FA A H p n ∧ H l = some (.lst (fs.map V.int)) ∧ Q (.int (FM.comp (FM.base n) fs)) H
def spAdded (A : Ad) : Sp := fun vs H Q _ => ∃ (p : Addr) (n a b s : Int), vs = [.ref p, .int a, .int b, .int s] ∧ FA A H p n ∧ (s = 1 ∨ s = -1) ∧ ∀ H', Same H H' → Q (.int (FM.addF n a b s)) H'
/-- an operation on two numbers of the field -/
def spOp (A : Ad) (f : Int → Int → Int → Int) : Sp := fun vs H Q E => ∃ (p : Addr) (n a b : Int), vs = [.ref p, .int a, .int b] ∧ FA A H p n ∧
  ((0 ≤ a ∧ a < n) ∧ (0 ≤ b ∧ b < n) → ∀ H', Same H H' → Q (.int (f n a b)) H') ∧ (¬ ((0 ≤ a ∧ a < n) ∧ (0 ≤ b ∧ b < n)) → E (.ref A.BadNumber) none H)
def spProd (A : Ad) : Sp := fun vs H Q _ => ∃ (p : Addr) (n a b : Int), vs = [.ref p, .int a, .int b] ∧ FA A H p n ∧ (0 ≤ a ∧ a < n) ∧ (0 ≤ b ∧ b < n) ∧ ∀ H', Same H H' → Q (.int (FM.mulF n a b)) H'
def spInv (A : Ad) : Sp := fun vs H Q _ => ∃ (p : Addr) (n a : Int), vs = [.ref p, .int a] ∧ FA A H p n ∧ 0 < a ∧ a < n ∧ ∀ H', Same H H' → Q (.int (FM.invF n a)) H'
def spOver (A : Ad) : Sp := fun vs H Q E => ∃ (p : Addr) (n a b : Int), vs = [.ref p, .int a, .int b] ∧ FA A H p n ∧
  ((0 ≤ a ∧ a < n) ∧ (0 ≤ b ∧ b < n) → b ≠ 0 → ∀ H', Same H H' → Q (.int (FM.overF n a b)) H') ∧ (¬ ((0 ≤ a ∧ a < n) ∧ (0 ≤ b ∧ b < n)) → E (.ref A.BadNumber) none H) ∧
  ((0 ≤ a ∧ a < n) ∧ (0 ≤ b ∧ b < n) → b = 0 → ∀ H', Same H H' → E (.ref A.NoShare) none H')
def spPow (A : Ad) : Sp := fun vs H Q E => ∃ (p : Addr) (n a m : Int), vs = [.ref p, .int a, .int m] ∧ FA A H p n ∧
  ((0 ≤ a ∧ a < n) ∧ 0 ≤ m → ∀ H', Same H H' → Q (.int (FM.powF n a m.toNat)) H') ∧ (¬ ((0 ≤ a ∧ a < n) ∧ 0 ≤ m) → E (.ref A.BadNumber) none H)
def spGetN (A : Ad) (f : Int → Int) : Sp := fun vs H Q _ => ∃ (p : Addr) (n : Int), vs = [.ref p] ∧ FA A H p n ∧ Q (.int (f n)) H
theorem spOp.go {A : Ad} {f : Int → Int → Int → Int} {H : Hp} {Q : VK} {E : XK} {p : Addr} {n a b : Int} (fa : FA A H p n) (ra : 0 ≤ a ∧ a < n) (rb : 0 ≤ b ∧ b < n) (q : ∀ H', Same H H' → Q (.int (f n a b)) H') : spOp A f [.ref p, .int a, .int b] H Q E :=
  ⟨p, n, a, b, rfl, fa, fun _ => q, fun z => absurd ⟨ra, rb⟩ z⟩
/-- a call of an operation on two numbers of the field -/
local macro_rules | `(tactic| walk_at "op2") => `(tactic| (refine' Lw.spOp.go ?fa ?ra ?rb ?q; (case fa => walk_at "fa"); (case ra => constructor <;> omega); (case rb => constructor <;> omega); intro H' s'; walk_at "rd"))
theorem spOver.go {A : Ad} {H : Hp} {Q : VK} {E : XK} {p : Addr} {n a b : Int} (fa : FA A H p n) (ra : 0 ≤ a ∧ a < n) (rb : 0 ≤ b ∧ b < n) (hb : b ≠ 0) (q : ∀ H', Same H H' → Q (.int (FM.overF n a b)) H') : spOver A [.ref p, .int a, .int b] H Q E :=
  ⟨p, n, a, b, rfl, fa, fun _ _ => q, fun z => absurd ⟨ra, rb⟩ z, fun _ z => absurd z hb⟩
theorem spPow.go {A : Ad} {H : Hp} {Q : VK} {E : XK} {p : Addr} {n a m : Int} (fa : FA A H p n) (ra : 0 ≤ a ∧ a < n) (hm : 0 ≤ m) (q : ∀ H', Same H H' → Q (.int (FM.powF n a m.toNat)) H') : spPow A [.ref p, .int a, .int m] H Q E :=
  ⟨p, n, a, m, rfl, fa, fun _ => q, fun z => absurd ⟨ra, hm⟩ z⟩
theorem spPull.go {H : Hp} {Q : VK} {E : XK} {a c : Addr} {n : Int} (hb : Bag H a c) (h0 : 0 < n) (h1 : n < 1073741824) (q : ∀ (r : Int) (H' : Hp), 0 ≤ r → r < n → Bag H' a c → But a H H' → Q (.int r) H') : spPull [.ref a, .int n] H Q E :=
  ⟨a, c, n, rfl, hb, h0, h1, q⟩

local macro_rules | `(tactic| walk_at "ty") => `(tactic| first | exact .base (.int _) | exact .base (.str _) | exact .base (.bl _) | exact .base .non | exact .base (.lst (by walk_at "hp")) | exact .base (.tup (by walk_at "hp")))
local macro_rules | `(tactic| walk_at "al") => `(tactic| (repeat (first
  | walk_at "rd1"
  | (with_reducible refine' U.i_andV ?_)
  | (with_reducible refine' U.i_notV ?_)
  | (with_reducible refine' U.i_truth ?_)
  | (with_reducible refine' U.i_or ?_)
  | (with_reducible refine' U.i_pt ?_)
  | ((with_reducible refine' U.i_isNT ?hx ?_); (case hx => rfl))
  | ((with_reducible refine' U.i_isNF ?hx ?_); (case hx => (intro z; cases z)))
  | ((with_reducible refine' U.i_isiT ?hx ?hy ?_); (case hx => walk_at "ty"); (case hy => decide +kernel))
  | ((with_reducible refine' U.i_isiF ?hx ?hy ?_); (case hx => walk_at "ty"); (case hy => decide +kernel))
  | (with_reducible refine' U.i_neBB ?_)
  | (with_reducible refine' U.i_eqBB ?_)
  | (with_reducible refine' U.i_eqSS ?_)
  | ((with_reducible refine' U.i_lenL ?hx ?_); (case hx => exact L2.SqL.of (by walk_at "hp")))
  | ((with_reducible refine' U.i_lenT ?hx ?_); (case hx => exact L2.SqT.of (by walk_at "hp")))
  | (with_reducible refine' U.iteT' ?_)
  | (with_reducible refine' U.iteF' ?_)
  | fail "al")))

def spWhole : Sp := fun vs H Q _ => ∃ (i : Int), vs = [.int i] ∧ Q (.bl true) H
def spAlike : Nat → Sp
  | 0 => fun _ _ _ _ => False
  | n + 1 => fun vs H Q _ => ∃ x y, vs = [x, y] ∧ U.Dt H n x y ∧ ∀ H', Same H H' → Q (.bl true) H'
structure Kinds (K : PySem.W.Frag) (A : Ad) (D : Addr) (b0 b1 b2 b3 b4 b5 b6 b7 b8 b9 b10 b11 b12 b13 b14 b15 b16 b17 b18 b19 b20 b21 b22 : Bool) : Prop where
  exc : ExcC K D
  k0 : PySem.W.kitOne K (.ref D) (.ref A.BadSize) = some b0
  k1 : PySem.W.kitOne K (.ref D) (.ref A.BadNumber) = some b1
  k2 : PySem.W.kitOne K (.ref D) (.ref A.BadRow) = some b2
  k3 : PySem.W.kitOne K (.ref D) (.ref A.BadName) = some b3
  k4 : PySem.W.kitOne K (.ref D) (.ref A.BadLine) = some b4
  k5 : PySem.W.kitOne K (.ref D) (.ref A.BadHearers) = some b5
  k6 : PySem.W.kitOne K (.ref D) (.ref A.BadLoss) = some b6
  k7 : PySem.W.kitOne K (.ref D) (.ref A.BadPlan) = some b7
  k8 : PySem.W.kitOne K (.ref D) (.ref A.BadDeed) = some b8
  k9 : PySem.W.kitOne K (.ref D) (.ref A.BadText) = some b9
  k10 : PySem.W.kitOne K (.ref D) (.ref A.Ringed) = some b10
  k11 : PySem.W.kitOne K (.ref D) (.ref A.Short) = some b11
  k12 : PySem.W.kitOne K (.ref D) (.ref A.Narrow) = some b12
  k13 : PySem.W.kitOne K (.ref D) (.ref A.Heavy) = some b13
  k14 : PySem.W.kitOne K (.ref D) (.ref A.Unsolved) = some b14
  k15 : PySem.W.kitOne K (.ref D) (.ref A.NoHouse) = some b15
  k16 : PySem.W.kitOne K (.ref D) (.ref A.NoLine) = some b16
  k17 : PySem.W.kitOne K (.ref D) (.ref A.Taken) = some b17
  k18 : PySem.W.kitOne K (.ref D) (.ref A.Full) = some b18
  k19 : PySem.W.kitOne K (.ref D) (.ref A.InUse) = some b19
  k20 : PySem.W.kitOne K (.ref D) (.ref A.Told) = some b20
  k21 : PySem.W.kitOne K (.ref D) (.ref A.NothingLeft) = some b21
  k22 : PySem.W.kitOne K (.ref D) (.ref A.NoShare) = some b22
structure Told (K : PySem.W.Frag) (A : Ad) (D : Addr) : Prop where
  n0 : PySem.W.exmOne K (.ref D) (.ref A.NoHouse) = some false
  n1 : PySem.W.exmOne K (.ref D) (.ref A.NoLine) = some false
  n2 : PySem.W.exmOne K (.ref D) (.ref A.InUse) = some false
  n3 : PySem.W.exmOne K (.ref D) (.ref A.BadText) = some false
  n4 : PySem.W.exmOne K (.ref D) (.ref A.Heavy) = some false
  any : PySem.W.exmAny K (.ref D) [.ref A.MingleError, .ref A.Missing, .ref A.Busy, .ref A.NoShare] = some true
abbrev marks (b0 b1 b2 b3 b4 b5 b6 b7 b8 b9 b10 b11 b12 b13 b14 b15 b16 b17 b18 b19 b20 b21 b22 : Bool) : List (Str × Bool) := [(("BadSize" : Str), b0), (("BadNumber" : Str), b1), (("BadRow" : Str), b2), (("BadName" : Str), b3), (("BadLine" : Str), b4), (("BadHearers" : Str), b5), (("BadLoss" : Str), b6), (("BadPlan" : Str), b7), (("BadDeed" : Str), b8), (("BadText" : Str), b9), (("Ringed" : Str), b10), (("Short" : Str), b11), (("Narrow" : Str), b12), (("Heavy" : Str), b13), (("Unsolved" : Str), b14), (("NoHouse" : Str), b15), (("NoLine" : Str), b16), (("Taken" : Str), b17), (("Full" : Str), b18), (("InUse" : Str), b19), (("Told" : Str), b20), (("NothingLeft" : Str), b21), (("NoShare" : Str), b22)]
def kindNames : List Str := ["BadSize", "BadNumber", "BadRow", "BadName", "BadLine", "BadHearers", "BadLoss", "BadPlan", "BadDeed", "BadText", "Ringed", "Short", "Narrow", "Heavy", "Unsolved", "NoHouse", "NoLine", "Taken", "Full", "InUse", "Told", "NothingLeft", "NoShare"]
theorem names_len : (kindNames.map (·.length)).sum ≤ 1000 := by decide +kernel
theorem marks_len (b0 b1 b2 b3 b4 b5 b6 b7 b8 b9 b10 b11 b12 b13 b14 b15 b16 b17 b18 b19 b20 b21 b22 : Bool) : ((U.words (marks b0 b1 b2 b3 b4 b5 b6 b7 b8 b9 b10 b11 b12 b13 b14 b15 b16 b17 b18 b19 b20 b21 b22)).map (·.length)).sum + (U.words (marks b0 b1 b2 b3 b4 b5 b6 b7 b8 b9 b10 b11 b12 b13 b14 b15 b16 b17 b18 b19 b20 b21 b22)).length * (PySem.Str.ofString " ").length ≤ 16777216 := by
  have h := U.lens_le (marks b0 b1 b2 b3 b4 b5 b6 b7 b8 b9 b10 b11 b12 b13 b14 b15 b16 b17 b18 b19 b20 b21 b22)
  have e1 : (marks b0 b1 b2 b3 b4 b5 b6 b7 b8 b9 b10 b11 b12 b13 b14 b15 b16 b17 b18 b19 b20 b21 b22).map (·.1) = kindNames := rfl
  have e2 : (marks b0 b1 b2 b3 b4 b5 b6 b7 b8 b9 b10 b11 b12 b13 b14 b15 b16 b17 b18 b19 b20 b21 b22).length = 23 := rfl
  have e3 : (PySem.Str.ofString " ").length = 1 := by decide +kernel
  have e4 := names_len
  rw [e1, e2] at h
  rw [e3]
  omega

def spRoot : Sp := fun vs H Q _ => ∃ (n : Int), vs = [.int n] ∧ n ∈ FM.sizes ∧ ∀ H', Same H H' → Q (.int (FM.base n)) H'
def spAdd : Sp := fun vs H Q _ => ∃ (n a c : Int), vs = [.int n, .int a, .int c] ∧ n ∈ FM.sizes ∧ 0 ≤ a ∧ a < n ∧ 0 ≤ c ∧ c < n ∧ ∀ H', Same H H' → Q (.int (FM.addF n a c 1)) H'
def spFar : Sp := fun vs H Q _ => ∃ (a c : Addr), vs = [.ref a] ∧ Bag H a c ∧ ∀ (r : Int) (H' : Hp), ¬ (0 ≤ r ∧ r < 1000) → Bag H' a c → But a H H' → Q (.int r) H'
def spLess : Sp := fun vs H Q _ => ∃ (n a c : Int), vs = [.int n, .int a, .int c] ∧ n ∈ FM.sizes ∧ 0 ≤ a ∧ a < n ∧ 0 ≤ c ∧ c < n ∧ ∀ H', Same H H' → Q (.int (FM.addF n a c (-1))) H'

local macro_rules | `(tactic| walk_at "gq") => `(tactic| (repeat (first | ((fail_if_success (with_reducible refine' U.i_seq ?_)); (first | walk_at "rd1" | (with_reducible refine' U.i_andV ?_))) | fail "gq")))
local macro_rules | `(tactic| walk_at "rq") => `(tactic| (repeat (first | ((fail_if_success (with_reducible refine' U.i_seq ?_)); walk_at "rd1") | fail "rq")))

abbrev Road := Int × Str × Str × Int
def roadV (t : Road) : List V := [.str t.2.1, .str t.2.2.1, .int t.2.2.2]
def rowV (t : Road) : List V := .int t.1 :: roadV t
def netF (nd rd : Addr) : List (Str × V) := [("named", .ref nd), ("roads", .ref rd)]
/-- a house's name -/
def GoodN (s : Str) : Prop := 1 ≤ s.length ∧ s.length ≤ 6 ∧ ∀ c ∈ s.cps.toList, c ∈ (PySem.Str.ofString "abcdefghijklmnopqrstuvwxyz").cps.toList
def EntR (H : Hp) (q : Int × Addr) (r : Road) : Prop := q.1 = r.1 ∧ H q.2 = some (.tup (roadV r))
structure NetA (A : Ad) (H : Hp) (x nd rd : Addr) (ns : List Str) (qs : List (Int × Addr)) (rs : List Road) : Prop where
  obj : ∃ dx, H x = some (.ins A.Net dx (netF nd rd))
  nm : H nd = some (.dK (U.nmK ns))
  ro : H rd = some (.dK (U.rdK qs))
  ts : U.All2 (EntR H) qs rs
  few : ns.length ≤ 12 ∧ rs.length ≤ 30
  nn : ns.Nodup
  rn : (rs.map (·.1)).Nodup
  ne : nd ≠ rd
section
variable {A : Ad} {H H' : Hp} {x nd rd : Addr} {ns : List Str} {qs : List (Int × Addr)} {rs : List Road}
theorem ents_keys (h : U.All2 (EntR H) qs rs) : qs.map (·.1) = rs.map (·.1) := by
  induction h with
  | nil => rfl
  | cons r _ ih => rw [List.map_cons, List.map_cons, r.1, ih]
theorem NetA.keys (h : NetA A H x nd rd ns qs rs) : qs.map (·.1) = rs.map (·.1) := ents_keys h.ts
theorem NetA.same (h : NetA A H x nd rd ns qs rs) (s : Same H H') : NetA A H' x nd rd ns qs rs := ⟨h.obj.elim fun d o => ⟨d, s _ _ o⟩, s _ _ h.nm, s _ _ h.ro, h.ts.imp fun _ _ e => ⟨e.1, s _ _ e.2⟩, h.few, h.nn, h.rn, h.ne⟩
/-- a list is written -/
theorem NetA.list {z : Addr} {xs : List V} (h : NetA A H x nd rd ns qs rs) (o : H z = some (.lst xs)) (k : But z H H') : NetA A H' x nd rd ns qs rs :=
  ⟨h.obj.elim fun d e => ⟨d, k _ _ e (U.ne_of_get e o nofun)⟩, k _ _ h.nm (U.ne_of_get h.nm o nofun), k _ _ h.ro (U.ne_of_get h.ro o nofun), h.ts.imp fun _ _ e => ⟨e.1, k _ _ e.2 (U.ne_of_get e.2 o nofun)⟩, h.few, h.nn, h.rn, h.ne⟩
theorem NetA.bag {b c : Addr} (h : NetA A H x nd rd ns qs rs) (hb : Bag H b c) (k : But b H H') : NetA A H' x nd rd ns qs rs := by
  obtain ⟨_, _, _, _, h1, _⟩ := hb
  exact h.list h1 k
end
/-- what a dict's writing leaves -/
theorem bag_dict {H H' : Hp} {b c d : Addr} {kvs : List (Key × V)} (h : Bag H b c) (o : H d = some (.dK kvs)) (k : But d H H') : Bag H' b c := by
  obtain ⟨ns, i, l, z, h1, h2, h3⟩ := h
  exact ⟨ns, i, l, z, k _ _ h1 (U.ne_of_get h1 o nofun), k _ _ h2 (U.ne_of_get h2 o nofun), h3⟩
def spNetI (A : Ad) : Sp := fun vs H Q _ => ∃ (x dx : Addr), vs = [.ref x] ∧ H x = some (.ins A.Net dx []) ∧ ∀ nd rd H', H nd = none → H rd = none → (∀ b o, H b = some o → b ≠ x → H' b = some o) → NetA A H' x nd rd [] [] [] → Q .non H'
def spNName : Sp := fun vs H Q _ => ∃ (s : Str), vs = [.str s] ∧ GoodN s ∧ ∀ H', Same H H' → Q .non H'
def spNHas (A : Ad) : Sp := fun vs H Q _ => ∃ (x nd rd : Addr) (ns : List Str) (qs : List (Int × Addr)) (rs : List Road) (s : Str), vs = [.ref x, .str s] ∧ NetA A H x nd rd ns qs rs ∧ s ∈ ns ∧ Q .non H
def spNHasL (A : Ad) : Sp := fun vs H Q _ => ∃ (x nd rd : Addr) (ns : List Str) (qs : List (Int × Addr)) (rs : List Road) (n : Int), vs = [.ref x, .int n] ∧ NetA A H x nd rd ns qs rs ∧ n ∈ rs.map (·.1) ∧ Q .non H
def spNHouse (A : Ad) : Sp := fun vs H Q _ => ∃ (x nd rd : Addr) (ns : List Str) (qs : List (Int × Addr)) (rs : List Road) (s : Str), vs = [.ref x, .str s] ∧ NetA A H x nd rd ns qs rs ∧ GoodN s ∧ s ∉ ns ∧ ns.length < 12 ∧ ∀ H', But nd H H' → NetA A H' x nd rd (ns ++ [s]) qs rs → Q .non H'
/-- the greatest number, 0 of none -/
def Top (rs : List Road) (m : Int) : Prop := (rs = [] → m = 0) ∧ (rs ≠ [] → m ∈ rs.map (·.1) ∧ ∀ y ∈ rs.map (·.1), y ≤ m)
def spNLine (A : Ad) : Sp := fun vs H Q _ => ∃ (x nd rd : Addr) (ns : List Str) (qs : List (Int × Addr)) (rs : List Road) (o p : Str) (l n : Int) (nv : V), vs = [.ref x, .str o, .str p, .int l, nv] ∧ NetA A H x nd rd ns qs rs ∧ o ∈ ns ∧ p ∈ ns ∧ o ≠ p ∧ 1 ≤ l ∧ l ≤ 4 ∧ 1 ≤ n ∧ n ≤ 99 ∧ n ∉ rs.map (·.1) ∧ rs.length < 30 ∧
  (nv = .int n ∨ (nv = .non ∧ Top rs (n - 1))) ∧ ∀ t H', But rd H H' → NetA A H' x nd rd ns (qs ++ [(n, t)]) (rs ++ [(n, o, p, l)]) → Q (.int n) H'
def spNHouses (A : Ad) : Sp := fun vs H Q _ => ∃ (x nd rd : Addr) (ns : List Str) (qs : List (Int × Addr)) (rs : List Road), vs = [.ref x] ∧ NetA A H x nd rd ns qs rs ∧ ∀ (p : Addr) (ys : List Str) (H' : Hp), H p = none → Same H H' → ys.Perm ns → PyProof.Rows.sortedS ys = true → H' p = some (.lst (ys.map V.str)) → Q (.ref p) H'
def spNNums (A : Ad) : Sp := fun vs H Q _ => ∃ (x nd rd : Addr) (ns : List Str) (qs : List (Int × Addr)) (rs : List Road), vs = [.ref x] ∧ NetA A H x nd rd ns qs rs ∧ ∀ (p : Addr) (ys : List Int) (H' : Hp), H p = none → Same H H' → ys.Perm (rs.map (·.1)) → (ys.Pairwise fun a b => a ≤ b) → H' p = some (.lst (ys.map V.int)) → Q (.ref p) H'
def RoadsAt (H : Hp) (as : List Addr) (ls : List Road) : Prop := U.All2 (fun a r => H a = some (.tup (rowV r))) as ls
def spNLines (A : Ad) : Sp := fun vs H Q _ => ∃ (x nd rd : Addr) (ns : List Str) (qs : List (Int × Addr)) (rs : List Road), vs = [.ref x] ∧ NetA A H x nd rd ns qs rs ∧ ∀ (p : Addr) (as : List Addr) (ls : List Road) (H' : Hp), H p = none → Same H H' → ls.Perm rs → (ls.Pairwise fun a b => a.1 ≤ b.1) → H' p = some (.lst (as.map V.ref)) → RoadsAt H' as ls → Q (.ref p) H'
def spNBy (A : Ad) (f : Road → Str) : Sp := fun vs H Q _ => ∃ (x nd rd : Addr) (ns : List Str) (qs : List (Int × Addr)) (rs : List Road) (s : Str), vs = [.ref x, .str s] ∧ NetA A H x nd rd ns qs rs ∧ s ∈ ns ∧ ∀ (p : Addr) (ls : List Road) (H' : Hp), H p = none → Same H H' → ls.Perm rs → (ls.Pairwise fun a b => a.1 ≤ b.1) → H' p = some (.lst (((ls.filter fun r => decide (f r = s)).map (·.1)).map V.int)) → Q (.ref p) H'
def spNEnds (A : Ad) : Sp := fun vs H Q _ => ∃ (x nd rd : Addr) (ns : List Str) (qs : List (Int × Addr)) (rs : List Road) (r : Road), vs = [.ref x, .int r.1] ∧ NetA A H x nd rd ns qs rs ∧ r ∈ rs ∧ ∀ t, H t = some (.tup (roadV r)) → Q (.ref t) H
def spNLen (A : Ad) : Sp := fun vs H Q _ => ∃ (x nd rd : Addr) (ns : List Str) (qs : List (Int × Addr)) (rs : List Road), vs = [.ref x] ∧ NetA A H x nd rd ns qs rs ∧ Q (.int rs.length) H
local macro_rules | `(tactic| walk_at "nt") => `(tactic| (repeat (first
  | walk_at "rd1"
  | (with_reducible refine' U.i_dni ?_)
  | (with_reducible refine' U.i_din ?_)
  | (with_reducible refine' U.i_dgt ?_)
  | (with_reducible refine' U.i_dpt ?_)
  | (with_reducible refine' U.i_dnew ?_)
  | ((with_reducible refine' U.i_dniN ?hx ?_); (case hx => walk_at "hp"))
  | ((with_reducible refine' U.i_dinN ?hx ?_); (case hx => walk_at "hp"))
  | ((with_reducible refine' U.i_dniR ?hx ?_); (case hx => walk_at "hp"))
  | ((with_reducible refine' U.i_dinR ?hx ?_); (case hx => walk_at "hp"))
  | (with_reducible refine' U.i_or ?_)
  | (with_reducible refine' U.i_pt ?_)
  | fail "nt")))

theorem i_dpop {td ty : TE} {σ : L2.St} {H : Hp} {Q : VK} (q : td σ H fun x H1 => ∃ a, x = .ref a ∧ IsD H1 a ∧ ty σ H1 fun y H2 => ∃ kvs k v, H2 a = some (.dK kvs) ∧ y = kV k ∧ valV kvs k = some v ∧ Q v (upd H2 a (.dK (dropK kvs k)))) : tDPop1 td ty σ H Q := q
theorem rdK_drop {qs : List (Int × Addr)} {n : Int} : dropK (U.rdK qs) (Sum.inl n) = U.rdK (qs.filter fun q => decide (q.1 ≠ n)) := by
  unfold dropK U.rdK
  induction qs with
  | nil => rfl
  | cons q qs ih =>
    rw [List.map_cons, List.filter_cons, List.filter_cons, ih]
    by_cases h : q.1 = n
    · simp [h]
    · have : (Sum.inl q.1 : Key) ≠ Sum.inl n := fun e => h (Sum.inl.inj e)
      simp [h]
theorem ents_drop {H : Hp} {qs : List (Int × Addr)} {rs : List Road} {n : Int} (h : U.All2 (EntR H) qs rs) : U.All2 (EntR H) (qs.filter fun q => decide (q.1 ≠ n)) (rs.filter fun r => decide (r.1 ≠ n)) := by
  induction h with
  | nil => exact .nil
  | @cons q r qs rs e _ ih =>
    rw [List.filter_cons, List.filter_cons, e.1]
    by_cases z : r.1 = n
    · simpa [z] using ih
    · simpa [z] using U.All2.cons e ih
def spNCut (A : Ad) : Sp := fun vs H Q _ => ∃ (x nd rd : Addr) (ns : List Str) (qs : List (Int × Addr)) (rs : List Road) (n : Int), vs = [.ref x, .int n] ∧ NetA A H x nd rd ns qs rs ∧ n ∈ rs.map (·.1) ∧ ∀ H', But rd H H' → NetA A H' x nd rd ns (qs.filter fun q => decide (q.1 ≠ n)) (rs.filter fun r => decide (r.1 ≠ n)) → Q .non H'
def spNTwin (A : Ad) : Sp := fun vs H Q _ => ∃ (x nd rd : Addr) (ns : List Str) (qs : List (Int × Addr)) (rs : List Road), vs = [.ref x] ∧ NetA A H x nd rd ns qs rs ∧ ∀ (x2 nd2 rd2 : Addr) (H' : Hp), H x2 = none → H nd2 = none → H rd2 = none → Same H H' → NetA A H' x2 nd2 rd2 ns qs rs → Q (.ref x2) H'
theorem lay_good15 {s : Str} (g : GoodN s) : PyData.canLay0 (.str s) = true := by
  have all : ∀ c ∈ (PySem.Str.ofString "abcdefghijklmnopqrstuvwxyz").cps.toList, c < 0x110000 := by decide +kernel
  show (s.cps.all fun c => decide (c < 0x110000)) = true
  rw [← Array.all_toList]
  exact List.all_eq_true.mpr fun c m => decide_eq_true (all c (g.2.2 c m))
def roadD5 (r : Road) : PyData := .tuple [.int r.1, .str r.2.1, .str r.2.2.1, .int r.2.2.2]
theorem eqStrs : ∀ (xs ys : List Str), PyData.eqv (.list (xs.map .str)) (.list (ys.map .str)) = decide (xs = ys) := by
  intro xs
  induction xs with
  | nil => intro ys; cases ys <;> simp [PyData.eqv, PyData.eqvAll]
  | cons x xs ih =>
    intro ys
    cases ys with
    | nil => simp [PyData.eqv, PyData.eqvAll]
    | cons y ys =>
      have := ih ys
      simp only [PyData.eqv] at this
      by_cases e1 : x = y <;> simp [PyData.eqv, PyData.eqvAll, this, e1]
theorem eqRoads : ∀ (xs ys : List Road), PyData.eqv (.list (xs.map roadD5)) (.list (ys.map roadD5)) = decide (xs = ys) := by
  intro xs
  induction xs with
  | nil => intro ys; cases ys <;> simp [PyData.eqv, PyData.eqvAll]
  | cons x xs ih =>
    intro ys
    cases ys with
    | nil => simp [PyData.eqv, PyData.eqvAll]
    | cons y ys =>
      have := ih ys
      simp only [PyData.eqv] at this
      obtain ⟨a1, a2, a3, a4⟩ := x
      obtain ⟨b1, b2, b3, b4⟩ := y
      by_cases e1 : a1 = b1 <;> by_cases e2 : a2 = b2 <;> by_cases e3 : a3 = b3 <;> by_cases e4 : a4 = b4 <;> simp [PyData.eqv, PyData.eqvAll, this, roadD5, e1, e2, e3, e4]
section
variable {K : PySem.W.Frag} {H : Hp} {Q : VK}
theorem dpStrs : ∀ (xs : List Str), DpAll K H (xs.map V.str) (xs.map .str)
  | [] => .nil
  | x :: xs => .cons (.str x) (dpStrs xs)
theorem dpRoads {as : List Addr} {rs : List Road} (h : RoadsAt H as rs) : DpAll K H (as.map V.ref) (rs.map roadD5) := by
  induction h with
  | nil => exact .nil
  | cons r _ ih => exact .cons (.tup (SqT.of r) (.cons (.int _) (.cons (.str _) (.cons (.str _) (.cons (.int _) .nil))))) ih
theorem plStrs {xs : List Str} (g : ∀ s ∈ xs, GoodN s) : U.Pl 2 (.list (xs.map .str)) := .lst fun d m => by
  obtain ⟨s, ms, rfl⟩ := List.mem_map.mp m
  exact .str s (lay_good15 (g s ms))
theorem plRoads {rs : List Road} (g : ∀ r ∈ rs, GoodN r.2.1 ∧ GoodN r.2.2.1) : U.Pl 2 (.list (rs.map roadD5)) := .lst fun d m => by
  obtain ⟨r, mr, rfl⟩ := List.mem_map.mp m
  refine .tup fun d m => ?_
  have g' := g r mr
  rcases List.mem_cons.mp m with rfl | m
  · exact .int _
  rcases List.mem_cons.mp m with rfl | m
  · exact .str _ (lay_good15 g'.1)
  rcases List.mem_cons.mp m with rfl | m
  · exact .str _ (lay_good15 g'.2)
  rcases List.mem_cons.mp m with rfl | m
  · exact .int _
  · cases m
theorem i_eqStrs {a b : Addr} {xs ys : List Str} (h1 : H a = some (.lst (xs.map V.str))) (h2 : H b = some (.lst (ys.map V.str))) (g1 : ∀ s ∈ xs, GoodN s) (g2 : ∀ s ∈ ys, GoodN s) (q : Q (.bl (decide (xs = ys))) H) : rEqD K (.ref a) (.ref b) H Q :=
  ⟨_, _, .lst (SqL.of h1) (dpStrs xs), .lst (SqL.of h2) (dpStrs ys), (plStrs g1).shaped (by decide), (plStrs g2).shaped (by decide), by rw [eqStrs]; exact q⟩
theorem i_eqRoads {a b : Addr} {as bs : List Addr} {xs ys : List Road} (h1 : H a = some (.lst (as.map V.ref))) (r1 : RoadsAt H as xs) (h2 : H b = some (.lst (bs.map V.ref))) (r2 : RoadsAt H bs ys) (g1 : ∀ r ∈ xs, GoodN r.2.1 ∧ GoodN r.2.2.1) (g2 : ∀ r ∈ ys, GoodN r.2.1 ∧ GoodN r.2.2.1) (q : Q (.bl (decide (xs = ys))) H) : rEqD K (.ref a) (.ref b) H Q :=
  ⟨_, _, .lst (SqL.of h1) (dpRoads r1), .lst (SqL.of h2) (dpRoads r2), (plRoads g1).shaped (by decide), (plRoads g2).shaped (by decide), by rw [eqRoads]; exact q⟩
end
/-- names and roads that a text may hold -/
def Fine (ns : List Str) (rs : List Road) : Prop := (∀ s ∈ ns, GoodN s) ∧ ∀ r ∈ rs, r.2.1 ∈ ns ∧ r.2.2.1 ∈ ns
theorem Fine.road {ns : List Str} {rs : List Road} (f : Fine ns rs) : ∀ r ∈ rs, GoodN r.2.1 ∧ GoodN r.2.2.1 := fun r m => ⟨f.1 _ (f.2 r m).1, f.1 _ (f.2 r m).2⟩
def spNEq (A : Ad) : Sp := fun vs H Q _ => ∃ (x nd rd : Addr) (ns : List Str) (qs : List (Int × Addr)) (rs : List Road) (y : V), vs = [.ref x, y] ∧ NetA A H x nd rd ns qs rs ∧
  ((∃ (x2 nd2 rd2 : Addr) (ns2 : List Str) (qs2 : List (Int × Addr)) (rs2 : List Road), y = .ref x2 ∧ NetA A H x2 nd2 rd2 ns2 qs2 rs2 ∧ Fine ns rs ∧ Fine ns2 rs2 ∧ ∀ b H', Same H H' → (b = true ↔ ns.Perm ns2 ∧ rs.Perm rs2) → Q (.bl b) H') ∨
   (∃ z xs, y = .ref z ∧ H z = some (.lst xs) ∧ Q (.bl false) H) ∨ (∃ i : Int, y = .int i ∧ Q (.bl false) H))

/-- the law's names: a letter and a tail -/
def tail6 (t : Nat) : Str := (["", "", "x", "box", "zzzzz", "a"] : List Str).getD t ""
def nmS (c t : Nat) : Str := ⟨#[97 + c]⟩ ++ tail6 t
theorem nmS_good : ∀ c : Fin 26, ∀ t : Fin 6, (nmS c.1 t.1).length = 1 + (tail6 t.1).length ∧ (nmS c.1 t.1).length ≤ 6 ∧ ((nmS c.1 t.1).cps.toList.all fun x => (PySem.Str.ofString "abcdefghijklmnopqrstuvwxyz").cps.toList.contains x) = true ∧ (nmS c.1 t.1).cps.toList.head? = some (97 + c.1) ∧
  cutS (nmS c.1 t.1) none (some 6) = nmS c.1 t.1 ∧ (⟨#[97 + c.1]⟩ : Str).length + (tail6 t.1).length ≤ 1000 := by decide +kernel
theorem nmS_ok {c t : Nat} (hc : c < 26) (ht : t < 6) : GoodN (nmS c t) := by
  obtain ⟨h1, h2, h3, _⟩ := nmS_good ⟨c, hc⟩ ⟨t, ht⟩
  refine ⟨by rw [h1]; omega, h2, fun x m => ?_⟩
  have := List.all_eq_true.mp h3 x m
  simpa using this
theorem nmS_ne {c d t u : Nat} (hc : c < 26) (hd : d < 26) (ht : t < 6) (hu : u < 6) (n : c ≠ d) : nmS c t ≠ nmS d u := fun e => by
  have h1 := (nmS_good ⟨c, hc⟩ ⟨t, ht⟩).2.2.2.1
  have h2 := (nmS_good ⟨d, hd⟩ ⟨u, hu⟩).2.2.2.1
  have h1' : (nmS c t).cps.toList.head? = some (97 + c) := h1
  have h2' : (nmS d u).cps.toList.head? = some (97 + d) := h2
  rw [e, h2'] at h1'
  have := Option.some.inj h1'
  omega
theorem sgn : ∀ c : Fin 26, (PySem.Str.ofString "abcdefghijklmnopqrstuvwxyz").cps.toList[c.1]? = some (97 + c.1) := by decide +kernel
theorem bag_new {H : Hp} {b c l : Addr} (h : Bag H b c) (o : H l = none) : l ≠ b := fun e => by
  obtain ⟨ns, i, j, z, h1, _⟩ := h
  rw [e, h1] at o
  cases o
theorem bag_but {H H' : Hp} {b c l : Addr} (h : Bag H b c) (n1 : l ≠ b) (n2 : l ≠ c) (k : But l H H') : Bag H' b c := by
  obtain ⟨ns, i, j, z, h1, h2, h3⟩ := h
  exact ⟨ns, i, j, z, k _ _ h1 n1.symm, k _ _ h2 n2.symm, h3⟩
theorem bag_new2 {H : Hp} {b c l : Addr} (h : Bag H b c) (o : H l = none) : l ≠ c := fun e => by
  obtain ⟨ns, i, j, z, _, h2, _⟩ := h
  rw [e, h2] at o
  cases o
theorem but_tr {a : Addr} {H H1 H2 : Hp} (h : But a H H1) (g : But a H1 H2) : But a H H2 := fun b o e n => g b o (h b o e n) n
theorem but_sm {a : Addr} {H H1 H2 : Hp} (h : But a H H1) (g : Same H1 H2) : But a H H2 := fun b o e n => g b o (h b o e n)
theorem sm_but {a : Addr} {H H1 H2 : Hp} (h : Same H H1) (g : But a H1 H2) : But a H H2 := fun b o e n => g b o (h b o e) n
theorem but_free {a z : Addr} {H H1 : Hp} (h : But a H H1) (n : z ≠ a) (o : H1 z = none) : H z = none := by
  cases e : H z with
  | none => rfl
  | some u => rw [h _ _ e n] at o; cases o
theorem cons_erase {α : Type} : ∀ {ls : List α} {k : Nat} (h : k < ls.length), (ls[k] :: ls.eraseIdx k).Perm ls
  | _ :: _, 0, _ => .refl _
  | x :: xs, k + 1, h => (List.Perm.swap _ _ _).trans ((cons_erase (Nat.lt_of_succ_lt_succ h)).cons x)
theorem atI_of' {α : Type} {xs : List α} {i : Int} {j : Nat} {v : α} (e : i = (j : Int)) (h : xs[j]? = some v) : atI xs i = some v := by
  rw [e]
  exact atI_nat h
/-- a new thing is written -/
theorem but_new {a z : Addr} {H H1 H2 : Hp} (h : But a H H1) (n : H z = none) (g : But z H1 H2) : But a H H2 := fun b o e ne => g b o (h b o e ne) (ne_of_none e n)
/-- names all different, and good -/
structure Names (ns : List Str) (t : Nat) : Prop where
  len : ns.length = t
  good : ∀ s ∈ ns, GoodN s
  nd : ns.Nodup
  kind : ∀ s ∈ ns, ∃ c u : Nat, c < 26 ∧ u < 6 ∧ s = nmS c u
theorem nmS_no : ∀ c : Fin 26, ∀ t : Fin 6, nmS c.1 t.1 ≠ PySem.Str.ofString "zzzyyy" ∧ nmS c.1 t.1 ≠ PySem.Str.ofString "yyyzzz" ∧ nmS c.1 t.1 ≠ PySem.Str.ofString "lost" ∧ nmS c.1 t.1 ≠ PySem.Str.ofString "gone" ∧ nmS c.1 t.1 ≠ PySem.Str.ofString "" := by decide +kernel
theorem Names.no {ns : List Str} {t : Nat} (h : Names ns t) : PySem.Str.ofString "zzzyyy" ∉ ns ∧ PySem.Str.ofString "yyyzzz" ∉ ns ∧ PySem.Str.ofString "lost" ∉ ns ∧ PySem.Str.ofString "gone" ∉ ns ∧ PySem.Str.ofString "" ∉ ns := by
  have z : ∀ s ∈ ns, s ≠ PySem.Str.ofString "zzzyyy" ∧ s ≠ PySem.Str.ofString "yyyzzz" ∧ s ≠ PySem.Str.ofString "lost" ∧ s ≠ PySem.Str.ofString "gone" ∧ s ≠ PySem.Str.ofString "" := fun s m => by
    obtain ⟨c, u, hc, hu, rfl⟩ := h.kind s m
    exact nmS_no ⟨c, hc⟩ ⟨u, hu⟩
  exact ⟨fun m => (z _ m).1 rfl, fun m => (z _ m).2.1 rfl, fun m => (z _ m).2.2.1 rfl, fun m => (z _ m).2.2.2.1 rfl, fun m => (z _ m).2.2.2.2 rfl⟩
theorem slTK {X : L2.Cx} (K : PySem.W.Frag) (h : X.K = K) : SlR X (rSlA K) := h ▸ sl_tupA
def EntW (H : Hp) (q : Int × Addr) (r : Road) : Prop := q.1 = r.1 ∧ H q.2 = some (.tup (rowV r))
section
variable {H H' : Hp} {as bs : List Addr} {rs ls : List Road} {qs : List (Int × Addr)}
theorem RoadsAt.same (h : RoadsAt H as rs) (s : Same H H') : RoadsAt H' as rs := h.imp fun _ _ e => s _ _ e
theorem RoadsAt.list {z : Addr} {xs : List V} (h : RoadsAt H as rs) (o : H z = some (.lst xs)) (k : But z H H') : RoadsAt H' as rs := h.imp fun _ _ e => k _ _ e (U.ne_of_get e o nofun)
theorem roads_qs (ra : RoadsAt H as rs) : ∃ qs : List (Int × Addr), qs.map (·.2) = as ∧ U.All2 (EntW H) qs rs := by
  induction ra with
  | nil => exact ⟨[], rfl, .nil⟩
  | @cons a r as rs h _ ih =>
    obtain ⟨qs, e, d⟩ := ih
    exact ⟨(r.1, a) :: qs, by rw [List.map_cons, e], .cons ⟨rfl, h⟩ d⟩
theorem entw_roads (h : U.All2 (EntW H) qs rs) : RoadsAt H (qs.map (·.2)) rs := by
  induction h with
  | nil => exact .nil
  | cons h _ ih => exact .cons h.2 ih
theorem entw_keys (h : U.All2 (EntW H) qs rs) : qs.map (·.1) = rs.map (·.1) := by
  induction h with
  | nil => rfl
  | cons h _ ih => rw [List.map_cons, List.map_cons, ih, h.1]
theorem roads_dts (h : RoadsAt H as ls) : ∀ {bs : List Addr}, RoadsAt H bs ls → U.Dts H 1 (as.map V.ref) (bs.map V.ref) := by
  induction h with
  | nil =>
    intro bs g
    cases g
    exact .nil
  | cons h _ ih =>
    intro bs g
    cases g with
    | cons g1 g2 => exact .cons (U.Dts.tup h g1 (.cons (.int _) (.cons (.str _) (.cons (.str _) (.cons (.int _) .nil)))) (by simp [rowV, roadV])) (ih g2)
theorem strs_dts : ∀ (ss : List Str), U.Dts H 1 (ss.map V.str) (ss.map V.str)
  | [] => .nil
  | s :: ss => .cons (.str s) (strs_dts ss)
theorem ints_dts : ∀ (ss : List Int), U.Dts H 1 (ss.map V.int) (ss.map V.int)
  | [] => .nil
  | s :: ss => .cons (.int s) (ints_dts ss)
end
def spLNames : Sp := fun vs H Q _ => ∃ (b c : Addr) (t : Nat), vs = [.ref b, .int (t : Nat)] ∧ Bag H b c ∧ t ≤ 12 ∧ ∀ (p : Addr) (ns : List Str) (H' : Hp), H p = none → Bag H' b c → But b H H' → Names ns t → H' p = some (.lst (ns.map V.str)) → Q (.ref p) H'
def spLOrder : Sp := fun vs H Q _ => ∃ (b c l : Addr) (ns : List Str), vs = [.ref b, .ref l] ∧ Bag H b c ∧ H l = some (.lst (ns.map V.str)) ∧ ns.length ≤ 64 ∧ ∀ (p : Addr) (ys : List Str) (H' : Hp), H p = none → Bag H' b c → But b H H' → ys.Perm ns → H' p = some (.lst (ys.map V.str)) → Q (.ref p) H'
def spLPick : Sp := fun vs H Q _ => ∃ (b c l : Addr) (ks : List Int), vs = [.ref b, .ref l] ∧ Bag H b c ∧ H l = some (.lst (ks.map V.int)) ∧ 0 < ks.length ∧ ks.length ≤ 64 ∧ ∀ (k : Int) (H' : Hp), Bag H' b c → But b H H' → k ∈ ks → Q (.int k) H'
def spLStands (A : Ad) : Sp := fun vs H Q _ => ∃ (x nd rd w l m : Addr) (ms ns : List Str) (qs : List (Int × Addr)) (rs rs0 : List Road) (as : List Addr), vs = [.ref x, .ref w] ∧ NetA A H x nd rd ms qs rs ∧ H w = some (.tup [.ref l, .ref m]) ∧ H l = some (.lst (ns.map V.str)) ∧ H m = some (.lst (as.map V.ref)) ∧ RoadsAt H as rs0 ∧ ms.Perm ns ∧ rs0.Perm rs ∧ ∀ H', Same H H' → Q (.bl true) H'

/-- a drawn road of a world: its number no more than three for each turn, its ends two of the names -/
def RoadOk (ns : List Str) (r : Road) : Prop := 1 ≤ r.1 ∧ r.2.1 ∈ ns ∧ r.2.2.1 ∈ ns ∧ r.2.1 ≠ r.2.2.1 ∧ 1 ≤ r.2.2.2 ∧ r.2.2.2 ≤ 4
theorem nodup_ne15 {ns : List Str} (d : ns.Nodup) {i j : Nat} (hi : i < ns.length) (hj : j < ns.length) (n : i ≠ j) : ns[i] ≠ ns[j] := by
  rcases Nat.lt_or_ge i j with lt | ge
  · exact List.pairwise_iff_getElem.mp d i j hi hj lt
  · exact fun e => List.pairwise_iff_getElem.mp d j i hj hi (by omega) e.symm
theorem roads_bag {H H' : Hp} {b c : Addr} {as : List Addr} {rs : List Road} (h : RoadsAt H as rs) (hb : Bag H b c) (k : But b H H') : RoadsAt H' as rs := by
  obtain ⟨_, _, _, _, h1, _⟩ := hb
  exact h.list h1 k
structure WorldP (ns : List Str) (rs : List Road) (t u : Nat) : Prop where
  nms : Names ns ns.length
  few : 2 ≤ ns.length ∧ ns.length ≤ t ∧ rs.length ≤ u
  up : rs.Pairwise fun a b => a.1 < b.1
  ok : ∀ r ∈ rs, RoadOk ns r ∧ r.1 ≤ 3 * (u : Int)
def spLWorld : Sp := fun vs H Q _ => ∃ (b c : Addr) (t u : Nat) (rl : Bool), vs = [.ref b, .int (t : Nat), .int (u : Nat), .bl rl] ∧ Bag H b c ∧ 2 ≤ t ∧ t ≤ 12 ∧ u ≤ 30 ∧ ∀ (p l m : Addr) (ns : List Str) (as : List Addr) (rs : List Road) (H' : Hp), H p = none → H l = none → H m = none → Bag H' b c → But b H H' → WorldP ns rs t u → H' p = some (.tup [.ref l, .ref m]) → H' l = some (.lst (ns.map V.str)) → H' m = some (.lst (as.map V.ref)) → RoadsAt H' as rs → l ≠ m → Q (.ref p) H'

theorem bag_tup {H : Hp} {b c z : Addr} {xs : List V} (h : Bag H b c) (o : H z = some (.tup xs)) : z ≠ b := fun e => by
  obtain ⟨zs, i, j, y, h1, _⟩ := h
  rw [e, h1] at o
  cases o
theorem upd_none {H : Hp} {a z : Addr} {o : HO} (h : upd H a o z = none) : z ≠ a ∧ H z = none := by
  by_cases e : z = a
  · rw [e, upd_same] at h
    cases h
  · exact ⟨e, by rw [upd_ne e] at h; exact h⟩
theorem strs_ne_bag {H : Hp} {b c l : Addr} {ns : List Str} (h : Bag H b c) (o : H l = some (.lst (ns.map V.str))) : l ≠ b := fun e => by
  obtain ⟨zs, i, j, z, h1, _⟩ := h
  rw [e, h1] at o
  have := congrArg (fun o => match o with | some (HO.lst (V.ref _ :: _)) => true | _ => false) o
  cases ns with
  | nil => cases this
  | cons y ys => cases this
theorem refs_ne_bag {H : Hp} {b c l : Addr} {as : List Addr} (h : Bag H b c) (o : H l = some (.lst (as.map V.ref))) : l ≠ b := fun e => by
  obtain ⟨zs, i, j, z, h1, _⟩ := h
  rw [e, h1] at o
  have := congrArg (fun o => match o with | some (HO.lst (_ :: V.int _ :: _)) => true | _ => false) o
  match as, this with
  | [], t => cases t
  | [_], t => cases t
  | _ :: _ :: _, t => cases t
theorem strs_perm {ns : List Str} {ys : List V} (h : ys.Perm (ns.map V.str)) : ∃ ms : List Str, ys = ms.map V.str ∧ ms.Perm ns := by
  have d : ∀ ns : List Str, U.All2 (fun (v : V) (s : Str) => v = .str s) (ns.map V.str) ns := fun ns => by
    induction ns with
    | nil => exact .nil
    | cons n ns ih => exact .cons rfl ih
  obtain ⟨ms, pm, d2⟩ := (d ns).perm h.symm
  refine ⟨ms, ?_, pm⟩
  clear pm h d
  induction d2 with
  | nil => rfl
  | cons r _ ih => rw [List.map_cons, ← ih, r]
theorem roads_perm {H : Hp} {as : List Addr} {rs : List Road} {ys : List V} (ra : RoadsAt H as rs) (h : ys.Perm (as.map V.ref)) : ∃ (bs : List Addr) (ls : List Road), ys = bs.map V.ref ∧ RoadsAt H bs ls ∧ ls.Perm rs := by
  have d : U.All2 (fun (v : V) (r : Road) => ∃ a, v = .ref a ∧ H a = some (.tup (rowV r))) (as.map V.ref) rs := by
    clear h
    induction ra with
    | nil => exact .nil
    | cons r _ ih => exact .cons ⟨_, rfl, r⟩ ih
  obtain ⟨ls, pm, d2⟩ := d.perm h.symm
  have : ∃ bs : List Addr, ys = bs.map V.ref ∧ RoadsAt H bs ls := by
    clear pm h d ra
    induction d2 with
    | nil => exact ⟨[], rfl, .nil⟩
    | cons r _ ih =>
      obtain ⟨bs, e, ra⟩ := ih
      obtain ⟨a, ea, ha⟩ := r
      exact ⟨a :: bs, by rw [List.map_cons, e, ea], .cons ha ra⟩
  obtain ⟨bs, e, rb⟩ := this
  exact ⟨bs, ls, e, rb, pm⟩
theorem i_sortedRoads {H : Hp} {Q : VK} {K : PySem.W.Frag} {a : Addr} {as : List Addr} {rs : List Road} (o : H a = some (.lst (as.map V.ref))) (ra : RoadsAt H as rs) (d : (rs.map (·.1)).Nodup) (q : ∀ (p : Addr) (bs : List Addr) (ls : List Road) (H' : Hp), ls.Perm rs → (ls.Pairwise fun a b => a.1 ≤ b.1) → H p = none → Same H H' → H' p = some (.lst (bs.map V.ref)) → RoadsAt H' bs ls → Q (.ref p) H') : U.rSorted4 K [.ref a] H Q := by
  obtain ⟨qw, eqw, dw⟩ := roads_qs ra
  have om : H a = some (.lst (qw.map fun q => V.ref q.2)) := by rw [o, ← eqw, List.map_map]; rfl
  refine U.i_sorted4 om (fun q mq => by
    obtain ⟨r, _, e1, e2⟩ := dw.memL mq
    exact ⟨r.2.1, r.2.2.1, r.2.2.2, by rw [e2, e1]; rfl⟩) (List.pairwise_map.mp (entw_keys dw ▸ d)) (fun ys' p2 pm2 so2 hp2 => ?_)
  obtain ⟨ls, pmL, dL⟩ := dw.perm pm2.symm
  have soL : ls.Pairwise fun a b => a.1 ≤ b.1 := dL.pairwise (fun a b c d e1 e2 h => by rw [← e1.1, ← e2.1]; exact h) so2
  refine q p2 (ys'.map (·.2)) ls _ pmL soL hp2 (same_new hp2) ?_ ((entw_roads dL).same (same_new hp2))
  rw [upd_same, List.map_map]
  rfl
theorem i_neRoads0 {K : PySem.W.Frag} {H : Hp} {Q : VK} {l e : Addr} {as : List Addr} {rs : List Road} (o : H l = some (.lst (as.map V.ref))) (h : RoadsAt H as rs) (g : ∀ r ∈ rs, GoodN r.2.1 ∧ GoodN r.2.2.1) (oe : H e = some (.lst [])) (q : Q (.bl (!decide (rs = []))) H) : rNeD K (.ref l) (.ref e) H Q :=
  ⟨.list (rs.map roadD5), .list [], .lst (SqL.of o) (dpRoads h), .lst (SqL.of oe) .nil, (plRoads g).shaped (by decide), (U.Pl.lst (n := 0) (fun _ m => by cases m)).shaped (by decide), by rw [show PyData.eqv (.list (rs.map roadD5)) (.list []) = decide (rs = []) from eqRoads rs []]; exact q⟩
theorem i_eqRoads0 {K : PySem.W.Frag} {H : Hp} {Q : VK} {l e : Addr} {as : List Addr} {rs : List Road} (o : H l = some (.lst (as.map V.ref))) (h : RoadsAt H as rs) (g : ∀ r ∈ rs, GoodN r.2.1 ∧ GoodN r.2.2.1) (oe : H e = some (.lst [])) (q : Q (.bl (decide (rs = []))) H) : rEqD K (.ref l) (.ref e) H Q :=
  ⟨.list (rs.map roadD5), .list [], .lst (SqL.of o) (dpRoads h), .lst (SqL.of oe) .nil, (plRoads g).shaped (by decide), (U.Pl.lst (n := 0) (fun _ m => by cases m)).shaped (by decide), by rw [show PyData.eqv (.list (rs.map roadD5)) (.list []) = decide (rs = []) from eqRoads rs []]; exact q⟩
def spLOrd : Sp := fun vs H Q _ => ∃ (b c l : Addr) (xs : List V), vs = [.ref b, .ref l] ∧ Bag H b c ∧ H l = some (.lst xs) ∧ xs.length ≤ 64 ∧ ∀ (p : Addr) (ys : List V) (H' : Hp), H p = none → Bag H' b c → But b H H' → ys.Perm xs → H' p = some (.lst ys) → Q (.ref p) H'
def spLPickV : Sp := fun vs H Q _ => ∃ (b c l : Addr) (xs : List V), vs = [.ref b, .ref l] ∧ Bag H b c ∧ H l = some (.lst xs) ∧ l ≠ b ∧ 0 < xs.length ∧ xs.length ≤ 64 ∧ ∀ (k : Nat) (v : V) (H' : Hp), Bag H' b c → But b H H' → xs[k]? = some v → Q v H'
/-- what a net can be put together of -/
structure Putable (ns : List Str) (rs : List Road) : Prop where
  good : ∀ s ∈ ns, GoodN s
  nd : ns.Nodup
  few : ns.length ≤ 12 ∧ rs.length ≤ 30
  rn : (rs.map (·.1)).Nodup
  ok : ∀ r ∈ rs, RoadOk ns r ∧ r.1 ≤ 99
theorem WorldP.put {ns : List Str} {rs : List Road} {t u : Nat} (h : WorldP ns rs t u) (ht : t ≤ 12) (hu : u ≤ 30) : Putable ns rs :=
  ⟨h.nms.good, h.nms.nd, ⟨by have := h.few; omega, by have := h.few; omega⟩, List.pairwise_map.mpr (h.up.imp fun {a b} l e => by omega), fun r m => ⟨(h.ok r m).1, by have := (h.ok r m).2; omega⟩⟩
/-- a dict not the net's is written -/
theorem NetA.dict {A : Ad} {H H' : Hp} {x nd rd d : Addr} {ns : List Str} {qs : List (Int × Addr)} {rs : List Road} {kvs : List (Key × V)} (h : NetA A H x nd rd ns qs rs) (o : H d = some (.dK kvs)) (n1 : nd ≠ d) (n2 : rd ≠ d) (k : But d H H') : NetA A H' x nd rd ns qs rs :=
  ⟨h.obj.elim fun d e => ⟨d, k _ _ e (U.ne_of_get e o nofun)⟩, k _ _ h.nm n1, k _ _ h.ro n2, h.ts.imp fun _ _ e => ⟨e.1, k _ _ e.2 (U.ne_of_get e.2 o nofun)⟩, h.few, h.nn, h.rn, h.ne⟩
theorem roads_dict {H H' : Hp} {d : Addr} {as : List Addr} {rs : List Road} {kvs : List (Key × V)} (h : RoadsAt H as rs) (o : H d = some (.dK kvs)) (k : But d H H') : RoadsAt H' as rs := h.imp fun _ _ e => k _ _ e (U.ne_of_get e o nofun)
def spLNet (A : Ad) : Sp := fun vs H Q _ => ∃ (b c w l m : Addr) (ns : List Str) (as : List Addr) (rs : List Road), vs = [.ref b, .ref w] ∧ Bag H b c ∧ H w = some (.tup [.ref l, .ref m]) ∧ H l = some (.lst (ns.map V.str)) ∧ H m = some (.lst (as.map V.ref)) ∧ RoadsAt H as rs ∧ Putable ns rs ∧
  ∀ (x nd rd : Addr) (ms : List Str) (qs : List (Int × Addr)) (ls : List Road) (H' : Hp), H x = none → H nd = none → H rd = none → Bag H' b c → But b H H' → ms.Perm ns → ls.Perm rs → NetA A H' x nd rd ms qs ls → Q (.ref x) H'
def NetS (A : Ad) (H : Hp) (x : Addr) (ns : List Str) (rs : List Road) : Prop := ∃ nd rd qs, NetA A H x nd rd ns qs rs
theorem NetS.same {A : Ad} {H H' : Hp} {x : Addr} {ns : List Str} {rs : List Road} (h : NetS A H x ns rs) (s : Same H H') : NetS A H' x ns rs := by
  obtain ⟨nd, rd, qs, na⟩ := h
  exact ⟨nd, rd, qs, na.same s⟩
theorem NetS.keys {A : Ad} {H : Hp} {x : Addr} {ns : List Str} {rs : List Road} (h : NetS A H x ns rs) : (rs.map (·.1)).Nodup ∧ ns.Nodup ∧ ns.length ≤ 12 ∧ rs.length ≤ 30 := by
  obtain ⟨_, _, _, na⟩ := h
  exact ⟨na.rn, na.nn, na.few⟩

theorem in_strs {x : Str} {xs : List Str} : inV (.str x) (xs.map V.str) = decide (x ∈ xs) := by
  induction xs with
  | nil => rfl
  | cons y ys ih =>
    rw [List.map_cons]
    show (eqV (.str y) (.str x) || inV (.str x) (ys.map V.str)) = _
    rw [ih]
    by_cases e : y = x
    · subst e; simp [eqV]
    · have : ¬ x = y := fun z => e z.symm
      simp [eqV, e, this]
theorem flat_strs {xs : List Str} : (xs.map V.str).all flatV = true := List.all_eq_true.mpr fun x m => by obtain ⟨_, _, rfl⟩ := List.mem_map.mp m; rfl
theorem i_inS {K : PySem.W.Frag} {H : Hp} {Q : VK} {x : Str} {p : Addr} {xs : List Str} (h : H p = some (.lst (xs.map V.str))) (q : Q (.bl (decide (x ∈ xs))) H) : rIn K false (.str x) (.ref p) H Q := U.i_in1 (.inl (SqL.of h)) rfl flat_strs in_strs q
theorem i_notInS {K : PySem.W.Frag} {H : Hp} {Q : VK} {x : Str} {p : Addr} {xs : List Str} (h : H p = some (.lst (xs.map V.str))) (q : Q (.bl (!decide (x ∈ xs))) H) : rIn K true (.str x) (.ref p) H Q := U.i_notIn1 (.inl (SqL.of h)) rfl flat_strs in_strs q
abbrev rOne (r : Road) : Str := r.2.1
abbrev rTwo (r : Road) : Str := r.2.2.1
abbrev rNum (r : Road) : Int := r.1
abbrev ordR (hs : List Str) (rs : List Road) : List Str := FO.ord rOne rTwo hs rs
theorem i_lock {t : TE} {σ : L2.St} {H : Hp} {Q : VK} {d : Addr} {u : HO} (hd : H d = some u) (hm : Mut (some u)) (q : ∀ od, t σ (upd H d (.frz od u)) fun v H' => H' d = some (.frz od u) ∧ Q v (upd H' d u)) : tLockE t σ H Q := ⟨d, u, hd, hm, q⟩
theorem i_keys {td : TE} {σ : L2.St} {H : Hp} {R : It → Hp → Prop} (q : td σ H fun x H1 => ∃ d o, x = .ref d ∧ ((∃ kvs, H1 d = some (.frz o (.dK kvs)) ∧ R (Itk d o kvs) H1) ∨ ∃ kvs, H1 d = some (.frz o (.dT kvs)) ∧ R (Itkt d o kvs) H1)) : iKeys td σ H R := q
theorem i_vals {td : TE} {σ : L2.St} {H : Hp} {R : It → Hp → Prop} (q : td σ H fun x H1 => ∃ d o kvs, x = .ref d ∧ H1 d = some (.frz o (.dK kvs)) ∧ R (Itd d o kvs) H1) : iVals td σ H R := q
theorem i_dgtF {H : Hp} {Q : VK} {nd : Addr} {o : Obj} {qs : List (Int × Addr)} {p : Int × Addr} (h : H nd = some (.frz o (.dK (U.rdK qs)))) (d : (qs.map (·.1)).Nodup) (m : p ∈ qs) (q : Q (.ref p.2) H) : U.rDgt (.ref nd) (.int p.1) H Q := ⟨nd, _, rfl, by rw [← U.rdK_get d m]; exact .inl ⟨_, Sum.inl p.1, .inr ⟨o, h⟩, rfl, rfl⟩, q⟩
theorem lock_same {H H' : Hp} {d : Addr} {u z : HO} (hd : H d = some u) (s : Same (upd H d z) H') : Same H (upd H' d u) := fun b o e => by
  by_cases q : b = d
  · subst q
    rw [upd_same, ← hd, e]
  · rw [upd_ne q]
    exact s _ _ ((upd_ne q).trans e)
theorem same_lock {H : Hp} {d : Addr} {u z : HO} (b : Addr) (o : HO) (hd : H d = some u) (e : H b = some o) (n : o ≠ u) : upd H d z b = some o := by
  have : b ≠ d := fun q => n (by rw [q, hd] at e; exact (Option.some.inj e).symm)
  exact (upd_ne this).trans e
theorem nmK_drop {ns : List Str} {s : Str} : dropK (U.nmK ns) (Sum.inr s) = U.nmK (ns.filter fun x => decide (x ≠ s)) := by
  unfold dropK U.nmK
  induction ns with
  | nil => rfl
  | cons q qs ih =>
    rw [List.map_cons, List.filter_cons, List.filter_cons, ih]
    by_cases h : q = s
    · simp [h]
    · have : (Sum.inr q : Key) ≠ Sum.inr s := fun e => h (Sum.inr.inj e)
      simp [h]
theorem nmK_get {ns : List Str} {s : Str} (m : s ∈ ns) : valV (U.nmK ns) (Sum.inr s) = some (.bl true) := by
  induction ns with
  | nil => cases m
  | cons q qs ih =>
    unfold U.nmK
    rw [List.map_cons]
    by_cases h : q = s
    · subst h
      exact valV_pos rfl
    · rw [valV_neg (fun e => h (Sum.inr.inj e))]
      rcases List.mem_cons.mp m with e | m
      · exact absurd e.symm h
      · exact ih m
def spNDrop (A : Ad) : Sp := fun vs H Q _ => ∃ (x nd rd : Addr) (ns : List Str) (qs : List (Int × Addr)) (rs : List Road) (s : Str), vs = [.ref x, .str s] ∧ NetA A H x nd rd ns qs rs ∧ s ∈ ns ∧ (∀ r ∈ rs, r.2.1 ≠ s ∧ r.2.2.1 ≠ s) ∧ ∀ H', But nd H H' → NetA A H' x nd rd (ns.filter fun x => decide (x ≠ s)) qs rs → Q .non H'
def spTold (A : Ad) : Sp := fun vs H Q _ => ∃ (x nd rd : Addr) (ns : List Str) (qs : List (Int × Addr)) (rs : List Road), vs = [.ref x] ∧ NetA A H x nd rd ns qs rs ∧ ∀ (p : Addr) (hs : List Str) (H' : Hp), H p = none → Same H H' → hs.Perm ns → PyProof.Rows.sortedS hs = true → H' p = some (.lst ((ordR hs rs).map V.str)) → Q (.ref p) H'
/-- what stands while the order is told: k houses, one a step -/
def WTold (rs : List Road) (ns : List Str) (H0 : Hp) (x t : Addr) : Nat → L2.St → Hp → Prop := fun m σ H' => ∃ (k : Nat) (hs : List Str) (g : Bool) (v3 v4 v5 v6 : Option V), σ = [some (.ref x), some (.ref t), some (.bl g), v3, v4, v5, v6] ∧ Same H0 H' ∧ hs.Perm ns ∧ PyProof.Rows.sortedS hs = true ∧
  H' t = some (.lst ((FO.iter rOne rTwo hs rs k).map V.str)) ∧ (FO.iter rOne rTwo hs rs k).length = k ∧ (g = false → FO.nxt rOne rTwo hs rs (FO.iter rOne rTwo hs rs k) = none) ∧ m = (if g then 1 else 0) + 2 * (12 - k)
section
variable {P : Program} {w : World} {K : PySem.W.Frag} {mg : Str → Option Value} {base : Heap} {A : Ad}
theorem sc_pull : FnScope ["_law_bag_here", "_law_tally", "_law_cell", "_law_grain", "_law_drawn"] ["_law_bag_here", "_law_tally"] (defScope (top 87)) := ⟨rfl, rfl, rfl, by decide +kernel, rfl, by decide +kernel, by decide +kernel⟩
theorem ok_pull (T : Txt P w K mg A) : U.Cl P w K mg base 1 "_law_pull" spPull [] := by
  refine T.d_law_pull.ok sc_pull (fun vs H Q E h => ?_) (fun f cdv Ar outer s H vs Q E hr h => ?_)
  · obtain ⟨a, c, n, rfl, ⟨ns, i, l, s, ha, hc, hac, hi0, hs0, hs1⟩, hn0, hn1, k⟩ := h
    rfl
  · obtain ⟨a, c, n, rfl, ⟨ns, i, l, s, ha, hc, hac, hi0, hs0, hs1⟩, hn0, hn1, k⟩ := h
    refine ⟨_, (pss_cons (ps_if (pt_cmpR op_eq (pe_ix ix_list (pv 0) pe_int (fun _ _ => rfl)) pe_int (nomark _))
    (pss_cons (ps_asg (pe_op U.u_add (pe_ix ix_list (pv 0) pe_int (fun _ _ => rfl)) pe_int) (pg_sub (pv 0) pe_int set_list))
    (pss_cons (ps_set (i := 2) sc_pull.nd rfl (Or.inl rfl) (pe_ifExp (pt_cmpR U.u_le (pe_ix ix_list (pv 0) pe_int (fun _ _ => rfl)) (pe_callB U.u_len (by rfl) T.len PySem.boot_len (pa_cons (pe_ix ix_list (pv 0) pe_int (fun _ _ => rfl)) pa_nil)) (nomark _)) (pe_ix ix_list (pe_ix ix_list (pv 0) pe_int (fun _ _ => rfl)) (pe_op U.u_sub (pe_ix ix_list (pv 0) pe_int (fun _ _ => rfl)) pe_int) (fun _ _ => rfl)) pe_int))
    (pss_cons (ps_if (pt_cmpR U.u_lt (pe_callB U.u_abs (by rfl) T.abs (by decide +kernel) (pa_cons (pv 2) pa_nil)) (pe_op U.u_pow pe_int pe_int) (nomark _))
    (pss_cons (ps_set (i := 3) sc_pull.nd rfl (Or.inl rfl) (pe_op U.u_add (pe_op U.u_mul (pe_ix ix_list (pv 0) pe_int (fun _ _ => rfl)) pe_int) (pe_op U.u_mul (pe_op U.u_mod (pv 2) pe_int) pe_int)))
    (pss_cons (ps_set (i := 3) sc_pull.nd rfl (Or.inl rfl) (pe_op U.u_mod (pe_op U.u_add (pv 3) (pe_op U.u_mul (pe_ix ix_list (pv 0) pe_int (fun _ _ => rfl)) pe_int)) pe_int))
    (pss_cons (ps_asg (pe_op U.u_mod (pe_op U.u_add (pe_op U.u_add (pe_op U.u_mul (pv 3) (pv 3)) (pe_ix ix_list (pv 0) pe_int (fun _ _ => rfl))) pe_int) pe_int) (pg_sub (pv 0) pe_int set_list))
    (pss_one (ps_ret (pe_op U.u_mod (pe_op U.u_add (pe_op U.u_fdiv (pe_ix ix_list (pv 0) pe_int (fun _ _ => rfl)) pe_int) (pe_op U.u_mul (pe_op U.u_mod (pe_ix ix_list (pv 0) pe_int (fun _ _ => rfl)) pe_int) pe_int)) (pv 1)))))))
    pss_nil)
    (pss_one (ps_asg (pe_callB U.u_abs (by rfl) T.abs (by decide +kernel) (pa_cons (pv 2) pa_nil)) (pg_sub (pv 0) pe_int set_list))))))
    pss_nil)
    (pss_cons (ps_set (i := 4) sc_pull.nd rfl (Or.inl rfl) (pe_op U.u_mod (pe_ix ix_list (pv 0) pe_int (fun _ _ => rfl)) (pv 1)))
    (pss_cons (ps_asg (pe_op U.u_fdiv (pe_ix ix_list (pv 0) pe_int (fun _ _ => rfl)) (pv 1)) (pg_sub (pv 0) pe_int set_list))
    (pss_one (ps_ret (pv 4)))))), ?_⟩
    walk_at "rd"
    refine U.ited (fun z1 => ?_) (fun z1 => ?_)
    · walk_at "rd"
      refine U.i_cut (fun x => ∃ z, x = V.int z) ?_ (fun rest => ?_)
      · rintro x ⟨z, rfl⟩
        walk_at "rd"
        refine U.ited (fun z2 => ?_) (fun z2 => ?_)
        · walk_at "rd"
          refine k _ _ (Int.emod_nonneg _ (by omega)) (Int.emod_lt_of_pos _ hn0) ⟨ns, _, _, _, upd_same, by walk_at "hp", hac, by omega, Int.emod_nonneg _ (by decide), Int.lt_trans (Int.emod_lt_of_pos _ (by decide)) (by decide)⟩ But.of.up
        · walk_at "rd"
          refine k _ _ (Int.emod_nonneg _ (by omega)) (Int.emod_lt_of_pos _ hn0) ⟨ns, _, _, _, upd_same, by walk_at "hp", hac, by omega, hs0, hs1⟩ But.of.up.up
      · refine U.i_ifE ?_
        walk_at "rd"
        refine U.ited (fun z2 => ?_) (fun z2 => ?_)
        · walk_at "rd"
          rw [List.length_map] at z2
          obtain ⟨z, hz, _⟩ := U.atI_ints (ns := ns) (i := i + 1 - 1) (by omega) (by omega)
          refine U.i_ixL (SqL.of (by walk_at "hp")) hz ?_
          exact rest _ ⟨z, rfl⟩
        · exact U.i_c (rest _ ⟨0, rfl⟩)
    · walk_at "rd"
      refine k _ _ (Int.emod_nonneg _ (by omega)) (Int.emod_lt_of_pos _ hn0) ⟨ns, _, _, _, upd_same, by walk_at "hp", hac, by omega, hs0, hs1⟩ But.of
theorem sc_bag : FnScope ["_law_script", "_law_cells", "_law_salt", "_law_one"] ["_law_script"] (defScope (top 77)) := ⟨rfl, rfl, rfl, by decide +kernel, rfl, by decide +kernel, by decide +kernel⟩
theorem ok_bag (T : Txt P w K mg A) : U.Cl P w K mg base 1 "_law_bag" (spBag K) [] := by
  refine T.d_law_bag.ok sc_bag (fun vs H Q E h => ?_) (fun f cdv Ar outer s H vs Q E hr h => ?_)
  · obtain ⟨a, ns, rfl, hS, hl, k⟩ := h
    rfl
  · obtain ⟨a, ns, rfl, hS, hl, k⟩ := h
    refine ⟨_, (pss_cons (ps_set (i := 1) sc_bag.nd rfl (Or.inl rfl) (pe_callTy U.u_listOf (by rfl) T.list (by decide +kernel) (pa_cons (pe_slice sl_list (pv 0) po_none (po_some pe_int)) pa_nil)))
    (pss_cons (ps_set (i := 2) sc_bag.nd rfl (Or.inl rfl) (pe_op U.u_add pe_int (pe_callB U.u_len (by rfl) T.len PySem.boot_len (pa_cons (pv 1) pa_nil))))
    (pss_cons (ps_for (passes_of (by exact rfl)) (by exact rfl) (pi_list (pv 1)) (pg_name (i := 3) sc_bag.nd rfl (Or.inl rfl))
    (pss_one (ps_set (i := 2) sc_bag.nd rfl (Or.inl rfl) (pe_op U.u_mod (pe_op U.u_add (pe_op U.u_add (pe_op U.u_mul (pv 2) pe_int) (pe_op U.u_mod (pe_callB U.u_abs (by rfl) T.abs (by decide +kernel) (pa_cons (pv 3) pa_nil)) pe_int)) (pe_op U.u_mul pe_int (pe_callTy U.u_intB (by rfl) T.int (by decide +kernel) (pa_cons (pe_cmpR U.u_lt (pv 3) pe_int (nomark _)) pa_nil)))) pe_int))))
    (pss_one (ps_ret (pe_lst (pa_cons (pv 1) (pa_cons pe_int (pa_cons pe_int (pa_cons (pv 2) pa_nil)))))))))), ?_⟩
    walk_at "rd"
    refine U.i_slL hS ?_
    walk_at "lay"
    walk_at "rd"
    rename_i l1 hl1 H1 s1 o1 l2 hl2 H2 s2 o2
    have e0 : cutV (ns.map V.int) none (some 63) = ns.map V.int := by
      have := U.cut_take' (xs := ns.map V.int) (q := 63) (by rw [List.length_map]; omega)
      exact this
    rw [e0] at o2
    refine for_it walk_list (fun i σ H' => ∃ (z : Int) (v : Option V), σ = [some (.ref a), some (.ref l2), some (.int z), v] ∧ Same H2 H' ∧ 0 ≤ z ∧ z < 2147483629) ⟨7 + (ns.length : Int), none, by rw [e0, List.length_map]; rfl, Same.refl _, by omega, by omega⟩ (fun _ _ _ _ ⟨_, _, _, h, _⟩ => SqL.of (h _ _ o2)) ?_ ?_
    · rintro i x σ H3 H4 hi ⟨z, v, rfl, s3, z0, z1⟩ ⟨rfl, hx⟩
      obtain ⟨rfl, _⟩ := U.mig hx
      walk_at "rd"
      exact ⟨_, _, rfl, s3, Int.emod_nonneg _ (by decide), Int.emod_lt_of_pos _ (by decide)⟩
    · rintro σ H3 ⟨z, v, rfl, s3, z0, z1⟩
      walk_at "rd"
      rename_i b hb H4 s4 o4
      have o2' := s4 _ _ (s3 _ _ o2)
      have ne : b ≠ l2 := fun e => by rw [e, s3 _ _ o2] at hb; cases hb
      exact k b l2 H4 (s1.free (s2.free (s3.free hb))) (s1.free hl2) (((s1.trans s2).trans s3).trans s4) ⟨ns, 0, 0, z, o4, o2', ne, by omega, z0, z1⟩
theorem sc_size : FnScope ["_law_bag_here"] ["_law_bag_here"] (defScope (top 88)) := ⟨rfl, rfl, rfl, by decide +kernel, rfl, by decide +kernel, by decide +kernel⟩
theorem ok_size (T : Txt P w K mg A) : U.Cl P w K mg base 2 "_law_size" spSize [] := by
  obtain ⟨_, _, _, F_pull, g_pull, k_pull, bd_pull⟩ := (ok_pull (P := P) (w := w) (base := base) T).ex
  obtain ⟨_, d_pull, b_pull⟩ := bd_pull 0 (by decide)
  refine T.d_law_size.ok sc_size (fun vs H Q E h => ?_) (fun f cdv Ar outer s H vs Q E hr h => ?_)
  · obtain ⟨a, c, rfl, hb, k⟩ := h
    rfl
  · obtain ⟨a, c, rfl, hb, k⟩ := h
    refine ⟨_, (pss_one (ps_ret (pe_ix ix_tup (pe_tup (pa_cons pe_int (pa_cons pe_int (pa_cons pe_int (pa_cons pe_int (pa_cons pe_int (pa_cons pe_int (pa_cons pe_int (pa_cons pe_int (pa_cons pe_int (pa_cons pe_int pa_nil))))))))))) (pe_call F_pull (hr.mono (by decide)) rfl g_pull k_pull b_pull d_pull U.passN (pa_cons (pv 0) (pa_cons pe_int pa_nil))) (fun _ _ => rfl)))), ?_⟩
    walk_at "rd"
    rename_i t ht H1 s1 o1
    have ha : a ≠ t := fun e => by obtain ⟨ns, i, l, s, h1, _⟩ := hb; rw [e, ht] at h1; cases h1
    refine ⟨a, c, 10, rfl, hb.same s1, by decide, by decide, fun r H2 r0 r1 hb2 bt => ?_⟩
    have ot := bt _ _ o1 (Ne.symm ha)
    have e : [V.int 2, V.int 3, V.int 4, V.int 5, V.int 7, V.int 8, V.int 9, V.int 11, V.int 13, V.int 16] = FM.sizes.map V.int := rfl
    rw [e] at ot
    refine U.i_ixT (SqT.of ot) (U.atI_of (j := r.toNat) (by omega) (U.mig' (by show r.toNat < 10; omega))) ?_
    refine k _ _ ?_ hb2 (fun b o h n => bt _ _ (s1 _ _ h) n)
    rw [List.getD_eq_getElem?_getD, List.getElem?_eq_getElem (by show r.toNat < 10; omega)]
    exact List.getElem_mem _
theorem sc_fsize : FnScope ["self"] ["self"] (defScope (inClass (top 34) 5)) := ⟨rfl, rfl, rfl, by decide +kernel, rfl, by decide +kernel, by decide +kernel⟩
theorem ok_fsize (T : Txt P w K mg A) : U.Mt P w K mg base 1 A.Field "size" (spGetN A fun n => n) [] := by
  refine T.m_Field_size.ok sc_fsize (fun vs H Q E h => ?_) (fun f cdv Ar outer s H vs Q E hr h => ?_)
  · obtain ⟨p, n, rfl, ⟨hn, dx, hp⟩, k⟩ := h
    rfl
  · obtain ⟨p, n, rfl, ⟨hn, dx, hp⟩, k⟩ := h
    have cF := T.c_Field
    have n1 := T.na_Field_many
    have n2 := T.na_Field_prime
    have n3 := T.na_Field_places
    have sr := FM.size_rng hn
    have br := FM.base_rng hn
    have pr := FM.places_rng hn
    refine ⟨_, (pss_one (ps_ret (pe_fld (pv 0) rfl))), ?_⟩
    walk_at "rd"
    exact k
theorem sc_grown : FnScope ["one", "many", "found", "turn"] ["one", "many"] (defScope (top 33)) := ⟨rfl, rfl, rfl, by decide +kernel, rfl, by decide +kernel, by decide +kernel⟩
theorem ok_grown (T : Txt P w K mg A) : U.Cl P w K mg base 1 "grown" spGrown [] := by
  refine T.d_grown.ok sc_grown (fun vs H Q E h => ?_) (fun f cdv Ar outer s H vs Q E hr h => ?_)
  · obtain ⟨a, m, rfl, ha0, ha1, hm, k⟩ := h
    rfl
  · obtain ⟨a, m, rfl, ha0, ha1, hm, k⟩ := h
    refine ⟨_, (pss_cons (ps_set (i := 2) sc_grown.nd rfl (Or.inl rfl) pe_int)
    (pss_cons (ps_for (passes_of (by exact rfl)) (by exact rfl) (pi_range1 (by rfl) T.range (pa_cons (pv 1) pa_nil)) (pg_name (i := 3) sc_grown.nd rfl (Or.inl rfl))
    (pss_one (ps_aug (i := 2) sc_grown.nd rfl (Or.inl rfl) (pv 0) U.ip_mul)))
    (pss_one (ps_ret (pv 2))))), ?_⟩
    walk_at "rd"
    refine for_it walk_range (fun i σ H' => ∃ v, σ = [some (.int a), some (.int (m : Nat)), some (.int (a ^ i)), v] ∧ H' = H) ⟨none, by rw [Int.pow_zero]; rfl, rfl⟩ (fun _ _ _ _ _ => trivial) ?_ ?_
    · rintro i x σ H1 H2 hi ⟨v, rfl, rfl⟩ ⟨rfl, rfl⟩
      walk_at "rd"
      exact ⟨_, by rw [Int.pow_succ]; rfl, rfl⟩
    · rintro σ H1 ⟨v, rfl, rfl⟩
      walk_at "rd"
      exact k
theorem sc_init : FnScope ["self", "size", "base"] ["self", "size"] (defScope (inClass (top 34) 0)) := ⟨rfl, rfl, rfl, by decide +kernel, rfl, by decide +kernel, by decide +kernel⟩
theorem ok_init (T : Txt P w K mg A) : U.Nw P w K mg base 2 "Field" A.Field (spInit A) [V.int 16] := by
  obtain ⟨_, _, _, F_grown, g_grown, k_grown, bd_grown⟩ := (ok_grown (P := P) (w := w) (base := base) T).ex
  obtain ⟨_, d_grown, b_grown⟩ := bd_grown 0 (by decide)
  refine T.n_Field.ok sc_init (fun vs H Q E h => ?_) (fun f cdv Ar outer s H vs Q E hr h => ?_)
  · obtain ⟨p, dx, n, rfl, hp, kq, ke⟩ := h
    rfl
  · obtain ⟨p, dx, n, rfl, hp, kq, ke⟩ := h
    refine ⟨_, (pss_cons (ps_if (pt_cmpR op_notIn_seq (pv 1) (U.pe_gref rfl T.g_SIZES) (by rfl))
    (pss_one (U.ps_raise0 rfl (L2N.takes_of rfl rfl rfl rfl) T.e_BadSize))
    pss_nil)
    (pss_cons (ps_fld (pv 0) (pv 1) rfl)
    (pss_cons (ps_fld (pv 0) (pe_ix ix_list (pe_lc (own := [("base", 2)]) (g := (gName 2)) (by exact rfl) sc_init.nd (pi_tup (U.pe_gref rfl T.g_BASES)) (blkOk_by (own := [("base", 2)]) (N := ["self", "size", "base"]) (sc := defScope (inClass (top 34) 0)) (by decide +kernel)) (fun _ _ _ _ _ => (pg_name (i := 2) sc_init.nd rfl (Or.inl rfl))) (fun _ _ _ _ _ => pts_one (pt_cmpR op_eq (pe_op U.u_mod (pv 1) (pv 2)) pe_int (nomark _))) (fun _ _ _ _ _ => (pv 2))) pe_int (fun _ _ => rfl)) rfl)
    (pss_cons (ps_fld (pv 0) pe_int rfl)
    (pss_one (ps_while (passes_of (by exact rfl)) (pt_cmpR U.u_lt (pe_call F_grown (hr.mono (by decide)) rfl g_grown k_grown b_grown d_grown U.passN (pa_cons (pe_fld (pv 0) rfl) (pa_cons (pe_fld (pv 0) rfl) pa_nil))) (pv 1) (nomark _))
    (pss_one (ps_fldaug (pv 0) pe_int in_add)))))))), ?_⟩
    walk_at "rd"
    refine U.i_in (.inr (T.s_SIZES H)) rfl rfl ?_
    refine U.i_bl ?_
    have eIn : (inV (.int n) [V.int 2, V.int 3, V.int 4, V.int 5, V.int 7, V.int 8, V.int 9, V.int 11, V.int 13, V.int 16]) = decide (n ∈ FM.sizes) := by
      rw [Bool.eq_iff_iff, decide_eq_true_iff]
      show List.any _ _ = true ↔ _
      unfold FM.sizes
      simp only [List.any_cons, List.any_nil, Bool.or_false, Bool.or_eq_true, eqV, List.mem_cons, List.not_mem_nil, or_false, beq_iff_eq, decide_eq_true_iff]
      constructor <;> (intro h; omega)
    show (if (!inV _ _) = true then _ else _)
    rw [eIn]
    refine U.itedn (fun hn => ke hn) (fun hn => ?_)
    have cF := T.c_Field
    have n1 := T.na_Field_many
    have n2 := T.na_Field_prime
    have n3 := T.na_Field_places
    have sr := FM.size_rng hn
    have br := FM.base_rng hn
    have pr := FM.places_rng hn
    have kq := kq hn
    walk_at "rd"
    refine U.i_ptup' (T.s_BASES _) ?_
    intro D hD
    have hpD : p ≠ D := fun e => by rw [← e, upd_same] at hD; cases hD
    refine lc_it walk_tup (fun i H' => Same (upd H p (.ins A.Field dx [("many", V.int n)])) H' ∧ H' D = some (.lst ((FM.basP n i).map V.int))) ⟨same_new hD, upd_same⟩ (fun _ _ _ _ => T.s_BASES _) ?_ ?_
    · rintro i x H3 H4 hi ⟨s3, o3⟩ ⟨rfl, hx⟩
      have e : [V.int 2, V.int 3, V.int 5, V.int 7, V.int 11, V.int 13] = FM.basesL.map V.int := rfl
      rw [e] at hx
      obtain ⟨rfl, hi2⟩ := U.mig hx
      have hb0 : 0 < FM.basesL.getD i 0 := by
        have : i < 6 := hi2
        have h6 : i = 0 ∨ i = 1 ∨ i = 2 ∨ i = 3 ∨ i = 4 ∨ i = 5 := by omega
        rcases h6 with h | h | h | h | h | h <;> subst h <;> decide
      have bl := FM.basP_len n i
      have tk : FM.basesL.take (i + 1) = FM.basesL.take i ++ [FM.basesL.getD i 0] := U.take_succ_of (by rw [List.getD_eq_getElem?_getD, List.getElem?_eq_getElem hi2]; rfl)
      walk_at "rd"
      refine ⟨rfl, ?_⟩
      walk_at "rd"
      refine U.ited (fun z => ?_) (fun z => ?_)
      · walk_at "rd"
        refine ⟨_, o3, small1000 (by rw [List.length_map]; omega), same_own s3 hD, ?_⟩
        unfold FM.basP
        rw [tk, List.filter_append, List.filter_cons_of_pos (by simpa using z), List.filter_nil, List.map_append]
        exact upd_same
      · refine ⟨s3, ?_⟩
        unfold FM.basP
        rw [tk, List.filter_append, List.filter_cons_of_neg (by simpa using z), List.filter_nil, List.append_nil]
        exact o3
    · rintro H3 ⟨s3, o3⟩
      have hp3 : H3 p = some (.ins A.Field dx [("many", V.int n)]) := s3 _ _ upd_same
      have eb := FM.basP_end hn
      walk_at "rd"
      refine U.i_ixL (SqL.of o3) (U.atI_of (j := 0) rfl (by show ((FM.basP n 6).map V.int)[0]? = _; rw [List.getElem?_map, eb]; rfl)) ?_
      walk_at "rd"
      refine ⟨fun m σ H' => ∃ k : Nat, m = FM.places n - k ∧ 1 ≤ k ∧ k ≤ FM.places n ∧ σ = [some (.ref p), some (.int n), none] ∧ H' p = some (.ins A.Field dx [("many", V.int n), ("prime", V.int (FM.base n)), ("places", V.int (k : Nat))]) ∧ (∀ b o, H b = some o → b ≠ p → H' b = some o), ⟨FM.places n - 1, 1, rfl, Nat.le_refl _, pr.1, rfl, upd_same, ?_⟩, ?_⟩
      · intro b o h ne
        refine upd_ne'' ne (upd_ne'' ne (s3 _ _ (upd_ne'' ne h)))
      · rintro m σ H4 ⟨j, rfl, j1, j2, rfl, hp4, kp⟩
        have pl := FM.pow_lt hn j1 j2
        walk_at "rd"
        refine ⟨FM.base n, j, rfl, by omega, by omega, by omega, ?_⟩
        walk_at "rd"
        refine U.ited (fun z => ?_) (fun z => ?_)
        · refine ⟨fun σ' H' => ∃ m', m' < FM.places n - j ∧ ∃ k : Nat, m' = FM.places n - k ∧ 1 ≤ k ∧ k ≤ FM.places n ∧ σ' = [some (.ref p), some (.int n), none] ∧ H' p = some (.ins A.Field dx [("many", V.int n), ("prime", V.int (FM.base n)), ("places", V.int (k : Nat))]) ∧ (∀ b o, H b = some o → b ≠ p → H' b = some o), fun _ _ h => h, ?_⟩
          have hj := pl.mp z
          walk_at "rd"
          exact ⟨FM.places n - (j + 1), by omega, j + 1, rfl, by omega, by omega, rfl, upd_same, fun b o h ne => upd_ne'' ne (kp b o h ne)⟩
        · have hj : j = FM.places n := by
            have := mt pl.mpr z
            omega
          subst hj
          exact kq _ kp ⟨hn, dx, hp4⟩
theorem sc_whole : FnScope ["_law_one"] ["_law_one"] (defScope (top 91)) := ⟨rfl, rfl, rfl, by decide +kernel, rfl, by decide +kernel, by decide +kernel⟩
theorem ok_whole (T : Txt P w K mg A) : U.Cl P w K mg base 1 "_law_whole" spWhole [] := by
  refine T.d_law_whole.ok sc_whole (fun vs H Q E h => ?_) (fun f cdv Ar outer s H vs Q E hr h => ?_)
  · obtain ⟨i, rfl, k⟩ := h
    rfl
  · obtain ⟨i, rfl, k⟩ := h
    refine ⟨_, (pss_one (ps_ret (pe_and (pe_callB call_isi (by rfl) T.isinstance (by decide +kernel) (pa_cons (pv 0) (pa_cons (pe_bltn (v := .ty "int") (by rfl) T.int (by decide +kernel) rfl) pa_nil))) (pe_one (pe_not (pe_callB call_isi (by rfl) T.isinstance (by decide +kernel) (pa_cons (pv 0) (pa_cons (pe_bltn (v := .ty "bool") (by rfl) T.bool (by decide +kernel) rfl) pa_nil)))))))), ?_⟩
    walk_at "al"
    exact k

theorem sc_alike : FnScope ["_law_found", "_law_due", "_law_name", "_law_at"] ["_law_found", "_law_due"] (defScope (top 75)) := ⟨rfl, rfl, rfl, by decide +kernel, rfl, by decide +kernel, by decide +kernel⟩
theorem ok_alike (T : Txt P w K mg A) : ∀ n, U.Cl P w K mg base (n + 1) "_law_alike" (spAlike n) []
  | 0 => T.d_law_alike.ok sc_alike (fun vs H Q E h => h.elim) (fun f cdv Ar outer s H vs Q E hr h => h.elim)
  | n + 1 => by
    obtain ⟨_, _, _, F_al, g_al, k_al, bd_al⟩ := (ok_alike T n).ex
    obtain ⟨_, d_al, b_al⟩ := bd_al 0 (by decide)
    obtain ⟨_, _, _, F_wh, g_wh, k_wh, bd_wh⟩ := (ok_whole (base := base) T).ex
    obtain ⟨_, d_wh, b_wh⟩ := bd_wh 0 (by decide)
    refine T.d_law_alike.ok sc_alike (fun vs H Q E h => ?_) (fun f cdv Ar outer s H vs Q E hr h => ?_)
    · obtain ⟨x, y, rfl, _⟩ := h
      rfl
    obtain ⟨x, y, rfl, dt, k⟩ := h
    refine ⟨_, (pss_cons (ps_if (PW.pt (pw_or (pt_cmpR op_isN1 (pv 1) pe_non (nomark _)) (pw_or1 (pt_cmpR op_isN1 (pv 0) pe_non (nomark _)))))
    (pss_one (ps_ret (pe_and (pe_cmpR op_isN1 (pv 0) pe_non (nomark _)) (pe_one (pe_cmpR op_isN1 (pv 1) pe_non (nomark _))))))
    pss_nil)
    (pss_cons (ps_if (pt_val (pe_callB call_isi (by rfl) T.isinstance (by decide +kernel) (pa_cons (pv 1) (pa_cons (pe_bltn (v := .ty "bool") (by rfl) T.bool (by decide +kernel) rfl) pa_nil))))
    (pss_one (ps_ret (pe_and (pe_callB call_isi (by rfl) T.isinstance (by decide +kernel) (pa_cons (pv 0) (pa_cons (pe_bltn (v := .ty "bool") (by rfl) T.bool (by decide +kernel) rfl) pa_nil))) (pe_one (pe_cmpR op_eq (pv 0) (pv 1) (nomark _))))))
    pss_nil)
    (pss_cons (ps_if (pt_val (pe_callB call_isi (by rfl) T.isinstance (by decide +kernel) (pa_cons (pv 1) (pa_cons (pe_bltn (v := .ty "int") (by rfl) T.int (by decide +kernel) rfl) pa_nil))))
    (pss_one (ps_ret (pe_and (pe_call F_wh (hr.mono (by omega)) rfl g_wh k_wh b_wh d_wh U.passN (pa_cons (pv 0) pa_nil)) (pe_one (pe_cmpR op_eq (pv 0) (pv 1) (nomark _))))))
    pss_nil)
    (pss_cons (ps_if (pt_val (pe_callB call_isi (by rfl) T.isinstance (by decide +kernel) (pa_cons (pv 1) (pa_cons (pe_bltn (v := .ty "str") (by rfl) T.str (by decide +kernel) rfl) pa_nil))))
    (pss_one (ps_ret (pe_and (pe_callB call_isi (by rfl) T.isinstance (by decide +kernel) (pa_cons (pv 0) (pa_cons (pe_bltn (v := .ty "str") (by rfl) T.str (by decide +kernel) rfl) pa_nil))) (pe_one (pe_cmpR op_eq (pv 0) (pv 1) (nomark _))))))
    pss_nil)
    (pss_cons (ps_if (pt_val (pe_callB call_isi (by rfl) T.isinstance (by decide +kernel) (pa_cons (pv 1) (pa_cons (pe_bltn (v := .ty "dict") (by rfl) T.dict (by decide +kernel) rfl) pa_nil))))
    (pss_cons ps_never
    (pss_one ps_never))
    pss_nil)
    (pss_cons (ps_if (PW.pt (pw_or (pt_cmpR op_ne (pe_callB call_isi (by rfl) T.isinstance (by decide +kernel) (pa_cons (pv 1) (pa_cons (pe_bltn (v := .ty "list") (by rfl) T.list (by decide +kernel) rfl) pa_nil))) (pe_callB call_isi (by rfl) T.isinstance (by decide +kernel) (pa_cons (pv 0) (pa_cons (pe_bltn (v := .ty "list") (by rfl) T.list (by decide +kernel) rfl) pa_nil))) (nomark _)) (pw_or1 (pt_cmpR op_ne (pe_callB call_isi (by rfl) T.isinstance (by decide +kernel) (pa_cons (pv 1) (pa_cons (pe_bltn (v := .ty "tuple") (by rfl) T.tuple (by decide +kernel) rfl) pa_nil))) (pe_callB call_isi (by rfl) T.isinstance (by decide +kernel) (pa_cons (pv 0) (pa_cons (pe_bltn (v := .ty "tuple") (by rfl) T.tuple (by decide +kernel) rfl) pa_nil))) (nomark _)))))
    (pss_one (ps_ret pe_bl))
    pss_nil)
    (pss_one (ps_ret (pe_and (pe_cmpR op_eq (pe_callB U.u_len (by rfl) T.len PySem.boot_len (pa_cons (pv 0) pa_nil)) (pe_callB U.u_len (by rfl) T.len PySem.boot_len (pa_cons (pv 1) pa_nil)) (nomark _)) (pe_one (pe_callB (cr_all rfl) (by rfl) T.all (by decide +kernel) (pa_cons (pe_lc (own := [("_law_at", 3)]) (g := (gName 3)) (tt := tYes) (by exact rfl) sc_alike.nd (pi_range1 (by rfl) T.range (pa_cons (pe_callB U.u_len (by rfl) T.len PySem.boot_len (pa_cons (pv 1) pa_nil)) pa_nil)) (blkOk_by (own := [("_law_at", 3)]) (N := ["_law_found", "_law_due", "_law_name", "_law_at"]) (sc := defScope (top 75)) (by decide +kernel)) (fun _ _ _ _ _ => (pg_name (i := 3) sc_alike.nd rfl (Or.inl rfl))) (fun _ _ _ _ _ => pts_nil) (fun _ _ _ _ _ => (pe_call F_al (hr.mono (by omega)) rfl g_al k_al b_al d_al U.passN (pa_cons (pe_ix (U.ixS K rfl) (pv 0) (pv 3) (fun _ _ => rfl)) (pa_cons (pe_ix (U.ixS K rfl) (pv 1) (pv 3) (fun _ _ => rfl)) pa_nil))))) pa_nil)))))))))))), ?_⟩
    cases dt with
    | non =>
      walk_at "al"
      exact k _ (Same.refl _)
    | int i =>
      walk_at "al"
      refine ⟨i, rfl, ?_⟩
      walk_at "al"
      rw [decide_eq_true rfl]
      exact k _ (Same.refl _)
    | str t =>
      walk_at "al"
      exact k _ (Same.refl _)
    | bl b =>
      walk_at "al"
      exact k _ (Same.refl _)
    | @lst n1 p q xs ys h1 h2 hl hz all =>
      walk_at "al"
      refine U.iteTd (by rw [hl]) ?_
      walk_at "al"
      intro D hD
      refine lc_it (walk_range (n := ys.length)) (fun i H' => Same H H' ∧ H' D = some (.lst ((List.replicate i true).map V.bl))) ⟨same_new hD, upd_same⟩ (fun _ _ _ _ => trivial) ?_ ?_
      · rintro i z H3 H4 hi ⟨s3, o3⟩ ⟨rfl, rfl⟩
        walk_at "rd"
        refine ⟨rfl, ?_⟩
        walk_at "rd"
        have xi : xs[i]? = some (xs[i]'(by omega)) := List.getElem?_eq_getElem (by omega)
        have yi : ys[i]? = some (ys[i]'hi) := List.getElem?_eq_getElem hi
        have iz : (0 + ((i : Nat) : Int)) = (i : Int) := by omega
        refine .inl (U.i_ixL (SqL.of (s3 _ _ h1)) (U.atI_of iz xi) ?_)
        walk_at "rd"
        refine .inl (U.i_ixL (SqL.of (s3 _ _ h2)) (U.atI_of iz yi) ?_)
        walk_at "rd"
        refine ⟨_, _, rfl, (all i _ _ xi yi).same s3, fun H5 s5 => ?_⟩
        walk_at "rd"
        refine ⟨_, s5 _ _ o3, small1000 (by rw [List.length_map, List.length_replicate]; omega), same_own (s3.trans s5) hD, ?_⟩
        rw [List.replicate_succ', List.map_append]
        exact upd_same
      · rintro H3 ⟨s3, o3⟩
        walk_at "rd"
        refine ⟨D, _, rfl, SqL.of o3, ?_⟩
        rw [show (List.replicate ys.length true).all id = true by simp]
        exact k _ s3
    | @tup n1 p q xs ys h1 h2 hl hz all =>
      walk_at "al"
      refine U.iteTd (by rw [hl]) ?_
      walk_at "al"
      intro D hD
      refine lc_it (walk_range (n := ys.length)) (fun i H' => Same H H' ∧ H' D = some (.lst ((List.replicate i true).map V.bl))) ⟨same_new hD, upd_same⟩ (fun _ _ _ _ => trivial) ?_ ?_
      · rintro i z H3 H4 hi ⟨s3, o3⟩ ⟨rfl, rfl⟩
        walk_at "rd"
        refine ⟨rfl, ?_⟩
        walk_at "rd"
        have xi : xs[i]? = some (xs[i]'(by omega)) := List.getElem?_eq_getElem (by omega)
        have yi : ys[i]? = some (ys[i]'hi) := List.getElem?_eq_getElem hi
        have iz : (0 + ((i : Nat) : Int)) = (i : Int) := by omega
        refine .inr (.inl (U.i_ixT (SqT.of (s3 _ _ h1)) (U.atI_of iz xi) ?_))
        walk_at "rd"
        refine .inr (.inl (U.i_ixT (SqT.of (s3 _ _ h2)) (U.atI_of iz yi) ?_))
        walk_at "rd"
        refine ⟨_, _, rfl, (all i _ _ xi yi).same s3, fun H5 s5 => ?_⟩
        walk_at "rd"
        refine ⟨_, s5 _ _ o3, small1000 (by rw [List.length_map, List.length_replicate]; omega), same_own (s3.trans s5) hD, ?_⟩
        rw [List.replicate_succ', List.map_append]
        exact upd_same
      · rintro H3 ⟨s3, o3⟩
        walk_at "rd"
        refine ⟨D, _, rfl, SqL.of o3, ?_⟩
        rw [show (List.replicate ys.length true).all id = true by simp]
        exact k _ s3

local macro_rules | `(tactic| walk_at "kd") => `(tactic| (repeat (first
  | walk_at "rd1"
  | ((with_reducible refine' U.i_isE ?hx ?_); (case hx => assumption))
  | ((with_reducible refine' U.i_cat ?hx ?hy ?hz ?_); (case hx => walk_at "hp"); (case hy => walk_at "hp"); (case hz => (show _ ≤ PySem.sizeLine; rw [PySem.sizeLine_eq]; simp only [List.length_append, List.length_cons, List.length_nil]; omega)); walk_at "lay")
  | fail "kd")))
local macro_rules | `(tactic| walk_at "sm") => `(tactic| first
  | assumption
  | ((with_reducible refine' L2.Same.trans ?hx ?hy); (case hy => assumption); (case hx => walk_at "sm"))
  | fail "sm")
local macro_rules | `(tactic| walk_at "prs") => `(tactic| (repeat (first
  | (with_reducible refine' U.Prs.append ?_ ?_)
  | ((with_reducible refine' U.Prs.con ?hx ?_); (case hx => walk_at "hp"))
  | (with_reducible exact U.Prs.nil)
  | fail "prs")))

theorem sc_kind : FnScope ["_law_e", "_law_marks", "_law_word", "_law_so"] ["_law_e"] (defScope (top 83)) := ⟨rfl, rfl, rfl, by decide +kernel, rfl, by decide +kernel, by decide +kernel⟩
theorem held_kind (T : Txt P w K mg A) {D a : Addr} {o : Obj} {b0 b1 b2 b3 b4 b5 b6 b7 b8 b9 b10 b11 b12 b13 b14 b15 b16 b17 b18 b19 b20 b21 b22 : Bool} (kd : Kinds K A D b0 b1 b2 b3 b4 b5 b6 b7 b8 b9 b10 b11 b12 b13 b14 b15 b16 b17 b18 b19 b20 b21 b22) (z : Zc (.ref D) none o) (fl : ∃ vs, o.data = .fields vs) {Ar : Around} {outer : List Env} (hot : L2H.Hot1 Ar (a, o)) {s : Shared} {H : Hp} {Q : VK} {f : Addr} {cdv : Value}
    (q : ∀ H', Same H H' → Q (.str (Txt.join (PySem.Str.ofString " ") (U.words (marks b0 b1 b2 b3 b4 b5 b6 b7 b8 b9 b10 b11 b12 b13 b14 b15 b16 b17 b18 b19 b20 b21 b22)))) H') :
    ∃ u, PSs (L2H.cxH C8.CX0 P w K mg base ["_law_e", "_law_marks", "_law_word", "_law_so"] "_law_kind" (defScope (top 83)) f cdv Ar outer s H C8.E0 (a, o)) (defBody (top 83)) u ∧ u { nx := fun _ H' => Q .non H', rt := Q } (L2.start ["_law_e", "_law_marks", "_law_word", "_law_so"] [.ref a]) H := by
  have hotX : L2H.HotC (L2H.cxH C8.CX0 P w K mg base ["_law_e", "_law_marks", "_law_word", "_law_so"] "_law_kind" (defScope (top 83)) f cdv Ar outer s H C8.E0 (a, o)) := ⟨(a, o), ⟨hot.1, hot.2⟩, List.mem_cons_self⟩
  have e0 := kd.exc
  have k0 := kd.k0
  have k1 := kd.k1
  have k2 := kd.k2
  have k3 := kd.k3
  have k4 := kd.k4
  have k5 := kd.k5
  have k6 := kd.k6
  have k7 := kd.k7
  have k8 := kd.k8
  have k9 := kd.k9
  have k10 := kd.k10
  have k11 := kd.k11
  have k12 := kd.k12
  have k13 := kd.k13
  have k14 := kd.k14
  have k15 := kd.k15
  have k16 := kd.k16
  have k17 := kd.k17
  have k18 := kd.k18
  have k19 := kd.k19
  have k20 := kd.k20
  have k21 := kd.k21
  have k22 := kd.k22
  refine ⟨_, (pss_cons (ps_set (i := 1) sc_kind.nd rfl (Or.inl rfl) (pe_lst (pa_cons (pe_tup (pa_cons pe_str (pa_cons (pe_callB (U.call_held kd.exc List.mem_cons_self z fl) (by rfl) T.isinstance (by decide +kernel) (pa_cons (pv 0) (pa_cons (U.pe_gref rfl T.gx_BadSize) pa_nil))) pa_nil))) (pa_cons (pe_tup (pa_cons pe_str (pa_cons (pe_callB (U.call_held kd.exc List.mem_cons_self z fl) (by rfl) T.isinstance (by decide +kernel) (pa_cons (pv 0) (pa_cons (U.pe_gref rfl T.gx_BadNumber) pa_nil))) pa_nil))) pa_nil))))
    (pss_cons (ps_set (i := 1) sc_kind.nd rfl (Or.inl rfl) (pe_op op_cat (pv 1) (pe_lst (pa_cons (pe_tup (pa_cons pe_str (pa_cons (pe_callB (U.call_held kd.exc List.mem_cons_self z fl) (by rfl) T.isinstance (by decide +kernel) (pa_cons (pv 0) (pa_cons (U.pe_gref rfl T.gx_BadRow) pa_nil))) pa_nil))) (pa_cons (pe_tup (pa_cons pe_str (pa_cons (pe_callB (U.call_held kd.exc List.mem_cons_self z fl) (by rfl) T.isinstance (by decide +kernel) (pa_cons (pv 0) (pa_cons (U.pe_gref rfl T.gx_BadName) pa_nil))) pa_nil))) pa_nil)))))
    (pss_cons (ps_set (i := 1) sc_kind.nd rfl (Or.inl rfl) (pe_op op_cat (pv 1) (pe_lst (pa_cons (pe_tup (pa_cons pe_str (pa_cons (pe_callB (U.call_held kd.exc List.mem_cons_self z fl) (by rfl) T.isinstance (by decide +kernel) (pa_cons (pv 0) (pa_cons (U.pe_gref rfl T.gx_BadLine) pa_nil))) pa_nil))) (pa_cons (pe_tup (pa_cons pe_str (pa_cons (pe_callB (U.call_held kd.exc List.mem_cons_self z fl) (by rfl) T.isinstance (by decide +kernel) (pa_cons (pv 0) (pa_cons (U.pe_gref rfl T.gx_BadHearers) pa_nil))) pa_nil))) pa_nil)))))
    (pss_cons (ps_set (i := 1) sc_kind.nd rfl (Or.inl rfl) (pe_op op_cat (pv 1) (pe_lst (pa_cons (pe_tup (pa_cons pe_str (pa_cons (pe_callB (U.call_held kd.exc List.mem_cons_self z fl) (by rfl) T.isinstance (by decide +kernel) (pa_cons (pv 0) (pa_cons (U.pe_gref rfl T.gx_BadLoss) pa_nil))) pa_nil))) (pa_cons (pe_tup (pa_cons pe_str (pa_cons (pe_callB (U.call_held kd.exc List.mem_cons_self z fl) (by rfl) T.isinstance (by decide +kernel) (pa_cons (pv 0) (pa_cons (U.pe_gref rfl T.gx_BadPlan) pa_nil))) pa_nil))) pa_nil)))))
    (pss_cons (ps_set (i := 1) sc_kind.nd rfl (Or.inl rfl) (pe_op op_cat (pv 1) (pe_lst (pa_cons (pe_tup (pa_cons pe_str (pa_cons (pe_callB (U.call_held kd.exc List.mem_cons_self z fl) (by rfl) T.isinstance (by decide +kernel) (pa_cons (pv 0) (pa_cons (U.pe_gref rfl T.gx_BadDeed) pa_nil))) pa_nil))) (pa_cons (pe_tup (pa_cons pe_str (pa_cons (pe_callB (U.call_held kd.exc List.mem_cons_self z fl) (by rfl) T.isinstance (by decide +kernel) (pa_cons (pv 0) (pa_cons (U.pe_gref rfl T.gx_BadText) pa_nil))) pa_nil))) pa_nil)))))
    (pss_cons (ps_set (i := 1) sc_kind.nd rfl (Or.inl rfl) (pe_op op_cat (pv 1) (pe_lst (pa_cons (pe_tup (pa_cons pe_str (pa_cons (pe_callB (U.call_held kd.exc List.mem_cons_self z fl) (by rfl) T.isinstance (by decide +kernel) (pa_cons (pv 0) (pa_cons (U.pe_gref rfl T.gx_Ringed) pa_nil))) pa_nil))) (pa_cons (pe_tup (pa_cons pe_str (pa_cons (pe_callB (U.call_held kd.exc List.mem_cons_self z fl) (by rfl) T.isinstance (by decide +kernel) (pa_cons (pv 0) (pa_cons (U.pe_gref rfl T.gx_Short) pa_nil))) pa_nil))) pa_nil)))))
    (pss_cons (ps_set (i := 1) sc_kind.nd rfl (Or.inl rfl) (pe_op op_cat (pv 1) (pe_lst (pa_cons (pe_tup (pa_cons pe_str (pa_cons (pe_callB (U.call_held kd.exc List.mem_cons_self z fl) (by rfl) T.isinstance (by decide +kernel) (pa_cons (pv 0) (pa_cons (U.pe_gref rfl T.gx_Narrow) pa_nil))) pa_nil))) (pa_cons (pe_tup (pa_cons pe_str (pa_cons (pe_callB (U.call_held kd.exc List.mem_cons_self z fl) (by rfl) T.isinstance (by decide +kernel) (pa_cons (pv 0) (pa_cons (U.pe_gref rfl T.gx_Heavy) pa_nil))) pa_nil))) pa_nil)))))
    (pss_cons (ps_set (i := 1) sc_kind.nd rfl (Or.inl rfl) (pe_op op_cat (pv 1) (pe_lst (pa_cons (pe_tup (pa_cons pe_str (pa_cons (pe_callB (U.call_held kd.exc List.mem_cons_self z fl) (by rfl) T.isinstance (by decide +kernel) (pa_cons (pv 0) (pa_cons (U.pe_gref rfl T.gx_Unsolved) pa_nil))) pa_nil))) (pa_cons (pe_tup (pa_cons pe_str (pa_cons (pe_callB (U.call_held kd.exc List.mem_cons_self z fl) (by rfl) T.isinstance (by decide +kernel) (pa_cons (pv 0) (pa_cons (U.pe_gref rfl T.gx_NoHouse) pa_nil))) pa_nil))) pa_nil)))))
    (pss_cons (ps_set (i := 1) sc_kind.nd rfl (Or.inl rfl) (pe_op op_cat (pv 1) (pe_lst (pa_cons (pe_tup (pa_cons pe_str (pa_cons (pe_callB (U.call_held kd.exc List.mem_cons_self z fl) (by rfl) T.isinstance (by decide +kernel) (pa_cons (pv 0) (pa_cons (U.pe_gref rfl T.gx_NoLine) pa_nil))) pa_nil))) (pa_cons (pe_tup (pa_cons pe_str (pa_cons (pe_callB (U.call_held kd.exc List.mem_cons_self z fl) (by rfl) T.isinstance (by decide +kernel) (pa_cons (pv 0) (pa_cons (U.pe_gref rfl T.gx_Taken) pa_nil))) pa_nil))) (pa_cons (pe_tup (pa_cons pe_str (pa_cons (pe_callB (U.call_held kd.exc List.mem_cons_self z fl) (by rfl) T.isinstance (by decide +kernel) (pa_cons (pv 0) (pa_cons (U.pe_gref rfl T.gx_Full) pa_nil))) pa_nil))) pa_nil))))))
    (pss_cons (ps_set (i := 1) sc_kind.nd rfl (Or.inl rfl) (pe_op op_cat (pv 1) (pe_lst (pa_cons (pe_tup (pa_cons pe_str (pa_cons (pe_callB (U.call_held kd.exc List.mem_cons_self z fl) (by rfl) T.isinstance (by decide +kernel) (pa_cons (pv 0) (pa_cons (U.pe_gref rfl T.gx_InUse) pa_nil))) pa_nil))) (pa_cons (pe_tup (pa_cons pe_str (pa_cons (pe_callB (U.call_held kd.exc List.mem_cons_self z fl) (by rfl) T.isinstance (by decide +kernel) (pa_cons (pv 0) (pa_cons (U.pe_gref rfl T.gx_Told) pa_nil))) pa_nil))) pa_nil)))))
    (pss_cons (ps_set (i := 1) sc_kind.nd rfl (Or.inl rfl) (pe_op op_cat (pv 1) (pe_lst (pa_cons (pe_tup (pa_cons pe_str (pa_cons (pe_callB (U.call_held kd.exc List.mem_cons_self z fl) (by rfl) T.isinstance (by decide +kernel) (pa_cons (pv 0) (pa_cons (U.pe_gref rfl T.gx_NothingLeft) pa_nil))) pa_nil))) (pa_cons (pe_tup (pa_cons pe_str (pa_cons (pe_callB (U.call_held kd.exc List.mem_cons_self z fl) (by rfl) T.isinstance (by decide +kernel) (pa_cons (pv 0) (pa_cons (U.pe_gref rfl T.gx_NoShare) pa_nil))) pa_nil))) pa_nil)))))
    (pss_one (ps_ret (pe_join pe_str (U.pe_pickH hotX (pv 1) rfl (by decide) rfl (by decide) rfl rfl (by decide) rfl rfl (fun _ => rfl)))))))))))))))), ?_⟩
  walk_at "kd"
  refine' ⟨⟨_, rfl⟩, _, rfl, _, marks b0 b1 b2 b3 b4 b5 b6 b7 b8 b9 b10 b11 b12 b13 b14 b15 b16 b17 b18 b19 b20 b21 b22, rfl, Prs.pairs (xs := ?xs) ?pa ?hl, fun r hr => ⟨_, _, U.words (marks b0 b1 b2 b3 b4 b5 b6 b7 b8 b9 b10 b11 b12 b13 b14 b15 b16 b17 b18 b19 b20 b21 b22), rfl, rfl, .inl (SqL.of ?_), marks_len b0 b1 b2 b3 b4 b5 b6 b7 b8 b9 b10 b11 b12 b13 b14 b15 b16 b17 b18 b19 b20 b21 b22, q _ ?_⟩⟩
  case hl => walk_at "hp"
  case pa =>
    show U.Prs _ _ ([(("BadSize" : Str), b0), (("BadNumber" : Str), b1)] ++ [(("BadRow" : Str), b2), (("BadName" : Str), b3)] ++ [(("BadLine" : Str), b4), (("BadHearers" : Str), b5)] ++ [(("BadLoss" : Str), b6), (("BadPlan" : Str), b7)] ++ [(("BadDeed" : Str), b8), (("BadText" : Str), b9)] ++ [(("Ringed" : Str), b10), (("Short" : Str), b11)] ++ [(("Narrow" : Str), b12), (("Heavy" : Str), b13)] ++ [(("Unsolved" : Str), b14), (("NoHouse" : Str), b15)] ++ [(("NoLine" : Str), b16), (("Taken" : Str), b17), (("Full" : Str), b18)] ++ [(("InUse" : Str), b19), (("Told" : Str), b20)] ++ [(("NothingLeft" : Str), b21), (("NoShare" : Str), b22)])
    walk_at "prs"
  · rw [← U.picked_words]
    exact upd_same
  · exact L2.Same.trans (by walk_at "sm") (U.same_new hr)

/-- what comes out of the lambda by an exception, and the word for it -/
def WOut (K : PySem.W.Frag) (A : Ad) (Q : VK) (cls : Value) (d : Option Addr) (H' : Hp) : Prop :=
  (∃ (D : Addr) (b0 b1 b2 b3 b4 b5 b6 b7 b8 b9 b10 b11 b12 b13 b14 b15 b16 b17 b18 b19 b20 b21 b22 : Bool), Kinds K A D b0 b1 b2 b3 b4 b5 b6 b7 b8 b9 b10 b11 b12 b13 b14 b15 b16 b17 b18 b19 b20 b21 b22 ∧ Told K A D ∧ cls = .ref D ∧ d = none ∧ ∀ p H'', Same H' H'' → H'' p = some (.tup [.non, .str (Txt.join (PySem.Str.ofString " ") (U.words (marks b0 b1 b2 b3 b4 b5 b6 b7 b8 b9 b10 b11 b12 b13 b14 b15 b16 b17 b18 b19 b20 b21 b22)))]) → Q (.ref p) H'') ∨
  (∃ (dd : Addr) (s : Str), cls = .ref A.NoHouse ∧ d = some dd ∧ H' dd = some (.xd [("name", .str s)]) ∧ s.length ≤ 1000 ∧ ∀ p H'', Same H' H'' → H'' p = some (.tup [.non, .str (PySem.Str.ofString "NoHouse " ++ s)]) → Q (.ref p) H'') ∨
  (∃ (dd : Addr) (n : Int), cls = .ref A.NoLine ∧ d = some dd ∧ H' dd = some (.xd [("number", .int n)]) ∧ n.natAbs < 10 ^ 60 ∧ ∀ p H'', Same H' H'' → H'' p = some (.tup [.non, .str (PySem.Str.ofString "NoLine " ++ toString n)]) → Q (.ref p) H'') ∨
  (∃ (dd : Addr) (n : Int), cls = .ref A.InUse ∧ d = some dd ∧ H' dd = some (.xd [("number", .int n)]) ∧ n.natAbs < 10 ^ 60 ∧ ∀ p H'', Same H' H'' → H'' p = some (.tup [.non, .str (PySem.Str.ofString "InUse " ++ toString n)]) → Q (.ref p) H'') ∨
  (∃ (dd : Addr) (n : Int), cls = .ref A.BadText ∧ d = some dd ∧ H' dd = some (.xd [("row", .int n)]) ∧ n.natAbs < 10 ^ 60 ∧ ∀ p H'', Same H' H'' → H'' p = some (.tup [.non, .str (PySem.Str.ofString "BadText " ++ toString n)]) → Q (.ref p) H'') ∨
  (∃ (dd : Addr) (n : Int), cls = .ref A.Heavy ∧ d = some dd ∧ H' dd = some (.xd [("tries", .int n)]) ∧ n.natAbs < 10 ^ 60 ∧ ∀ p H'', Same H' H'' → H'' p = some (.tup [.non, .str (PySem.Str.ofString "Heavy " ++ toString n)]) → Q (.ref p) H'')

theorem small_pow {n : Int} (h : n.natAbs < 10 ^ 60) : n.natAbs.log2 < 1920 := by
  rcases Nat.eq_zero_or_pos n.natAbs with e | p
  · rw [e]; decide
  · exact (Nat.log2_lt (by omega)).mpr (Nat.lt_trans h (by decide +kernel))
theorem short_add {s pre : Str} (h : s.length ≤ 1000) (hp : pre.length ≤ 100 := by decide +kernel) : pre.length + s.length ≤ PySem.sizeLine := by
  rw [PySem.sizeLine_eq]
  omega
theorem short_num {n : Int} {pre : Str} (h : n.natAbs < 10 ^ 60) (hp : pre.length ≤ 100 := by decide +kernel) : pre.length + (PySem.Str.ofString (toString n)).length ≤ PySem.sizeLine := by
  have h1 := PySem.int_text_length_le10 (a := n) (k := 60) (by decide) h
  have h2 : (PySem.Str.ofString (toString n)).length = (toString n).length := PySem.ofString_length _
  rw [h2, PySem.sizeLine_eq]
  omega
theorem log_small {n : Int} (h : n.natAbs < 10 ^ 60) : n.natAbs.log2 < 1920 := small_pow h
theorem sc_why : FnScope ["_law_ask_here", "_law_told", "_law_word", "_law_e"] ["_law_ask_here"] (defScope (top 92)) := ⟨rfl, rfl, rfl, by decide +kernel, rfl, by decide +kernel, by decide +kernel⟩
def TTwhy (K : PySem.W.Frag) (A : Ad) : (XK → Hp → VK → Prop) → Hp → VK → Prop := fun tl H Q =>
  tl (WOut K A Q) H (fun v H' => ∀ p H'', Same H' H'' → H'' p = some (.tup [v, .str (PySem.Str.ofString "")]) → Q (.ref p) H'')
theorem why_taker {X : Cx} {r : Nat} (T : Txt X.prog X.w X.K X.mg A) {g : Addr} {cdg : Value} {q : Str} : U.Taker X (r + 2) ["_law_ask_here", "_law_told", "_law_word", "_law_e"] "_law_why" (defScope (top 92)) g cdg (defBody (top 92)) "_law_ask_here" q (TTwhy X.K A) where
  walks s H f c' tl Q act room co h := by
    obtain ⟨fk, fdk, Fk, gk, bk⟩ := T.d_law_kind.ex
    obtain ⟨oc, od, dV, kV, doc, pm, an, cdv, ct, osl, rfl, lk, cd, _, _⟩ := id Fk.ex
    obtain ⟨ds, vd, bd⟩ := bk 0 (Nat.zero_le _)
    cases vd
    refine' ⟨_, pss_cons (ps_set (i := 1) sc_why.nd rfl (Or.inl rfl) pe_non) (pss_cons (ps_set (i := 2) sc_why.nd rfl (Or.inl rfl) pe_str) (pss_cons (U.ps_tryC rfl rfl
      (tb := fun W D σ H => U.tAct f c' q W tl σ H fun v H' => D.nx (σ.set 1 (some v)) H')
      ?hb ?cls) (pss_one (ps_ret (pe_tup (pa_cons (pv 1) (pa_cons (pv 2) pa_nil))))))), ?fin⟩
    case hb =>
      intro W pn xe tk _
      exact pss_one (ps_set (i := 1) sc_why.nd rfl (Or.inl rfl) (act W pn xe _ _ tk))
    case cls =>
      refine' U.clauses_as (X := U.getCx X ["_law_ask_here", "_law_told", "_law_word", "_law_e"] "_law_why" (defScope (top 92)) g cdg s H) (i := 3) rfl rfl sc_why.nd rfl rfl (U.decides_name (X := U.getCx X ["_law_ask_here", "_law_told", "_law_word", "_law_e"] "_law_why" (defScope (top 92)) g cdg s H) (x := "NoHouse") rfl rfl ⟨rfl, rfl, .inl T.gx_NoHouse⟩) (fun a o cls d pn zn fl => pss_one (ps_set (i := 2) sc_why.nd rfl (Or.inl rfl) (pe_op op_add_str pe_str (pe_xf T.xf_NoHouse T.xn_NoHouse zn.zc fl (pv 3))))) ?_
      refine' U.clauses_as (X := U.getCx X ["_law_ask_here", "_law_told", "_law_word", "_law_e"] "_law_why" (defScope (top 92)) g cdg s H) (i := 3) rfl rfl sc_why.nd rfl rfl (U.decides_name (X := U.getCx X ["_law_ask_here", "_law_told", "_law_word", "_law_e"] "_law_why" (defScope (top 92)) g cdg s H) (x := "NoLine") rfl rfl ⟨rfl, rfl, .inl T.gx_NoLine⟩) (fun a o cls d pn zn fl => pss_one (ps_set (i := 2) sc_why.nd rfl (Or.inl rfl) (pe_op op_add_str pe_str (pe_callTy call_str_int (by rfl) T.str (by decide +kernel) (pa_cons (pe_xf T.xf_NoLine T.xn_NoLine zn.zc fl (pv 3)) pa_nil))))) ?_
      refine' U.clauses_as (X := U.getCx X ["_law_ask_here", "_law_told", "_law_word", "_law_e"] "_law_why" (defScope (top 92)) g cdg s H) (i := 3) rfl rfl sc_why.nd rfl rfl (U.decides_name (X := U.getCx X ["_law_ask_here", "_law_told", "_law_word", "_law_e"] "_law_why" (defScope (top 92)) g cdg s H) (x := "InUse") rfl rfl ⟨rfl, rfl, .inl T.gx_InUse⟩) (fun a o cls d pn zn fl => pss_one (ps_set (i := 2) sc_why.nd rfl (Or.inl rfl) (pe_op op_add_str pe_str (pe_callTy call_str_int (by rfl) T.str (by decide +kernel) (pa_cons (pe_xf T.xf_InUse T.xn_InUse zn.zc fl (pv 3)) pa_nil))))) ?_
      refine' U.clauses_as (X := U.getCx X ["_law_ask_here", "_law_told", "_law_word", "_law_e"] "_law_why" (defScope (top 92)) g cdg s H) (i := 3) rfl rfl sc_why.nd rfl rfl (U.decides_name (X := U.getCx X ["_law_ask_here", "_law_told", "_law_word", "_law_e"] "_law_why" (defScope (top 92)) g cdg s H) (x := "BadText") rfl rfl ⟨rfl, rfl, .inl T.gx_BadText⟩) (fun a o cls d pn zn fl => pss_one (ps_set (i := 2) sc_why.nd rfl (Or.inl rfl) (pe_op op_add_str pe_str (pe_callTy call_str_int (by rfl) T.str (by decide +kernel) (pa_cons (pe_xf T.xf_BadText T.xn_BadText zn.zc fl (pv 3)) pa_nil))))) ?_
      refine' U.clauses_as (X := U.getCx X ["_law_ask_here", "_law_told", "_law_word", "_law_e"] "_law_why" (defScope (top 92)) g cdg s H) (i := 3) rfl rfl sc_why.nd rfl rfl (U.decides_name (X := U.getCx X ["_law_ask_here", "_law_told", "_law_word", "_law_e"] "_law_why" (defScope (top 92)) g cdg s H) (x := "Heavy") rfl rfl ⟨rfl, rfl, .inl T.gx_Heavy⟩) (fun a o cls d pn zn fl => pss_one (ps_set (i := 2) sc_why.nd rfl (Or.inl rfl) (pe_op op_add_str pe_str (pe_callTy call_str_int (by rfl) T.str (by decide +kernel) (pa_cons (pe_xf T.xf_Heavy T.xn_Heavy zn.zc fl (pv 3)) pa_nil))))) ?_
      refine' U.clauses_as (X := U.getCx X ["_law_ask_here", "_law_told", "_law_word", "_law_e"] "_law_why" (defScope (top 92)) g cdg s H) (i := 3) rfl rfl sc_why.nd rfl rfl (U.decides_tup4 (X := U.getCx X ["_law_ask_here", "_law_told", "_law_word", "_law_e"] "_law_why" (defScope (top 92)) g cdg s H) (x1 := "MingleError") (x2 := "Missing") (x3 := "Busy") (x4 := "NoShare") rfl rfl ⟨rfl, rfl, .inl T.gx_MingleError⟩ ⟨rfl, rfl, .inl T.gx_Missing⟩ ⟨rfl, rfl, .inl T.gx_Busy⟩ ⟨rfl, rfl, .inl T.gx_NoShare⟩) (fun a o cls d pn zn fl => pss_one (ps_set (i := 2) sc_why.nd rfl (Or.inl rfl) (U.pe_held (x := "_law_kind") (k := 1) (p := (a, o)) (t := fun v H Q => v = .ref a ∧ ∃ (D : Addr) (b0 b1 b2 b3 b4 b5 b6 b7 b8 b9 b10 b11 b12 b13 b14 b15 b16 b17 b18 b19 b20 b21 b22 : Bool), Kinds X.K A D b0 b1 b2 b3 b4 b5 b6 b7 b8 b9 b10 b11 b12 b13 b14 b15 b16 b17 b18 b19 b20 b21 b22 ∧ cls = .ref D ∧ d = none ∧ ∀ H', Same H H' → Q (.str (Txt.join (PySem.Str.ofString " ") (U.words (marks b0 b1 b2 b3 b4 b5 b6 b7 b8 b9 b10 b11 b12 b13 b14 b15 b16 b17 b18 b19 b20 b21 b22)))) H') List.mem_cons_self rfl gk Fk.kp lk cd sc_kind bd ⟨(room.mono (Nat.le_add_left 2 r)).dp, (room.mono (Nat.le_add_left 2 r)).un⟩ (pv 3) rfl rfl (by
      rintro s1 H1 v Q1 ⟨rfl, D, b0, b1, b2, b3, b4, b5, b6, b7, b8, b9, b10, b11, b12, b13, b14, b15, b16, b17, b18, b19, b20, b21, b22, kd, rfl, rfl, q1⟩ room1
      have hot : L2H.Hot1 ((U.getCx X ["_law_ask_here", "_law_told", "_law_word", "_law_e"] "_law_why" (defScope (top 92)) g cdg s H).A.mark (some (.ref a))) (a, o) := ⟨rfl, fl.elim fun vs e => ⟨vs, e, zn.2.2 vs e⟩⟩
      exact held_kind T kd zn.zc fl hot q1)))) (U.clauses_nil rfl U.takesF)

    case fin =>
      walk_at "rd"
      refine ⟨rfl, co, _, _, ?er, ?ok, h⟩
      case ok =>
        intro v H' r
        walk_at "rd"
        exact r _ _ (by assumption) (by assumption)
      case er =>
        rintro cls d H' (⟨D, b0, b1, b2, b3, b4, b5, b6, b7, b8, b9, b10, b11, b12, b13, b14, b15, b16, b17, b18, b19, b20, b21, b22, kd, td, rfl, rfl, k⟩ | ⟨dd, s, rfl, rfl, hd, sl, k⟩ | ⟨dd, n, rfl, rfl, hd, sl, k⟩ | ⟨dd, n, rfl, rfl, hd, sl, k⟩ | ⟨dd, n, rfl, rfl, hd, sl, k⟩ | ⟨dd, n, rfl, rfl, hd, sl, k⟩)
        · refine ⟨false, td.n0, nofun, fun _ => ⟨false, td.n1, nofun, fun _ => ⟨false, td.n2, nofun, fun _ => ⟨false, td.n3, nofun, fun _ => ⟨false, td.n4, nofun, fun _ => ⟨true, td.any, fun _ a na => ?_, nofun⟩⟩⟩⟩⟩⟩
          refine U.i_asg ⟨_, rfl, rfl, D, b0, b1, b2, b3, b4, b5, b6, b7, b8, b9, b10, b11, b12, b13, b14, b15, b16, b17, b18, b19, b20, b21, b22, kd, rfl, rfl, fun H'' st => ?_⟩
          walk_at "rd"
          unfold U.goneE
          walk_at "rd"
          exact k _ _ (st.trans (by assumption)) (by assumption)
        · refine ⟨true, T.xm_NoHouse_NoHouse, fun _ a na => ?_, nofun⟩
          refine U.i_asg ⟨_, rfl, rfl, rfl, dd, _, _, rfl, hd, rfl, _, _, rfl, rfl, short_add sl, ?_⟩
          walk_at "rd"
          unfold U.goneE
          walk_at "rd"
          exact k _ _ (by assumption) (by assumption)
        · refine ⟨false, T.xm_NoLine_NoHouse, nofun, fun _ => ⟨true, T.xm_NoLine_NoLine, fun _ a na => ?_, nofun⟩⟩
          refine U.i_asg ⟨_, rfl, rfl, rfl, dd, _, _, rfl, hd, rfl, n, rfl, log_small sl, _, _, rfl, rfl, short_num sl, ?_⟩
          walk_at "rd"
          unfold U.goneE
          walk_at "rd"
          exact k _ _ (by assumption) (by assumption)
        · refine ⟨false, T.xm_InUse_NoHouse, nofun, fun _ => ⟨false, T.xm_InUse_NoLine, nofun, fun _ => ⟨true, T.xm_InUse_InUse, fun _ a na => ?_, nofun⟩⟩⟩
          refine U.i_asg ⟨_, rfl, rfl, rfl, dd, _, _, rfl, hd, rfl, n, rfl, log_small sl, _, _, rfl, rfl, short_num sl, ?_⟩
          walk_at "rd"
          unfold U.goneE
          walk_at "rd"
          exact k _ _ (by assumption) (by assumption)
        · refine ⟨false, T.xm_BadText_NoHouse, nofun, fun _ => ⟨false, T.xm_BadText_NoLine, nofun, fun _ => ⟨false, T.xm_BadText_InUse, nofun, fun _ => ⟨true, T.xm_BadText_BadText, fun _ a na => ?_, nofun⟩⟩⟩⟩
          refine U.i_asg ⟨_, rfl, rfl, rfl, dd, _, _, rfl, hd, rfl, n, rfl, log_small sl, _, _, rfl, rfl, short_num sl, ?_⟩
          walk_at "rd"
          unfold U.goneE
          walk_at "rd"
          exact k _ _ (by assumption) (by assumption)
        · refine ⟨false, T.xm_Heavy_NoHouse, nofun, fun _ => ⟨false, T.xm_Heavy_NoLine, nofun, fun _ => ⟨false, T.xm_Heavy_InUse, nofun, fun _ => ⟨false, T.xm_Heavy_BadText, nofun, fun _ => ⟨true, T.xm_Heavy_Heavy, fun _ a na => ?_, nofun⟩⟩⟩⟩⟩
          refine U.i_asg ⟨_, rfl, rfl, rfl, dd, _, _, rfl, hd, rfl, n, rfl, log_small sl, _, _, rfl, rfl, short_num sl, ?_⟩
          walk_at "rd"
          unfold U.goneE
          walk_at "rd"
          exact k _ _ (by assumption) (by assumption)
theorem sc_far : FnScope ["_law_bag_here"] ["_law_bag_here"] (defScope (top 79)) := ⟨rfl, rfl, rfl, by decide +kernel, rfl, by decide +kernel, by decide +kernel⟩
theorem ok_far (T : Txt P w K mg A) : U.Cl P w K mg base 3 "_law_far" spFar [] := by
  obtain ⟨_, _, _, F_pull, g_pull, k_pull, bd_pull⟩ := (ok_pull (P := P) (w := w) (base := base) T).ex
  obtain ⟨_, d_pull, b_pull⟩ := bd_pull 0 (by decide)
  refine T.d_law_far.ok sc_far (fun vs H Q E h => ?_) (fun f cdv Ar outer s H vs Q E hr h => ?_)
  · obtain ⟨a, c, rfl, hb, k⟩ := h
    rfl
  · obtain ⟨a, c, rfl, hb, k⟩ := h
    refine ⟨_, (pss_one (ps_ret (pe_ix ix_list (pe_lst (pa_cons (pe_op U.u_pow pe_int pe_int) (pa_cons (pe_un un_neg (pe_op U.u_pow pe_int pe_int)) (pa_cons (pe_un un_neg pe_int) (pa_cons (pe_op U.u_add pe_int (pe_call F_pull (hr.mono (by decide)) rfl g_pull k_pull b_pull d_pull U.passN (pa_cons (pv 0) (pa_cons (pe_op U.u_pow pe_int pe_int) pa_nil)))) pa_nil))))) (pe_call F_pull (hr.mono (by decide)) rfl g_pull k_pull b_pull d_pull U.passN (pa_cons (pv 0) (pa_cons pe_int pa_nil))) (fun _ _ => rfl)))), ?_⟩
    walk_at "rd"
    refine ⟨a, c, _, rfl, hb, by decide, by decide, fun r1 H1 r0 r2 hb1 bt1 => ?_⟩
    walk_at "rd"
    rename_i p hp H3 s3 o3
    refine ⟨a, c, 4, rfl, hb1.same s3, by decide, by decide, fun r3 H2 r4 r5 hb2 bt2 => ?_⟩
    have pa : p ≠ a := fun e => by obtain ⟨ns, i, l, z, h1, _⟩ := hb1; rw [e, h1] at hp; cases hp
    have o2 := bt2 _ _ o3 pa
    have bt : But a H H2 := fun b o e n => bt2 b o (s3 _ _ (bt1 b o e n)) n
    have four : r3 = 0 ∨ r3 = 1 ∨ r3 = 2 ∨ r3 = 3 := by omega
    rcases four with rfl | rfl | rfl | rfl
    · exact U.i_ixL (SqL.of o2) rfl (k _ H2 (by decide) hb2 bt)
    · exact U.i_ixL (SqL.of o2) rfl (k _ H2 (by decide) hb2 bt)
    · exact U.i_ixL (SqL.of o2) rfl (k _ H2 (by decide) hb2 bt)
    · exact U.i_ixL (SqL.of o2) rfl (k _ H2 (by omega) hb2 bt)

end
end Lw
end

section
set_option Elab.async false
set_option linter.all false
set_option maxRecDepth 100000
set_option maxHeartbeats 4000000
/-! ### own steps (local) -/
local macro_rules | `(tactic| walk_at "hp") => `(tactic| first
  | assumption
  | exact L2.upd_same
  | ((with_reducible refine U.upd_new ?_ ?_); (focus (first | assumption | done)); walk_at "hp")
  | ((with_reducible refine U.upd_ne'' ?_ ?_); (focus (first | assumption | (apply Ne.symm; assumption))); walk_at "hp")
  | ((with_reducible refine' U.Same.get ?hx ?hy); (case hx => assumption); (case hy => walk_at "hp"))
  | ((with_reducible refine' U.ExtN.lst ?hx ?hy); (case hx => assumption); (case hy => walk_at "hp"))
  | ((with_reducible refine' U.ExtN.tup ?hx ?hy); (case hx => assumption); (case hy => walk_at "hp"))
  | ((with_reducible refine' U.ExtN.ins ?hx ?hy); (case hx => assumption); (case hy => walk_at "hp"))
  | fail "hp")
local macro_rules | `(tactic| walk_at "lay") => `(tactic| (intro p hn; generalize hg : L2.upd _ p _ = H'; have hs := U.same_of hg hn; have ho := U.at_of hg; clear hg))
local macro_rules | `(tactic| walk_at "sz") => `(tactic| first | decide | (show _ ≤ PySem.sizeLine; rw [PySem.sizeLine_eq]; (try simp only [List.length_cons, List.length_nil, List.length_map]); omega))
local macro_rules | `(tactic| walk_at "ref'") => `(tactic| skip)
local macro_rules | `(tactic| walk_at "rd1") => `(tactic| first
  | (with_reducible refine' U.i_seq ?_)
  | (with_reducible refine' U.i_asg ?_)
  | (with_reducible refine' U.i_ret ?_)
  | (with_reducible refine' U.i_ifS ?_)
  | (with_reducible refine' U.i_drop ?_)
  | ((with_reducible refine' U.i_var ?hx ?_); (case hx => rfl))
  | (with_reducible refine' U.i_c ?_)
  | (with_reducible refine' U.i_op ?_)
  | (with_reducible refine' U.i_un ?_)
  | (with_reducible refine' U.i_name ?_)
  | (with_reducible refine' U.i_gsub ?_)
  | (with_reducible refine' U.i_test ?_)
  | (with_reducible refine' U.i_tB ?_)
  | (with_reducible refine' U.i_bl ?_)
  | (with_reducible refine' U.i_not ?_)
  | (with_reducible refine' U.i_nil ?_)
  | (with_reducible refine' U.i_cons ?_)
  | (with_reducible refine' U.i_cb ?_)
  | (with_reducible refine' U.i_call ?_)
  | (with_reducible refine' U.i_fld ?_)
  | ((with_reducible refine' U.i_fld' ?hx ?hy ?hz ?hw ?_); (case hx => walk_at "hp"); (case hy => assumption); (case hz => assumption); (case hw => rfl))
  | (with_reducible refine' U.i_meth ?_)
  | ((with_reducible refine' U.i_meth' ?hx ?hy ?_); (case hx => walk_at "hp"); (case hy => rfl))
  | (with_reducible refine' U.i_add ?_)
  | (with_reducible refine' U.i_sub ?_)
  | ((with_reducible refine' U.i_mul ?hx ?_); (case hx => (first | (left; constructor <;> omega) | (right; constructor <;> omega))))
  | ((with_reducible refine' U.i_mod ?hx ?_); (case hx => omega))
  | ((with_reducible refine' U.i_fdiv ?hx ?_); (case hx => (constructor <;> omega)))
  | ((with_reducible refine' U.i_pow ?hx ?_); (case hx => (refine ⟨?_, ?_, ?_⟩ <;> decide)))
  | (with_reducible refine' U.i_lt ?_)
  | (with_reducible refine' U.i_le ?_)
  | (with_reducible refine' U.i_gt ?_)
  | (with_reducible refine' U.i_ge ?_)
  | (with_reducible refine' U.i_eqI ?_)
  | (with_reducible refine' U.i_neI ?_)
  | (with_reducible refine' U.i_rU ?_)
  | (with_reducible refine' U.i_abs ?_)
  | (with_reducible refine' U.i_callN ?_)
  | ((with_reducible refine' U.i_lens ?hx ?hy ?_); (case hx => rfl); (case hy => rfl))
  | ((with_reducible refine' U.i_ixL ?hx ?hy ?_); (case hx => exact L2.SqL.of (by walk_at "hp")); (case hy => rfl))
  | ((with_reducible refine' U.i_lenL ?hx ?_); (case hx => exact L2.SqL.of (by walk_at "hp")))
  | ((with_reducible refine' U.i_setL ?hx ?hy ?_); (case hx => walk_at "hp"); (case hy => rfl))
  | (with_reducible refine' U.i_augS ?_)
  | ((with_reducible refine' U.i_aug ?hx ?_); (case hx => rfl))
  | (with_reducible refine' U.i_ipI ?_)
  | ((with_reducible refine' U.i_ipMul ?hx ?_); (case hx => (first | (left; constructor <;> omega) | (right; constructor <;> omega))))
  | ((with_reducible refine' U.i_gtup ?hx ?hy ?_); (case hx => exact L2.SqT.of (by walk_at "hp")); (case hy => rfl))
  | (with_reducible refine' U.i_gcons ?_)
  | (with_reducible refine' U.i_gnil ?_)
  | ((with_reducible refine' U.i_divmod ?hx ?_); (case hx => (constructor <;> omega)); walk_at "lay")
  | (with_reducible refine' U.i_tup ?_)
  | (with_reducible refine' U.i_lst ?_)
  | ((with_reducible refine' U.lay_and ?hx ?_); (case hx => walk_at "sz"); walk_at "lay")
  | (with_reducible refine' U.i_sl ?_)
  | (with_reducible refine' U.i_part ?_)
  | (with_reducible refine' U.i_part' ?_)
  | (with_reducible refine' U.i_nopart ?_)
  | ((with_reducible refine' U.i_slL ?hx ?_); (case hx => exact L2.SqL.of (by walk_at "hp")); walk_at "lay")
  | (with_reducible refine' U.i_bm ?_)
  | ((with_reducible refine' U.i_bm' ?hx ?_); (case hx => walk_at "hp"))
  | ((with_reducible refine' U.i_append ?hx ?hy ?_); (case hx => walk_at "hp"); (case hy => walk_at "szl"))
  | ((with_reducible refine' U.i_chLL ?hx ?hy ?_); (case hx => rfl); (case hy => rfl))
  | (with_reducible refine' U.i_chain ?_)
  | (with_reducible refine' U.i_rng1 ?_)
  | ((with_reducible refine' U.i_rng1' ?hx ?hy ?_); (case hx => omega); (case hy => omega))
  | (with_reducible refine' U.i_rng2 ?_)
  | ((with_reducible refine' U.i_rng2' ?hx ?_); (case hx => (refine ⟨?_, ?_, ?_, ?_⟩ <;> omega)))
  | (with_reducible refine' U.i_rng3 ?_)
  | (with_reducible refine' U.i_enum ?_)
  | ((with_reducible refine' U.i_enum' ?hx ?_); (case hx => exact L2.SqL.of (by walk_at "hp")))
  | (with_reducible refine' U.i_enumT ?_)
  | ((with_reducible refine' U.i_enumT' ?hx ?_); (case hx => exact L2.SqT.of (by walk_at "hp")))
  | (with_reducible refine' U.i_rev ?_)
  | ((with_reducible refine' U.i_rev' ?hx ?_); (case hx => exact L2.SqL.of (by walk_at "hp")))
  | (with_reducible refine' U.i_plist ?_)
  | ((with_reducible refine' U.i_plist' ?hx ?_); (case hx => exact L2.SqL.of (by walk_at "hp")))
  | (with_reducible refine' U.i_for ?_)
  | (with_reducible refine' U.i_sfld ?_)
  | ((with_reducible refine' U.i_sfld' ?hx ?hy ?hz ?hw ?_); (case hx => walk_at "hp"); (case hy => assumption); (case hz => assumption); (case hw => exact Nat.le_of_ble_eq_true rfl))
  | (with_reducible refine' U.i_lc ?_)
  | (with_reducible refine' U.i_par3 ?_)
  | (with_reducible refine' U.i_par3' ?_)
  | (with_reducible refine' U.i_par ?_)
  | (with_reducible refine' U.i_par' ?_)
  | (with_reducible refine' U.i_lrg ?_)
  | (with_reducible refine' U.i_rg1 ?_)
  | (with_reducible refine' U.i_rg1' ?_)
  | (with_reducible refine' U.i_pl ?_)
  | ((with_reducible refine' U.i_pl' ?hx ?hy ?_); (case hx => walk_at "hp"); (case hy => exact Nat.le_of_ble_eq_true rfl))
  | (with_reducible refine' U.i_rAdd ?_)
  | ((with_reducible refine' U.i_listOf ?hx ?_); (case hx => exact L2.SqL.of (by walk_at "hp")); walk_at "lay")
  | (with_reducible refine' U.i_intB ?_)
  | (with_reducible refine' U.i_wget ?_)
  | ((with_reducible refine' U.i_tupleOf ?hx ?_); (case hx => walk_at "hp"); walk_at "lay")
  | ((with_reducible refine' U.i_repA ?hx ?hn ?h0 ?h1 ?h2 ?_); (case hx => walk_at "hp"); (case hn => simp); (case h0 => omega); (case h1 => omega); (case h2 => simp); intro p H' hs ho)
  | ((with_reducible refine' U.i_catA ?hx ?hy ?hz ?_); (case hx => walk_at "hp"); (case hy => walk_at "hp"); (case hz => walk_at "sz"); intro p H' hs ho)
  | ((with_reducible refine' U.i_slA ?hx ?_); (case hx => walk_at "hp"); intro p H' hs ho)
  | (with_reducible refine' U.i_zipS ?_)
  | ((with_reducible refine' U.i_zipTT ?hx ?hy ?_); (case hx => exact L2.SqT.of (by walk_at "hp")); (case hy => exact L2.SqT.of (by walk_at "hp")))
  | ((with_reducible refine' U.i_zipLL ?hx ?hy ?_); (case hx => exact L2.SqL.of (by walk_at "hp")); (case hy => exact L2.SqL.of (by walk_at "hp")))
  | (with_reducible refine' U.i_ptup ?_)
  | ((with_reducible refine' U.i_ptup' ?hx ?_); (case hx => exact L2.SqT.of (by walk_at "hp")))
  | ((with_reducible refine' U.i_lenT ?hx ?_); (case hx => exact L2.SqT.of (by walk_at "hp")))
  | (with_reducible refine' U.i_yes ?_)
  | (with_reducible refine' L2.iteT ?_)
  | (with_reducible refine' U.i_next ?_)
  | fail "rd1")
local macro_rules | `(tactic| walk_at "szl") => `(tactic| first | decide | (refine L2.small1000 ?_; (try simp only [List.length_cons, List.length_nil, List.length_map]); omega))
local macro_rules | `(tactic| walk_at "rd") => `(tactic| (repeat walk_at "rd1"))
local macro_rules | `(tactic| walk_at "ro") => `(tactic| (refine' U.i_or ?_; walk_at "rd"))
local macro_rules | `(tactic| walk_at "ra") => `(tactic| (refine' U.i_pt ?_; walk_at "rd"))
local macro_rules | `(tactic| walk_at "gd") => `(tactic| (repeat (first | walk_at "rd1" | (with_reducible refine' U.i_andV ?_))))

namespace Lw
open PySem L2 U LamX
local macro_rules | `(tactic| walk_at "fa") => `(tactic| first
  | assumption
  | ((with_reducible refine' Lw.FA.same ?hx ?hy); (case hy => assumption); (case hx => walk_at "fa"))
  | fail "fa")
local macro_rules | `(tactic| walk_at "bg") => `(tactic| first
  | assumption
  | ((with_reducible refine' Lw.Bag.same ?hx ?hy); (case hy => assumption); (case hx => walk_at "bg"))
  | fail "bg")
local macro_rules | `(tactic| walk_at "op2") => `(tactic| (refine' Lw.spOp.go ?fa ?ra ?rb ?q; (case fa => walk_at "fa"); (case ra => constructor <;> omega); (case rb => constructor <;> omega); intro H' s'; walk_at "rd"))

local macro_rules | `(tactic| walk_at "ty") => `(tactic| first | exact .base (.int _) | exact .base (.str _) | exact .base (.bl _) | exact .base .non | exact .base (.lst (by walk_at "hp")) | exact .base (.tup (by walk_at "hp")))
local macro_rules | `(tactic| walk_at "al") => `(tactic| (repeat (first
  | walk_at "rd1"
  | (with_reducible refine' U.i_andV ?_)
  | (with_reducible refine' U.i_notV ?_)
  | (with_reducible refine' U.i_truth ?_)
  | (with_reducible refine' U.i_or ?_)
  | (with_reducible refine' U.i_pt ?_)
  | ((with_reducible refine' U.i_isNT ?hx ?_); (case hx => rfl))
  | ((with_reducible refine' U.i_isNF ?hx ?_); (case hx => (intro z; cases z)))
  | ((with_reducible refine' U.i_isiT ?hx ?hy ?_); (case hx => walk_at "ty"); (case hy => decide +kernel))
  | ((with_reducible refine' U.i_isiF ?hx ?hy ?_); (case hx => walk_at "ty"); (case hy => decide +kernel))
  | (with_reducible refine' U.i_neBB ?_)
  | (with_reducible refine' U.i_eqBB ?_)
  | (with_reducible refine' U.i_eqSS ?_)
  | ((with_reducible refine' U.i_lenL ?hx ?_); (case hx => exact L2.SqL.of (by walk_at "hp")))
  | ((with_reducible refine' U.i_lenT ?hx ?_); (case hx => exact L2.SqT.of (by walk_at "hp")))
  | (with_reducible refine' U.iteT' ?_)
  | (with_reducible refine' U.iteF' ?_)
  | fail "al")))

local macro_rules | `(tactic| walk_at "gq") => `(tactic| (repeat (first | ((fail_if_success (with_reducible refine' U.i_seq ?_)); (first | walk_at "rd1" | (with_reducible refine' U.i_andV ?_))) | fail "gq")))
local macro_rules | `(tactic| walk_at "rq") => `(tactic| (repeat (first | ((fail_if_success (with_reducible refine' U.i_seq ?_)); walk_at "rd1") | fail "rq")))
local macro_rules | `(tactic| walk_at "nt") => `(tactic| (repeat (first
  | walk_at "rd1"
  | (with_reducible refine' U.i_dni ?_)
  | (with_reducible refine' U.i_din ?_)
  | (with_reducible refine' U.i_dgt ?_)
  | (with_reducible refine' U.i_dpt ?_)
  | (with_reducible refine' U.i_dnew ?_)
  | ((with_reducible refine' U.i_dniN ?hx ?_); (case hx => walk_at "hp"))
  | ((with_reducible refine' U.i_dinN ?hx ?_); (case hx => walk_at "hp"))
  | ((with_reducible refine' U.i_dniR ?hx ?_); (case hx => walk_at "hp"))
  | ((with_reducible refine' U.i_dinR ?hx ?_); (case hx => walk_at "hp"))
  | (with_reducible refine' U.i_or ?_)
  | (with_reducible refine' U.i_pt ?_)
  | fail "nt")))
local macro_rules | `(tactic| walk_at "wt") => `(tactic| (repeat (first
  | ((fail_if_success (with_reducible refine' U.i_seq ?_)); walk_at "rd1")
  | (with_reducible refine' U.i_dni ?_)
  | (with_reducible refine' U.i_din ?_)
  | (with_reducible refine' U.i_dgt ?_)
  | (with_reducible refine' U.i_dpt ?_)
  | (with_reducible refine' U.i_dnew ?_)
  | ((with_reducible refine' U.i_dniU ?hx ?_); (case hx => walk_at "hp"))
  | ((with_reducible refine' U.i_dinU ?hx ?_); (case hx => walk_at "hp"))
  | ((with_reducible refine' U.i_dniS ?hx ?_); (case hx => walk_at "hp"))
  | ((with_reducible refine' U.i_dinS ?hx ?_); (case hx => walk_at "hp"))
  | (with_reducible refine' U.i_pt ?_)
  | fail "wt")))
section
variable {P : Program} {w : World} {K : PySem.W.Frag} {mg : Str → Option Value} {base : Heap} {A : Ad}
theorem sc_ninit : FnScope ["self"] ["self"] (defScope (inClass (top 65) 0)) := ⟨rfl, rfl, rfl, by decide +kernel, rfl, by decide +kernel, by decide +kernel⟩
theorem ok_ninit (T : Txt P w K mg A) : U.Nw P w K mg base 1 "Net" A.Net (spNetI A) [] := by
  refine T.n_Net.ok sc_ninit (fun vs H Q E h => ?_) (fun f cdv Ar outer s H vs Q E hr h => ?_)
  · obtain ⟨x, dx, rfl, hx, k⟩ := h
    rfl
  · obtain ⟨x, dx, rfl, hx, k⟩ := h
    have cN := T.c_Net
    have a1 := T.na_Net_named
    have a2 := T.na_Net_roads
    refine ⟨_, (pss_cons (ps_fld (pv 0) pe_dnewK rfl)
    (pss_one (ps_fld (pv 0) pe_dnewK rfl))), ?_⟩
    walk_at "nt"
    walk_at "lay"
    rename_i nd hnd H1 s1 on
    have n1 : nd ≠ x := fun e => by rw [e, hx] at hnd; cases hnd
    have hx1 := s1 _ _ hx
    walk_at "nt"
    walk_at "lay"
    rename_i rd hrd0 H2 s2 or
    have n2 : rd ≠ x := fun e => by rw [e, upd_same] at hrd0; cases hrd0
    have hrd : H1 rd = none := by rw [upd_ne n2] at hrd0; exact hrd0
    have on2 := s2 _ _ ((upd_ne n1).trans on)
    walk_at "nt"
    have kp : ∀ b o, H b = some o → b ≠ x → upd H2 x (HO.ins A.Net dx (putF "roads" (V.ref rd) (putF "named" (V.ref nd) []))) b = some o := fun b o e ne => by
      rw [upd_ne ne]
      exact s2 _ _ ((upd_ne ne).trans (s1 _ _ e))
    exact k nd rd _ hnd (s1.free hrd) kp ⟨⟨dx, upd_same⟩, (upd_ne n1).trans on2, (upd_ne n2).trans or, .nil, ⟨by decide, by decide⟩, .nil, .nil, fun e => by rw [← e, on] at hrd; cases hrd⟩

theorem sc_nname : FnScope ["name", "sign"] ["name"] (defScope (top 64)) := ⟨rfl, rfl, rfl, by decide +kernel, rfl, by decide +kernel, by decide +kernel⟩
theorem ok_nname (T : Txt P w K mg A) : U.Cl P w K mg base 1 "need_name" spNName [] := by
  refine T.d_need_name.ok sc_nname (fun vs H Q E h => ?_) (fun f cdv Ar outer s H vs Q E hr h => ?_)
  · obtain ⟨s, rfl, g, k⟩ := h
    rfl
  · obtain ⟨s, rfl, g, k⟩ := h
    refine ⟨_, (pss_one (ps_if (PW.pt (pw_or (pt_not (pt_chain U.u_le U.u_le pe_int (pe_callB call_len_str (by rfl) T.len PySem.boot_len (pa_cons (pv 0) pa_nil)) (U.pe_gval rfl T.g_LONGEST))) (pw_or1 (pt_not (pt_val (pe_callB (cr_all rfl) (by rfl) T.all (by decide +kernel) (pa_cons (pe_lc (own := [("sign", 1)]) (g := (gName 1)) (tt := tYes) (by exact rfl) sc_nname.nd (pi_str (pv 0)) (blkOk_by (own := [("sign", 1)]) (N := ["name", "sign"]) (sc := defScope (top 64)) (by decide +kernel)) (fun _ _ _ _ _ => (pg_name (i := 1) sc_nname.nd rfl (Or.inl rfl))) (fun _ _ _ _ _ => pts_nil) (fun _ _ _ _ _ => (pe_cmpR op_in_sign (pv 1) (U.pe_gval rfl T.g_LETTERS) (by rfl)))) pa_nil)))))))
    (pss_one ps_never)
    pss_nil)), ?_⟩
    obtain ⟨g1, g2, g3⟩ := g
    walk_at "nt"
    refine ⟨s, rfl, by rw [PySem.sizeLine_eq]; omega, ?_⟩
    walk_at "nt"
    refine U.iteTd (by omega) ?_
    walk_at "nt"
    refine U.itedn (fun z => absurd (by omega) z) (fun _ => ?_)
    walk_at "nt"
    refine ⟨_, rfl, s, rfl, ?_⟩
    intro D hD
    refine lc_it walk_str (fun i H' => Same H H' ∧ H' D = some (.lst ((List.replicate i true).map V.bl))) ⟨same_new hD, upd_same⟩ (fun i H' _ h => trivial) ?_ ?_
    · rintro i x H3 H4 hi ⟨s3, o3⟩ ⟨rfl, c, hc, rfl⟩
      have mc := g3 c (List.mem_of_getElem? (by rw [Array.getElem?_toList]; exact hc))
      walk_at "nt"
      refine ⟨rfl, ?_⟩
      walk_at "nt"
      refine ⟨c, _, rfl, rfl, ?_⟩
      have hl : s.length = s.cps.size := rfl
      refine ⟨_, o3, small1000 (by rw [List.length_map, List.length_replicate]; omega), same_own s3 hD, ?_⟩
      rw [decide_eq_true mc, List.replicate_succ', List.map_append]
      exact upd_same
    rintro H3 ⟨s3, o3⟩
    walk_at "nt"
    refine U.i_all (bs := List.replicate _ true) o3 ?_
    rw [U.all_rep]
    walk_at "nt"
    refine U.iteF' ?_
    walk_at "nt"
    exact k _ s3

theorem sc_nhas : FnScope ["self", "name"] ["self", "name"] (defScope (inClass (top 65) 3)) := ⟨rfl, rfl, rfl, by decide +kernel, rfl, by decide +kernel, by decide +kernel⟩
theorem ok_nhas (T : Txt P w K mg A) : U.Mt P w K mg base 1 A.Net "need_house" (spNHas A) [] := by
  refine T.m_Net_need_house.ok sc_nhas (fun vs H Q E h => ?_) (fun f cdv Ar outer s H vs Q E hr h => ?_)
  · obtain ⟨x, nd, rd, ns, qs, rs, s, rfl, na, m, k⟩ := h
    rfl
  · obtain ⟨x, nd, rd, ns, qs, rs, s, rfl, na, m, k⟩ := h
    have cN := T.c_Net
    have a1 := T.na_Net_named
    have a2 := T.na_Net_roads
    refine ⟨_, (pss_one (ps_if (pt_cmp (pc_dnotin (Nat.lt_trans (Nat.add_lt_add_left (by decide : 1 < 64) _) hr.units) (pv 1) (pe_fld (pv 0) rfl)) (by rfl))
    (pss_one ps_never)
    pss_nil)), ?_⟩
    obtain ⟨dx, hx⟩ := na.obj
    have nm := na.nm
    walk_at "nt"
    refine U.itedn (fun z => absurd m z) (fun _ => ?_)
    walk_at "nt"
    exact k

theorem sc_nhasl : FnScope ["self", "number"] ["self", "number"] (defScope (inClass (top 65) 4)) := ⟨rfl, rfl, rfl, by decide +kernel, rfl, by decide +kernel, by decide +kernel⟩
theorem ok_nhasl (T : Txt P w K mg A) : U.Mt P w K mg base 1 A.Net "need_line" (spNHasL A) [] := by
  refine T.m_Net_need_line.ok sc_nhasl (fun vs H Q E h => ?_) (fun f cdv Ar outer s H vs Q E hr h => ?_)
  · obtain ⟨x, nd, rd, ns, qs, rs, n, rfl, na, m, k⟩ := h
    rfl
  · obtain ⟨x, nd, rd, ns, qs, rs, n, rfl, na, m, k⟩ := h
    have cN := T.c_Net
    have a1 := T.na_Net_named
    have a2 := T.na_Net_roads
    refine ⟨_, (pss_one (ps_if (pt_cmp (pc_dnotin (Nat.lt_trans (Nat.add_lt_add_left (by decide : 1 < 64) _) hr.units) (pv 1) (pe_fld (pv 0) rfl)) (by rfl))
    (pss_one ps_never)
    pss_nil)), ?_⟩
    obtain ⟨dx, hx⟩ := na.obj
    have rd9 := na.ro
    walk_at "nt"
    rw [na.keys]
    refine U.itedn (fun z => absurd m z) (fun _ => ?_)
    walk_at "nt"
    exact k

theorem sc_nhouse : FnScope ["self", "name"] ["self", "name"] (defScope (inClass (top 65) 5)) := ⟨rfl, rfl, rfl, by decide +kernel, rfl, by decide +kernel, by decide +kernel⟩
theorem ok_nhouse (T : Txt P w K mg A) : U.Mt P w K mg base 2 A.Net "house" (spNHouse A) [] := by
  obtain ⟨_, _, _, F_nname, g_nname, k_nname, bd_nname⟩ := (ok_nname (P := P) (w := w) (base := base) T).ex
  obtain ⟨_, d_nname, b_nname⟩ := bd_nname 0 (by decide)
  refine T.m_Net_house.ok sc_nhouse (fun vs H Q E h => ?_) (fun f cdv Ar outer s H vs Q E hr h => ?_)
  · obtain ⟨x, nd, rd, ns, qs, rs, s, rfl, na, g, nw, few, k⟩ := h
    rfl
  · obtain ⟨x, nd, rd, ns, qs, rs, s, rfl, na, g, nw, few, k⟩ := h
    have cN := T.c_Net
    have a1 := T.na_Net_named
    have a2 := T.na_Net_roads
    refine ⟨_, (pss_cons (ps_expr (pe_call F_nname (hr.mono (by decide)) rfl g_nname k_nname b_nname d_nname U.passN (pa_cons (pv 1) pa_nil)))
    (pss_cons (ps_if (pt_cmp (pc_din (Nat.lt_trans (Nat.add_lt_add_left (by decide : 1 < 64) _) hr.units) (pv 1) (pe_fld (pv 0) rfl)) (by rfl))
    (pss_one ps_never)
    pss_nil)
    (pss_cons (ps_if (pt_cmpR U.u_ge (pe_callB call_lenD (by rfl) T.len PySem.boot_len (pa_cons (pe_fld (pv 0) rfl) pa_nil)) (U.pe_gval rfl T.g_MOST_HOUSES) (nomark _))
    (pss_one ps_never)
    pss_nil)
    (pss_one (ps_dput (Nat.lt_trans (Nat.add_lt_add_left (by decide : 1 < 64) _) hr.units) (pe_fld (pv 0) rfl) (pv 1) pe_bl rfl))))), ?_⟩
    obtain ⟨dx, hx⟩ := na.obj
    walk_at "nt"
    refine ⟨s, rfl, g, fun H1 s1 => ?_⟩
    replace na := na.same s1
    replace hx := s1 _ _ hx
    have nm := na.nm
    walk_at "nt"
    refine U.ited (fun z => absurd z nw) (fun _ => ?_)
    walk_at "nt"
    refine ⟨nd, _, rfl, nm, ?_⟩
    walk_at "nt"
    refine U.ited (fun z => absurd z (by unfold U.nmK; rw [List.length_map]; omega)) (fun _ => ?_)
    walk_at "nt"
    refine U.i_dptN nm nw (by omega) ?_
    walk_at "nt"
    have bt : But nd H1 (upd H1 nd (.dK (U.nmK (ns ++ [s])))) := But.of
    refine k _ (fun b o e n => bt _ _ (s1 _ _ e) n) ⟨⟨dx, bt _ _ hx (U.ne_of_get hx nm nofun)⟩, upd_same, bt _ _ na.ro na.ne.symm, na.ts.imp fun _ _ e => ⟨e.1, bt _ _ e.2 (U.ne_of_get e.2 nm nofun)⟩, ⟨by rw [List.length_append]; show _ + 1 ≤ 12; omega, na.few.2⟩, List.nodup_append.mpr ⟨na.nn, List.nodup_cons.mpr ⟨nofun, .nil⟩, fun a ma b mb e => nw (by rw [List.mem_singleton.mp mb] at e; exact e ▸ ma)⟩, na.rn, na.ne⟩

theorem sc_nline : FnScope ["self", "one", "other", "slow", "number", "own"] ["self", "one", "other", "slow", "number"] (defScope (inClass (top 65) 6)) := ⟨rfl, rfl, rfl, by decide +kernel, rfl, by decide +kernel, by decide +kernel⟩
theorem ok_nline (T : Txt P w K mg A) : U.MtK P w K mg base 2 A.Net "line" ["self", "one", "other", "slow", "number"] (spNLine A) (fun fd => U.BP K fd ["self", "one", "other", "slow", "number"] [V.int 1, V.non] ∧ U.BN K fd ["self", "one", "other", "slow", "number"] 3 ["number", "slow"] (fun vs zs => vs ++ U.turn [1, 0] zs)) := by
  obtain ⟨_, _, _, F_nhas, c_nhas, m_nhas, bd_nhas⟩ := (ok_nhas (P := P) (w := w) (base := base) T).ex
  obtain ⟨_, d_nhas, b_nhas⟩ := bd_nhas 0 (by decide)
  refine T.m_Net_line.ok sc_nline (fun vs H Q E h => ?_) (fun f cdv Ar outer s H vs Q E hr h => ?_)
  · obtain ⟨x, nd, rd, ns, qs, rs, o, p, l, n, nv, rfl, na, mo, mp, op, l1, l4, n1, n9, nw, few, nn, k⟩ := h
    rfl
  · obtain ⟨x, nd, rd, ns, qs, rs, o, p, l, n, nv, rfl, na, mo, mp, op, l1, l4, n1, n9, nw, few, nn, k⟩ := h
    have cN := T.c_Net
    have a1 := T.na_Net_named
    have a2 := T.na_Net_roads
    refine ⟨_, (pss_cons (ps_expr (pe_meth (pv 0) c_nhas m_nhas F_nhas (hr.mono (by decide)) b_nhas d_nhas U.passN (pa_cons (pv 1) pa_nil)))
    (pss_cons (ps_expr (pe_meth (pv 0) c_nhas m_nhas F_nhas (hr.mono (by decide)) b_nhas d_nhas U.passN (pa_cons (pv 2) pa_nil)))
    (pss_cons (ps_if (pt_cmpR op_eq (pv 1) (pv 2) (nomark _))
    (pss_one ps_never)
    pss_nil)
    (pss_cons (ps_if (pt_not (pt_chain U.u_le U.u_le pe_int (pv 3) (U.pe_gval rfl T.g_MOST_SLOW)))
    (pss_one ps_never)
    pss_nil)
    (pss_cons (ps_set (i := 5) sc_nline.nd rfl (Or.inl rfl) (pe_ifExp (pt_cmpR op_isN1 (pv 4) pe_non (nomark _)) (pe_op U.u_add (pe_callBK (U.cr_maxDef (by rfl)) (by rfl) T.max (by decide +kernel) (pa_cons (pe_fld (pv 0) rfl) pa_nil) (pk_cons pe_int pk_nil)) pe_int) (pv 4)))
    (pss_cons (ps_if (pt_not (pt_chain U.u_le U.u_le pe_int (pv 5) (U.pe_gval rfl T.g_MOST_NUMBER)))
    (pss_one ps_never)
    pss_nil)
    (pss_cons (ps_if (pt_cmp (pc_din (Nat.lt_trans (Nat.add_lt_add_left (by decide : 1 < 64) _) hr.units) (pv 5) (pe_fld (pv 0) rfl)) (by rfl))
    (pss_one ps_never)
    pss_nil)
    (pss_cons (ps_if (pt_cmpR U.u_ge (pe_callB call_lenD (by rfl) T.len PySem.boot_len (pa_cons (pe_fld (pv 0) rfl) pa_nil)) (U.pe_gval rfl T.g_MOST_LINES) (nomark _))
    (pss_one ps_never)
    pss_nil)
    (pss_cons (ps_dput (Nat.lt_trans (Nat.add_lt_add_left (by decide : 1 < 64) _) hr.units) (pe_fld (pv 0) rfl) (pv 5) (pe_tup (pa_cons (pv 1) (pa_cons (pv 2) (pa_cons (pv 3) pa_nil)))) rfl)
    (pss_one (ps_ret (pv 5)))))))))))), ?_⟩
    obtain ⟨dx, hx⟩ := na.obj
    have rd9 := na.ro
    have ql := na.ts.len
    walk_at "nt"
    refine ⟨x, nd, rd, ns, qs, rs, o, rfl, na, mo, ?_⟩
    walk_at "nt"
    refine ⟨x, nd, rd, ns, qs, rs, p, rfl, na, mp, ?_⟩
    walk_at "nt"
    refine U.i_eqStr ?_
    walk_at "nt"
    refine U.ited (fun z => absurd z op) (fun _ => ?_)
    walk_at "nt"
    refine U.iteTd l1 ?_
    walk_at "nt"
    refine U.itedn (fun z => absurd l4 z) (fun _ => ?_)
    walk_at "rq"
    with_reducible refine U.i_seqG (fun σ' H' => σ' = [some (.ref x), some (.str o), some (.str p), some (.int l), some nv, some (.int n)] ∧ H' = H) ?rest1 (fun _ rest1 => ?first1)
    case first1 =>
      walk_at "rq"
      refine U.i_ifE ?_
      walk_at "rq"
      rcases nn with rfl | ⟨rfl, tp⟩
      · refine U.i_isNF nofun ?_
        walk_at "rq"
        refine U.iteF' ?_
        walk_at "rq"
        exact rest1 _ _ ⟨rfl, rfl⟩
      · refine U.i_isNT rfl ?_
        walk_at "rq"
        refine U.i_ckw ?_
        walk_at "rq"
        have ek : (U.rdK qs).map (·.1) = (rs.map (·.1)).map Sum.inl := by
          rw [← na.keys]
          unfold U.rdK
          rw [List.map_map, List.map_map]
          rfl
        refine ⟨rd, _, rs.map (·.1), 0, rfl, rfl, .inl rd9, ek, fun e => ?_, fun m mm mx => ?_⟩
        · have := tp.1 (List.map_eq_nil_iff.mp e)
          walk_at "rq"
          rw [show (0 : Int) + 1 = n by omega]
          exact rest1 _ _ ⟨rfl, rfl⟩
        · have ne : rs ≠ [] := fun e => by rw [e] at mm; cases mm
          obtain ⟨t1, t2⟩ := tp.2 ne
          have := mx _ t1
          have := t2 _ mm
          walk_at "rq"
          rw [show m + 1 = n by omega]
          exact rest1 _ _ ⟨rfl, rfl⟩
    case rest1 =>
    rintro σ' H1 ⟨rfl, rfl⟩
    walk_at "nt"
    refine U.iteTd n1 ?_
    walk_at "nt"
    refine U.itedn (fun z => absurd n9 z) (fun _ => ?_)
    walk_at "nt"
    rw [na.keys]
    refine U.ited (fun z => absurd z nw) (fun _ => ?_)
    walk_at "nt"
    refine ⟨rd, _, rfl, rd9, ?_⟩
    walk_at "nt"
    refine U.ited (fun z => absurd z (by unfold U.rdK; rw [List.length_map]; omega)) (fun _ => ?_)
    walk_at "nt"
    rename_i t ht H2 s2 ot
    replace na := na.same s2
    have rd2 := na.ro
    refine U.i_dptR rd2 (by rw [na.keys]; exact nw) (by omega) ?_
    walk_at "nt"
    have bt : But rd H2 (upd H2 rd (.dK (U.rdK (qs ++ [(n, t)])))) := But.of
    refine k t _ (fun b o e ne => bt _ _ (s2 _ _ e) ne) ⟨na.obj.elim fun d e => ⟨d, bt _ _ e (U.ne_of_get e rd2 nofun)⟩, bt _ _ na.nm na.ne, upd_same, (na.ts.imp fun _ _ e => ⟨e.1, bt _ _ e.2 (U.ne_of_get e.2 rd2 nofun)⟩).app (.cons ⟨rfl, bt _ _ ot (U.ne_of_get ot rd2 nofun)⟩ .nil), ⟨na.few.1, by rw [List.length_append]; show _ + 1 ≤ 30; omega⟩, na.nn, ?_, na.ne⟩
    rw [List.map_append]
    exact List.nodup_append.mpr ⟨na.rn, List.nodup_cons.mpr ⟨nofun, .nil⟩, fun a ma b mb e => nw (by
      rw [List.mem_singleton.mp mb] at e
      have e' : a = n := e
      rw [← e']
      exact ma)⟩

theorem sc_nnums : FnScope ["self"] ["self"] (defScope (inClass (top 65) 10)) := ⟨rfl, rfl, rfl, by decide +kernel, rfl, by decide +kernel, by decide +kernel⟩
theorem ok_nnums (T : Txt P w K mg A) : U.Mt P w K mg base 1 A.Net "numbers" (spNNums A) [] := by
  refine T.m_Net_numbers.ok sc_nnums (fun vs H Q E h => ?_) (fun f cdv Ar outer s H vs Q E hr h => ?_)
  · obtain ⟨x, nd, rd, ns, qs, rs, rfl, na, k⟩ := h
    rfl
  · obtain ⟨x, nd, rd, ns, qs, rs, rfl, na, k⟩ := h
    have cN := T.c_Net
    have a1 := T.na_Net_named
    have a2 := T.na_Net_roads
    refine ⟨_, (pss_one (ps_ret (pe_callB cr_sortedI (by rfl) T.sorted (by decide +kernel) (pa_cons (pe_callTy (call_listD (by rfl)) (by rfl) T.list (by decide +kernel) (pa_cons (pe_fld (pv 0) rfl) pa_nil)) pa_nil)))), ?_⟩
    obtain ⟨dx, hx⟩ := na.obj
    have rd9 := na.ro
    walk_at "nt"
    refine ⟨rd, _, rfl, .inl rd9, ?_⟩
    walk_at "lay"
    rename_i z hz H1 s1 o1
    have e : ((U.rdK qs).map fun kv => kV kv.1) = (rs.map (·.1)).map V.int := by
      rw [← na.keys]
      unfold U.rdK
      rw [List.map_map, List.map_map]
      rfl
    rw [e] at o1
    walk_at "nt"
    refine ⟨z, _, rfl, SqL.of o1, fun ys p pm so hp => ?_⟩
    exact k p ys _ (s1.free hp) (s1.trans (same_new hp)) pm so upd_same

theorem sc_nlines : FnScope ["self", "number"] ["self"] (defScope (inClass (top 65) 11)) := ⟨rfl, rfl, rfl, by decide +kernel, rfl, by decide +kernel, by decide +kernel⟩
theorem ok_nlines (T : Txt P w K mg A) : U.Mt P w K mg base 2 A.Net "lines" (spNLines A) [] := by
  obtain ⟨_, _, _, F_nnums, c_nnums, m_nnums, bd_nnums⟩ := (ok_nnums (P := P) (w := w) (base := base) T).ex
  obtain ⟨_, d_nnums, b_nnums⟩ := bd_nnums 0 (by decide)
  refine T.m_Net_lines.ok sc_nlines (fun vs H Q E h => ?_) (fun f cdv Ar outer s H vs Q E hr h => ?_)
  · obtain ⟨x, nd, rd, ns, qs, rs, rfl, na, k⟩ := h
    rfl
  · obtain ⟨x, nd, rd, ns, qs, rs, rfl, na, k⟩ := h
    have cN := T.c_Net
    have a1 := T.na_Net_named
    have a2 := T.na_Net_roads
    refine ⟨_, (pss_one (ps_ret (pe_lc (own := [("number", 1)]) (g := (gName 1)) (tt := tYes) (by exact rfl) sc_nlines.nd (pi_list (pe_meth0 (pv 0) c_nnums m_nnums F_nnums (hr.mono (by decide)) b_nnums d_nnums U.passN)) (blkOk_by (own := [("number", 1)]) (N := ["self", "number"]) (sc := defScope (inClass (top 65) 11)) (by decide +kernel)) (fun _ _ _ _ _ => (pg_name (i := 1) sc_nlines.nd rfl (Or.inl rfl))) (fun _ _ _ _ _ => pts_nil) (fun _ _ _ _ _ => (pe_op (U.catTK K rfl) (pe_tup (pa_cons (pv 1) pa_nil)) (pe_dget (Nat.lt_trans (Nat.add_lt_add_left (by decide : 1 < 64) _) hr.units) (U.pe_fldK K rfl (pv 0) rfl) (pv 1) (fun _ _ => rfl))))))), ?_⟩
    obtain ⟨dx, hx⟩ := na.obj
    have rd9 := na.ro
    have fw := na.few
    walk_at "nt"
    refine ⟨x, nd, rd, ns, qs, rs, rfl, na, fun q ys H1 hq s1 pm so oq => ?_⟩
    replace na := na.same s1
    replace rd9 := s1 _ _ rd9
    replace hx := s1 _ _ hx
    have kd : (qs.map (·.1)).Nodup := by rw [na.keys]; exact na.rn
    have yl := pm.length_eq
    rw [List.length_map] at yl
    walk_at "nt"
    intro D hD
    refine lc_it walk_list (fun i H' => Same H1 H' ∧ ∃ as ls, H' D = some (.lst (as.map V.ref)) ∧ RoadsAt H' as ls ∧ ls.map (·.1) = ys.take i ∧ ∀ r ∈ ls, r ∈ rs) ⟨same_new hD, [], [], upd_same, .nil, rfl, fun r m => by cases m⟩ (fun i H' _ h => SqL.of (h.1 _ _ oq)) ?_ ?_
    · rintro i v H3 H4 hi ⟨s3, as, ls, oD, ra, ek, inr⟩ ⟨rfl, hy⟩
      obtain ⟨rfl, hi'⟩ := U.mig hy
      rw [List.length_map] at hi
      have my := pm.mem_iff.mp (U.gd_mem hi')
      obtain ⟨r, mr, er⟩ := List.mem_map.mp my
      obtain ⟨q2, mq, eq, ht⟩ := na.ts.memR mr
      have al := ra.len
      have kl := congrArg List.length ek
      rw [List.length_map, List.length_take] at kl
      have rd3 := s3 _ _ rd9
      have hx3 := s3 _ _ hx
      have ht3 := s3 _ _ ht
      walk_at "nt"
      refine ⟨rfl, ?_⟩
      walk_at "nt"
      rename_i pt hpt H5 s5 o5
      rw [← er, ← eq]
      rw [← er] at o5
      have rd5 := s5 _ _ rd3
      have ht5 := s5 _ _ ht3
      refine U.i_dgtR rd5 kd mq ?_
      refine U.i_catA o5 ht5 (by show 4 ≤ PySem.sizeLine; rw [PySem.sizeLine_eq]; decide) ?_
      intro p6 H6 s6 o6
      have oD6 := s6 _ _ (s5 _ _ oD)
      have s36 := s5.trans s6
      refine ⟨_, oD6, small1000 (by rw [List.length_map]; omega), same_own (s3.trans s36) hD, as ++ [p6], ls ++ [r], by rw [List.map_append]; exact upd_same, ?_, ?_, ?_⟩
      · have bt : But D H6 (upd H6 D (.lst (as.map V.ref ++ [V.ref p6]))) := But.of
        exact ((ra.imp fun _ _ e => bt _ _ (s36 _ _ e) (U.ne_of_get (s36 _ _ e) oD6 nofun)).app (.cons (bt _ _ o6 (U.ne_of_get o6 oD6 nofun)) .nil))
      · rw [List.map_append, ek, U.take_succ_of (U.gd hi'), ← er]
        rfl
      · intro r' m'
        rcases List.mem_append.mp m' with m' | m'
        · exact inr r' m'
        · rw [List.mem_singleton.mp m']
          exact mr
    rintro H3 ⟨s3, as, ls, oD, ra, ek, inr⟩
    rw [List.length_map, List.take_length] at ek
    walk_at "nt"
    refine k D as ls H3 (s1.free hD) (s1.trans s3) (U.perm_of_keys (by rw [ek]; exact pm) na.rn inr) ?_ oD ra
    rw [← ek] at so
    exact List.pairwise_map.mp so

theorem sc_noutof : FnScope ["self", "name", "number", "one", "other", "slow"] ["self", "name"] (defScope (inClass (top 65) 13)) := ⟨rfl, rfl, rfl, by decide +kernel, rfl, by decide +kernel, by decide +kernel⟩
theorem ok_noutof (T : Txt P w K mg A) : U.Mt P w K mg base 3 A.Net "out_of" (spNBy A fun r => r.2.1) [] := by
  obtain ⟨_, _, _, F_nhas, c_nhas, m_nhas, bd_nhas⟩ := (ok_nhas (P := P) (w := w) (base := base) T).ex
  obtain ⟨_, d_nhas, b_nhas⟩ := bd_nhas 0 (by decide)
  obtain ⟨_, _, _, F_nlines, c_nlines, m_nlines, bd_nlines⟩ := (ok_nlines (P := P) (w := w) (base := base) T).ex
  obtain ⟨_, d_nlines, b_nlines⟩ := bd_nlines 0 (by decide)
  refine T.m_Net_out_of.ok sc_noutof (fun vs H Q E h => ?_) (fun f cdv Ar outer s H vs Q E hr h => ?_)
  · obtain ⟨x, nd, rd, ns, qs, rs, s, rfl, na, ms, k⟩ := h
    rfl
  · obtain ⟨x, nd, rd, ns, qs, rs, s, rfl, na, ms, k⟩ := h
    have cN := T.c_Net
    have a1 := T.na_Net_named
    have a2 := T.na_Net_roads
    refine ⟨_, (pss_cons (ps_expr (pe_meth (pv 0) c_nhas m_nhas F_nhas (hr.mono (by decide)) b_nhas d_nhas U.passN (pa_cons (pv 1) pa_nil)))
    (pss_one (ps_ret (pe_lc (own := [("number", 2), ("one", 3), ("other", 4), ("slow", 5)]) (g := (gTup K 4 (gCons (gName 2) (gCons (gName 3) (gCons (gName 4) (gCons (gName 5) gNil)))))) (by exact rfl) sc_noutof.nd (pi_list (pe_meth0 (pv 0) c_nlines m_nlines F_nlines (hr.mono (by decide)) b_nlines d_nlines U.passN)) (blkOk_by (own := [("number", 2), ("one", 3), ("other", 4), ("slow", 5)]) (N := ["self", "name", "number", "one", "other", "slow"]) (sc := defScope (inClass (top 65) 13)) (by decide +kernel)) (fun _ _ _ _ _ => (pg_tup (by exact rfl) (pgs_cons (pg_name (i := 2) sc_noutof.nd rfl (Or.inl rfl)) (pgs_cons (pg_name (i := 3) sc_noutof.nd rfl (Or.inl rfl)) (pgs_cons (pg_name (i := 4) sc_noutof.nd rfl (Or.inl rfl)) (pgs_cons (pg_name (i := 5) sc_noutof.nd rfl (Or.inl rfl)) pgs_nil)))))) (fun _ _ _ _ _ => pts_one (pt_cmpR op_eq (pv 3) (pv 1) (nomark _))) (fun _ _ _ _ _ => (pv 2)))))), ?_⟩
    obtain ⟨dx, hx⟩ := na.obj
    have fw := na.few
    walk_at "nt"
    refine ⟨x, nd, rd, ns, qs, rs, s, rfl, na, ms, ?_⟩
    walk_at "nt"
    refine ⟨x, nd, rd, ns, qs, rs, rfl, na, fun q as ls H1 hq s1 pm so oq ra => ?_⟩
    have al := ra.len
    have pl := pm.length_eq
    walk_at "nt"
    intro D hD
    refine lc_it walk_list (fun i H' => Same H1 H' ∧ H' D = some (.lst ((((ls.take i).filter fun r => decide (r.2.1 = s)).map (·.1)).map V.int))) ⟨same_new hD, upd_same⟩ (fun i H' _ h => SqL.of (h.1 _ _ oq)) ?_ ?_
    · rintro i v H3 H4 hi ⟨s3, oD⟩ ⟨rfl, hy⟩
      rw [List.getElem?_map] at hy
      obtain ⟨a, ea, rfl⟩ := Option.map_eq_some_iff.mp hy
      obtain ⟨r, er, hr⟩ := ra.get i a ea
      have hr3 : H4 a = some (.tup [V.int r.1, .str r.2.1, .str r.2.2.1, .int r.2.2.2]) := s3 _ _ hr
      have fl : ((ls.take i).filter fun r => decide (r.2.1 = s)).length ≤ 30 := by
        refine Nat.le_trans (List.length_filter_le _ _) ?_
        rw [List.length_take]
        omega
      walk_at "nt"
      refine ⟨rfl, ?_⟩
      walk_at "nt"
      refine U.i_eqStr ?_
      walk_at "nt"
      refine U.ited (fun z => ?_) (fun z => ?_)
      · walk_at "nt"
        refine ⟨_, oD, small1000 (by rw [List.length_map, List.length_map]; omega), same_own s3 hD, ?_⟩
        rw [U.take_succ_of er, List.filter_append, List.filter_cons_of_pos (by exact decide_eq_true z), List.filter_nil, List.map_append, List.map_append]
        exact upd_same
      · refine ⟨s3, ?_⟩
        rw [U.take_succ_of er, List.filter_append, List.filter_cons_of_neg (by simpa using z), List.filter_nil, List.append_nil]
        exact oD
    rintro H3 ⟨s3, oD⟩
    rw [List.length_map, al, List.take_length] at oD
    walk_at "nt"
    exact k D ls H3 (s1.free hD) (s1.trans s3) pm so oD

theorem sc_nends : FnScope ["self", "number"] ["self", "number"] (defScope (inClass (top 65) 14)) := ⟨rfl, rfl, rfl, by decide +kernel, rfl, by decide +kernel, by decide +kernel⟩
theorem ok_nends (T : Txt P w K mg A) : U.Mt P w K mg base 2 A.Net "ends" (spNEnds A) [] := by
  obtain ⟨_, _, _, F_nhasl, c_nhasl, m_nhasl, bd_nhasl⟩ := (ok_nhasl (P := P) (w := w) (base := base) T).ex
  obtain ⟨_, d_nhasl, b_nhasl⟩ := bd_nhasl 0 (by decide)
  refine T.m_Net_ends.ok sc_nends (fun vs H Q E h => ?_) (fun f cdv Ar outer s H vs Q E hr h => ?_)
  · obtain ⟨x, nd, rd, ns, qs, rs, r, rfl, na, mr, k⟩ := h
    rfl
  · obtain ⟨x, nd, rd, ns, qs, rs, r, rfl, na, mr, k⟩ := h
    have cN := T.c_Net
    have a1 := T.na_Net_named
    have a2 := T.na_Net_roads
    refine ⟨_, (pss_cons (ps_expr (pe_meth (pv 0) c_nhasl m_nhasl F_nhasl (hr.mono (by decide)) b_nhasl d_nhasl U.passN (pa_cons (pv 1) pa_nil)))
    (pss_one (ps_ret (pe_dget (Nat.lt_trans (Nat.add_lt_add_left (by decide : 1 < 64) _) hr.units) (pe_fld (pv 0) rfl) (pv 1) (fun _ _ => rfl))))), ?_⟩
    obtain ⟨dx, hx⟩ := na.obj
    obtain ⟨q2, mq, eq, ht⟩ := na.ts.memR mr
    have rd9 := na.ro
    have kd : (qs.map (·.1)).Nodup := by rw [na.keys]; exact na.rn
    walk_at "nt"
    refine ⟨x, nd, rd, ns, qs, rs, r.1, rfl, na, List.mem_map.mpr ⟨r, mr, rfl⟩, ?_⟩
    walk_at "nt"
    rw [← eq]
    refine U.i_dgtR rd9 kd mq ?_
    exact k _ ht

theorem sc_nhouses : FnScope ["self"] ["self"] (defScope (inClass (top 65) 9)) := ⟨rfl, rfl, rfl, by decide +kernel, rfl, by decide +kernel, by decide +kernel⟩
theorem ok_nhouses (T : Txt P w K mg A) : U.Mt P w K mg base 1 A.Net "houses" (spNHouses A) [] := by
  refine T.m_Net_houses.ok sc_nhouses (fun vs H Q E h => ?_) (fun f cdv Ar outer s H vs Q E hr h => ?_)
  · obtain ⟨x, nd, rd, ns, qs, rs, rfl, na, k⟩ := h
    rfl
  · obtain ⟨x, nd, rd, ns, qs, rs, rfl, na, k⟩ := h
    have cN := T.c_Net
    have a1 := T.na_Net_named
    have a2 := T.na_Net_roads
    refine ⟨_, (pss_one (ps_ret (pe_callB cr_sortedS (by rfl) T.sorted (by decide +kernel) (pa_cons (pe_callTy (call_listD (by rfl)) (by rfl) T.list (by decide +kernel) (pa_cons (pe_fld (pv 0) rfl) pa_nil)) pa_nil)))), ?_⟩
    obtain ⟨dx, hx⟩ := na.obj
    have nm := na.nm
    walk_at "nt"
    refine ⟨nd, _, rfl, .inl nm, ?_⟩
    walk_at "lay"
    rename_i z hz H1 s1 o1
    have e : ((U.nmK ns).map fun kv => kV kv.1) = ns.map V.str := by
      unfold U.nmK
      rw [List.map_map]
      rfl
    rw [e] at o1
    walk_at "nt"
    refine ⟨z, ns, rfl, SqL.of o1, by have := na.few; omega, fun ys p pm so hp => ?_⟩
    exact k p ys _ (s1.free hp) (s1.trans (same_new hp)) pm so upd_same

theorem sc_ninto : FnScope ["self", "name", "number", "one", "other", "slow"] ["self", "name"] (defScope (inClass (top 65) 12)) := ⟨rfl, rfl, rfl, by decide +kernel, rfl, by decide +kernel, by decide +kernel⟩
theorem ok_ninto (T : Txt P w K mg A) : U.Mt P w K mg base 3 A.Net "into" (spNBy A fun r => r.2.2.1) [] := by
  obtain ⟨_, _, _, F_nhas, c_nhas, m_nhas, bd_nhas⟩ := (ok_nhas (P := P) (w := w) (base := base) T).ex
  obtain ⟨_, d_nhas, b_nhas⟩ := bd_nhas 0 (by decide)
  obtain ⟨_, _, _, F_nlines, c_nlines, m_nlines, bd_nlines⟩ := (ok_nlines (P := P) (w := w) (base := base) T).ex
  obtain ⟨_, d_nlines, b_nlines⟩ := bd_nlines 0 (by decide)
  refine T.m_Net_into.ok sc_ninto (fun vs H Q E h => ?_) (fun f cdv Ar outer s H vs Q E hr h => ?_)
  · obtain ⟨x, nd, rd, ns, qs, rs, s, rfl, na, ms, k⟩ := h
    rfl
  · obtain ⟨x, nd, rd, ns, qs, rs, s, rfl, na, ms, k⟩ := h
    have cN := T.c_Net
    have a1 := T.na_Net_named
    have a2 := T.na_Net_roads
    refine ⟨_, (pss_cons (ps_expr (pe_meth (pv 0) c_nhas m_nhas F_nhas (hr.mono (by decide)) b_nhas d_nhas U.passN (pa_cons (pv 1) pa_nil)))
    (pss_one (ps_ret (pe_lc (own := [("number", 2), ("one", 3), ("other", 4), ("slow", 5)]) (g := (gTup K 4 (gCons (gName 2) (gCons (gName 3) (gCons (gName 4) (gCons (gName 5) gNil)))))) (by exact rfl) sc_ninto.nd (pi_list (pe_meth0 (pv 0) c_nlines m_nlines F_nlines (hr.mono (by decide)) b_nlines d_nlines U.passN)) (blkOk_by (own := [("number", 2), ("one", 3), ("other", 4), ("slow", 5)]) (N := ["self", "name", "number", "one", "other", "slow"]) (sc := defScope (inClass (top 65) 12)) (by decide +kernel)) (fun _ _ _ _ _ => (pg_tup (by exact rfl) (pgs_cons (pg_name (i := 2) sc_ninto.nd rfl (Or.inl rfl)) (pgs_cons (pg_name (i := 3) sc_ninto.nd rfl (Or.inl rfl)) (pgs_cons (pg_name (i := 4) sc_ninto.nd rfl (Or.inl rfl)) (pgs_cons (pg_name (i := 5) sc_ninto.nd rfl (Or.inl rfl)) pgs_nil)))))) (fun _ _ _ _ _ => pts_one (pt_cmpR op_eq (pv 4) (pv 1) (nomark _))) (fun _ _ _ _ _ => (pv 2)))))), ?_⟩
    obtain ⟨dx, hx⟩ := na.obj
    have fw := na.few
    walk_at "nt"
    refine ⟨x, nd, rd, ns, qs, rs, s, rfl, na, ms, ?_⟩
    walk_at "nt"
    refine ⟨x, nd, rd, ns, qs, rs, rfl, na, fun q as ls H1 hq s1 pm so oq ra => ?_⟩
    have al := ra.len
    have pl := pm.length_eq
    walk_at "nt"
    intro D hD
    refine lc_it walk_list (fun i H' => Same H1 H' ∧ H' D = some (.lst ((((ls.take i).filter fun r => decide (r.2.2.1 = s)).map (·.1)).map V.int))) ⟨same_new hD, upd_same⟩ (fun i H' _ h => SqL.of (h.1 _ _ oq)) ?_ ?_
    · rintro i v H3 H4 hi ⟨s3, oD⟩ ⟨rfl, hy⟩
      rw [List.getElem?_map] at hy
      obtain ⟨a, ea, rfl⟩ := Option.map_eq_some_iff.mp hy
      obtain ⟨r, er, hr⟩ := ra.get i a ea
      have hr3 : H4 a = some (.tup [V.int r.1, .str r.2.1, .str r.2.2.1, .int r.2.2.2]) := s3 _ _ hr
      have fl : ((ls.take i).filter fun r => decide (r.2.2.1 = s)).length ≤ 30 := by
        refine Nat.le_trans (List.length_filter_le _ _) ?_
        rw [List.length_take]
        omega
      walk_at "nt"
      refine ⟨rfl, ?_⟩
      walk_at "nt"
      refine U.i_eqStr ?_
      walk_at "nt"
      refine U.ited (fun z => ?_) (fun z => ?_)
      · walk_at "nt"
        refine ⟨_, oD, small1000 (by rw [List.length_map, List.length_map]; omega), same_own s3 hD, ?_⟩
        rw [U.take_succ_of er, List.filter_append, List.filter_cons_of_pos (by exact decide_eq_true z), List.filter_nil, List.map_append, List.map_append]
        exact upd_same
      · refine ⟨s3, ?_⟩
        rw [U.take_succ_of er, List.filter_append, List.filter_cons_of_neg (by simpa using z), List.filter_nil, List.append_nil]
        exact oD
    rintro H3 ⟨s3, oD⟩
    rw [List.length_map, al, List.take_length] at oD
    walk_at "nt"
    exact k D ls H3 (s1.free hD) (s1.trans s3) pm so oD

theorem sc_ntwin : FnScope ["self", "other"] ["self"] (defScope (inClass (top 65) 18)) := ⟨rfl, rfl, rfl, by decide +kernel, rfl, by decide +kernel, by decide +kernel⟩
theorem ok_ntwin (T : Txt P w K mg A) : U.Mt P w K mg base 3 A.Net "twin" (spNTwin A) [] := by
  obtain ⟨_, _, _, F_ninit, M_ninit, g_ninit, bd_ninit⟩ := (ok_ninit (P := P) (w := w) (base := base) T).ex
  obtain ⟨_, d_ninit, b_ninit⟩ := bd_ninit 0 (by decide)
  refine T.m_Net_twin.ok sc_ntwin (fun vs H Q E h => ?_) (fun f cdv Ar outer s H vs Q E hr h => ?_)
  · obtain ⟨x, nd, rd, ns, qs, rs, rfl, na, k⟩ := h
    rfl
  · obtain ⟨x, nd, rd, ns, qs, rs, rfl, na, k⟩ := h
    have cN := T.c_Net
    have a1 := T.na_Net_named
    have a2 := T.na_Net_roads
    refine ⟨_, (pss_cons (ps_set (i := 1) sc_ntwin.nd rfl (Or.inl rfl) (pe_make0 M_ninit F_ninit (hr.mono (by decide)) rfl g_ninit b_ninit d_ninit U.passN))
    (pss_cons (ps_fld (pv 1) (pe_callTy call_dictD (by rfl) T.dict (by decide +kernel) (pa_cons (pe_fld (pv 0) rfl) pa_nil)) rfl)
    (pss_cons (ps_fld (pv 1) (pe_callTy call_dictD (by rfl) T.dict (by decide +kernel) (pa_cons (pe_fld (pv 0) rfl) pa_nil)) rfl)
    (pss_one (ps_ret (pv 1)))))), ?_⟩
    obtain ⟨dx, hx⟩ := na.obj
    walk_at "nt"
    refine U.i_make ?_
    walk_at "nt"
    intro x2 dx2 np ndx nep
    refine ⟨x2, dx2, rfl, upd_same, fun nd0 rd0 H1 hnd0 hrd0 kp na0 => ⟨rfl, ?_⟩⟩
    have s1 := Same.made np ndx kp
    clear kp
    have na1 := na.same s1
    have hx1 := s1 _ _ hx
    have nm1 := na1.nm
    have ro1 := na1.ro
    obtain ⟨dx0, hx0⟩ := na0.obj
    walk_at "nt"
    refine ⟨nd, _, rfl, .inl nm1, fun nd2 hnd2 => ?_⟩
    walk_at "nt"
    have n2 : x2 ≠ nd2 := fun e => by rw [← e, hx0] at hnd2; cases hnd2
    have fre := s1.free hnd2
    have ne2 : ∀ b o, H b = some o → b ≠ x2 ∧ b ≠ nd2 := fun b o e => ⟨fun z => (by rw [z, np] at e; cases e), fun z => (by rw [z, fre] at e; cases e)⟩
    have eF : putF "named" (V.ref nd2) (netF nd0 rd0) = netF nd2 rd0 := rfl
    rw [eF]
    have sA : Same H (upd (upd H1 nd2 (.dK (U.nmK ns))) x2 (.ins A.Net dx0 (netF nd2 rd0))) := fun b o e => (upd_ne (ne2 b o e).1).trans ((upd_ne (ne2 b o e).2).trans (s1 _ _ e))
    have x2A : upd (upd H1 nd2 (.dK (U.nmK ns))) x2 (.ins A.Net dx0 (netF nd2 rd0)) x2 = some (.ins A.Net dx0 (netF nd2 rd0)) := upd_same
    have onA : upd (upd H1 nd2 (.dK (U.nmK ns))) x2 (.ins A.Net dx0 (netF nd2 rd0)) nd2 = some (.dK (U.nmK ns)) := (upd_ne n2.symm).trans upd_same
    generalize upd (upd H1 nd2 (.dK (U.nmK ns))) x2 (.ins A.Net dx0 (netF nd2 rd0)) = HA at sA x2A onA ⊢
    clear hx1 nm1 ro1 na1 na0 hx0 s1 eF hnd0 hrd0
    have hxA := sA _ _ hx
    have roA := sA _ _ na.ro
    walk_at "nt"
    refine ⟨rd, _, rfl, .inl roA, fun rd2 hrd2 => ?_⟩
    have frr := sA.free hrd2
    have n3 : rd2 ≠ x2 := fun e => by rw [e, x2A] at hrd2; cases hrd2
    have n4 : rd2 ≠ nd2 := fun e => by rw [e, onA] at hrd2; cases hrd2
    have x2B : upd HA rd2 (.dK (U.rdK qs)) x2 = some (.ins A.Net dx0 (netF nd2 rd0)) := (upd_ne n3.symm).trans x2A
    walk_at "nt"
    have kB : ∀ b o, H b = some o → upd (upd HA rd2 (.dK (U.rdK qs))) x2 (.ins A.Net dx0 (netF nd2 rd2)) b = some o := fun b o e => (upd_ne (ne2 b o e).1).trans ((upd_ne (fun z => by rw [z, frr] at e; cases e)).trans (sA _ _ e))
    exact k x2 nd2 rd2 _ np fre frr kB ⟨⟨dx0, upd_same⟩, (upd_ne n2.symm).trans ((upd_ne n4.symm).trans onA), (upd_ne n3).trans upd_same, na.ts.imp fun _ _ e => ⟨e.1, kB _ _ e.2⟩, na.few, na.nn, na.rn, n4.symm⟩

end
end Lw
end

section
set_option Elab.async false
set_option linter.all false
set_option maxRecDepth 100000
set_option maxHeartbeats 4000000
/-! ### own steps (local) -/
local macro_rules | `(tactic| walk_at "hp") => `(tactic| first
  | assumption
  | exact L2.upd_same
  | ((with_reducible refine U.upd_new ?_ ?_); (focus (first | assumption | done)); walk_at "hp")
  | ((with_reducible refine U.upd_ne'' ?_ ?_); (focus (first | assumption | (apply Ne.symm; assumption))); walk_at "hp")
  | ((with_reducible refine' U.Same.get ?hx ?hy); (case hx => assumption); (case hy => walk_at "hp"))
  | ((with_reducible refine' U.ExtN.lst ?hx ?hy); (case hx => assumption); (case hy => walk_at "hp"))
  | ((with_reducible refine' U.ExtN.tup ?hx ?hy); (case hx => assumption); (case hy => walk_at "hp"))
  | ((with_reducible refine' U.ExtN.ins ?hx ?hy); (case hx => assumption); (case hy => walk_at "hp"))
  | fail "hp")
local macro_rules | `(tactic| walk_at "lay") => `(tactic| (intro p hn; generalize hg : L2.upd _ p _ = H'; have hs := U.same_of hg hn; have ho := U.at_of hg; clear hg))
local macro_rules | `(tactic| walk_at "sz") => `(tactic| first | decide | (show _ ≤ PySem.sizeLine; rw [PySem.sizeLine_eq]; (try simp only [List.length_cons, List.length_nil, List.length_map]); omega))
local macro_rules | `(tactic| walk_at "ref'") => `(tactic| skip)
local macro_rules | `(tactic| walk_at "rd1") => `(tactic| first
  | (with_reducible refine' U.i_seq ?_)
  | (with_reducible refine' U.i_asg ?_)
  | (with_reducible refine' U.i_ret ?_)
  | (with_reducible refine' U.i_ifS ?_)
  | (with_reducible refine' U.i_drop ?_)
  | ((with_reducible refine' U.i_var ?hx ?_); (case hx => rfl))
  | (with_reducible refine' U.i_c ?_)
  | (with_reducible refine' U.i_op ?_)
  | (with_reducible refine' U.i_un ?_)
  | (with_reducible refine' U.i_name ?_)
  | (with_reducible refine' U.i_gsub ?_)
  | (with_reducible refine' U.i_test ?_)
  | (with_reducible refine' U.i_tB ?_)
  | (with_reducible refine' U.i_bl ?_)
  | (with_reducible refine' U.i_not ?_)
  | (with_reducible refine' U.i_nil ?_)
  | (with_reducible refine' U.i_cons ?_)
  | (with_reducible refine' U.i_cb ?_)
  | (with_reducible refine' U.i_call ?_)
  | (with_reducible refine' U.i_fld ?_)
  | ((with_reducible refine' U.i_fld' ?hx ?hy ?hz ?hw ?_); (case hx => walk_at "hp"); (case hy => assumption); (case hz => assumption); (case hw => rfl))
  | (with_reducible refine' U.i_meth ?_)
  | ((with_reducible refine' U.i_meth' ?hx ?hy ?_); (case hx => walk_at "hp"); (case hy => rfl))
  | (with_reducible refine' U.i_add ?_)
  | (with_reducible refine' U.i_sub ?_)
  | ((with_reducible refine' U.i_mul ?hx ?_); (case hx => (first | (left; constructor <;> omega) | (right; constructor <;> omega))))
  | ((with_reducible refine' U.i_mod ?hx ?_); (case hx => omega))
  | ((with_reducible refine' U.i_fdiv ?hx ?_); (case hx => (constructor <;> omega)))
  | ((with_reducible refine' U.i_pow ?hx ?_); (case hx => (refine ⟨?_, ?_, ?_⟩ <;> decide)))
  | (with_reducible refine' U.i_lt ?_)
  | (with_reducible refine' U.i_le ?_)
  | (with_reducible refine' U.i_gt ?_)
  | (with_reducible refine' U.i_ge ?_)
  | (with_reducible refine' U.i_eqI ?_)
  | (with_reducible refine' U.i_neI ?_)
  | (with_reducible refine' U.i_rU ?_)
  | (with_reducible refine' U.i_abs ?_)
  | (with_reducible refine' U.i_callN ?_)
  | ((with_reducible refine' U.i_lens ?hx ?hy ?_); (case hx => rfl); (case hy => rfl))
  | ((with_reducible refine' U.i_ixL ?hx ?hy ?_); (case hx => exact L2.SqL.of (by walk_at "hp")); (case hy => rfl))
  | ((with_reducible refine' U.i_lenL ?hx ?_); (case hx => exact L2.SqL.of (by walk_at "hp")))
  | ((with_reducible refine' U.i_setL ?hx ?hy ?_); (case hx => walk_at "hp"); (case hy => rfl))
  | (with_reducible refine' U.i_augS ?_)
  | ((with_reducible refine' U.i_aug ?hx ?_); (case hx => rfl))
  | (with_reducible refine' U.i_ipI ?_)
  | ((with_reducible refine' U.i_ipMul ?hx ?_); (case hx => (first | (left; constructor <;> omega) | (right; constructor <;> omega))))
  | ((with_reducible refine' U.i_gtup ?hx ?hy ?_); (case hx => exact L2.SqT.of (by walk_at "hp")); (case hy => rfl))
  | (with_reducible refine' U.i_gcons ?_)
  | (with_reducible refine' U.i_gnil ?_)
  | ((with_reducible refine' U.i_divmod ?hx ?_); (case hx => (constructor <;> omega)); walk_at "lay")
  | (with_reducible refine' U.i_tup ?_)
  | (with_reducible refine' U.i_lst ?_)
  | ((with_reducible refine' U.lay_and ?hx ?_); (case hx => walk_at "sz"); walk_at "lay")
  | (with_reducible refine' U.i_sl ?_)
  | (with_reducible refine' U.i_part ?_)
  | (with_reducible refine' U.i_part' ?_)
  | (with_reducible refine' U.i_nopart ?_)
  | ((with_reducible refine' U.i_slL ?hx ?_); (case hx => exact L2.SqL.of (by walk_at "hp")); walk_at "lay")
  | (with_reducible refine' U.i_bm ?_)
  | ((with_reducible refine' U.i_bm' ?hx ?_); (case hx => walk_at "hp"))
  | ((with_reducible refine' U.i_append ?hx ?hy ?_); (case hx => walk_at "hp"); (case hy => walk_at "szl"))
  | ((with_reducible refine' U.i_chLL ?hx ?hy ?_); (case hx => rfl); (case hy => rfl))
  | (with_reducible refine' U.i_chain ?_)
  | (with_reducible refine' U.i_rng1 ?_)
  | ((with_reducible refine' U.i_rng1' ?hx ?hy ?_); (case hx => omega); (case hy => omega))
  | (with_reducible refine' U.i_rng2 ?_)
  | ((with_reducible refine' U.i_rng2' ?hx ?_); (case hx => (refine ⟨?_, ?_, ?_, ?_⟩ <;> omega)))
  | (with_reducible refine' U.i_rng3 ?_)
  | (with_reducible refine' U.i_enum ?_)
  | ((with_reducible refine' U.i_enum' ?hx ?_); (case hx => exact L2.SqL.of (by walk_at "hp")))
  | (with_reducible refine' U.i_enumT ?_)
  | ((with_reducible refine' U.i_enumT' ?hx ?_); (case hx => exact L2.SqT.of (by walk_at "hp")))
  | (with_reducible refine' U.i_rev ?_)
  | ((with_reducible refine' U.i_rev' ?hx ?_); (case hx => exact L2.SqL.of (by walk_at "hp")))
  | (with_reducible refine' U.i_plist ?_)
  | ((with_reducible refine' U.i_plist' ?hx ?_); (case hx => exact L2.SqL.of (by walk_at "hp")))
  | (with_reducible refine' U.i_for ?_)
  | (with_reducible refine' U.i_sfld ?_)
  | ((with_reducible refine' U.i_sfld' ?hx ?hy ?hz ?hw ?_); (case hx => walk_at "hp"); (case hy => assumption); (case hz => assumption); (case hw => exact Nat.le_of_ble_eq_true rfl))
  | (with_reducible refine' U.i_lc ?_)
  | (with_reducible refine' U.i_par3 ?_)
  | (with_reducible refine' U.i_par3' ?_)
  | (with_reducible refine' U.i_par ?_)
  | (with_reducible refine' U.i_par' ?_)
  | (with_reducible refine' U.i_lrg ?_)
  | (with_reducible refine' U.i_rg1 ?_)
  | (with_reducible refine' U.i_rg1' ?_)
  | (with_reducible refine' U.i_pl ?_)
  | ((with_reducible refine' U.i_pl' ?hx ?hy ?_); (case hx => walk_at "hp"); (case hy => exact Nat.le_of_ble_eq_true rfl))
  | (with_reducible refine' U.i_rAdd ?_)
  | ((with_reducible refine' U.i_listOf ?hx ?_); (case hx => exact L2.SqL.of (by walk_at "hp")); walk_at "lay")
  | (with_reducible refine' U.i_intB ?_)
  | (with_reducible refine' U.i_wget ?_)
  | ((with_reducible refine' U.i_tupleOf ?hx ?_); (case hx => walk_at "hp"); walk_at "lay")
  | ((with_reducible refine' U.i_repA ?hx ?hn ?h0 ?h1 ?h2 ?_); (case hx => walk_at "hp"); (case hn => simp); (case h0 => omega); (case h1 => omega); (case h2 => simp); intro p H' hs ho)
  | ((with_reducible refine' U.i_catA ?hx ?hy ?hz ?_); (case hx => walk_at "hp"); (case hy => walk_at "hp"); (case hz => walk_at "sz"); intro p H' hs ho)
  | ((with_reducible refine' U.i_slA ?hx ?_); (case hx => walk_at "hp"); intro p H' hs ho)
  | (with_reducible refine' U.i_zipS ?_)
  | ((with_reducible refine' U.i_zipTT ?hx ?hy ?_); (case hx => exact L2.SqT.of (by walk_at "hp")); (case hy => exact L2.SqT.of (by walk_at "hp")))
  | ((with_reducible refine' U.i_zipLL ?hx ?hy ?_); (case hx => exact L2.SqL.of (by walk_at "hp")); (case hy => exact L2.SqL.of (by walk_at "hp")))
  | (with_reducible refine' U.i_ptup ?_)
  | ((with_reducible refine' U.i_ptup' ?hx ?_); (case hx => exact L2.SqT.of (by walk_at "hp")))
  | ((with_reducible refine' U.i_lenT ?hx ?_); (case hx => exact L2.SqT.of (by walk_at "hp")))
  | (with_reducible refine' U.i_yes ?_)
  | (with_reducible refine' L2.iteT ?_)
  | (with_reducible refine' U.i_next ?_)
  | fail "rd1")
local macro_rules | `(tactic| walk_at "szl") => `(tactic| first | decide | (refine L2.small1000 ?_; (try simp only [List.length_cons, List.length_nil, List.length_map]); omega))
local macro_rules | `(tactic| walk_at "rd") => `(tactic| (repeat walk_at "rd1"))
local macro_rules | `(tactic| walk_at "ro") => `(tactic| (refine' U.i_or ?_; walk_at "rd"))
local macro_rules | `(tactic| walk_at "ra") => `(tactic| (refine' U.i_pt ?_; walk_at "rd"))
local macro_rules | `(tactic| walk_at "gd") => `(tactic| (repeat (first | walk_at "rd1" | (with_reducible refine' U.i_andV ?_))))

namespace Lw
open PySem L2 U LamX
local macro_rules | `(tactic| walk_at "fa") => `(tactic| first
  | assumption
  | ((with_reducible refine' Lw.FA.same ?hx ?hy); (case hy => assumption); (case hx => walk_at "fa"))
  | fail "fa")
local macro_rules | `(tactic| walk_at "bg") => `(tactic| first
  | assumption
  | ((with_reducible refine' Lw.Bag.same ?hx ?hy); (case hy => assumption); (case hx => walk_at "bg"))
  | fail "bg")
local macro_rules | `(tactic| walk_at "op2") => `(tactic| (refine' Lw.spOp.go ?fa ?ra ?rb ?q; (case fa => walk_at "fa"); (case ra => constructor <;> omega); (case rb => constructor <;> omega); intro H' s'; walk_at "rd"))

local macro_rules | `(tactic| walk_at "ty") => `(tactic| first | exact .base (.int _) | exact .base (.str _) | exact .base (.bl _) | exact .base .non | exact .base (.lst (by walk_at "hp")) | exact .base (.tup (by walk_at "hp")))
local macro_rules | `(tactic| walk_at "al") => `(tactic| (repeat (first
  | walk_at "rd1"
  | (with_reducible refine' U.i_andV ?_)
  | (with_reducible refine' U.i_notV ?_)
  | (with_reducible refine' U.i_truth ?_)
  | (with_reducible refine' U.i_or ?_)
  | (with_reducible refine' U.i_pt ?_)
  | ((with_reducible refine' U.i_isNT ?hx ?_); (case hx => rfl))
  | ((with_reducible refine' U.i_isNF ?hx ?_); (case hx => (intro z; cases z)))
  | ((with_reducible refine' U.i_isiT ?hx ?hy ?_); (case hx => walk_at "ty"); (case hy => decide +kernel))
  | ((with_reducible refine' U.i_isiF ?hx ?hy ?_); (case hx => walk_at "ty"); (case hy => decide +kernel))
  | (with_reducible refine' U.i_neBB ?_)
  | (with_reducible refine' U.i_eqBB ?_)
  | (with_reducible refine' U.i_eqSS ?_)
  | ((with_reducible refine' U.i_lenL ?hx ?_); (case hx => exact L2.SqL.of (by walk_at "hp")))
  | ((with_reducible refine' U.i_lenT ?hx ?_); (case hx => exact L2.SqT.of (by walk_at "hp")))
  | (with_reducible refine' U.iteT' ?_)
  | (with_reducible refine' U.iteF' ?_)
  | fail "al")))

local macro_rules | `(tactic| walk_at "gq") => `(tactic| (repeat (first | ((fail_if_success (with_reducible refine' U.i_seq ?_)); (first | walk_at "rd1" | (with_reducible refine' U.i_andV ?_))) | fail "gq")))
local macro_rules | `(tactic| walk_at "rq") => `(tactic| (repeat (first | ((fail_if_success (with_reducible refine' U.i_seq ?_)); walk_at "rd1") | fail "rq")))
local macro_rules | `(tactic| walk_at "nt") => `(tactic| (repeat (first
  | walk_at "rd1"
  | (with_reducible refine' U.i_dni ?_)
  | (with_reducible refine' U.i_din ?_)
  | (with_reducible refine' U.i_dgt ?_)
  | (with_reducible refine' U.i_dpt ?_)
  | (with_reducible refine' U.i_dnew ?_)
  | ((with_reducible refine' U.i_dniN ?hx ?_); (case hx => walk_at "hp"))
  | ((with_reducible refine' U.i_dinN ?hx ?_); (case hx => walk_at "hp"))
  | ((with_reducible refine' U.i_dniR ?hx ?_); (case hx => walk_at "hp"))
  | ((with_reducible refine' U.i_dinR ?hx ?_); (case hx => walk_at "hp"))
  | (with_reducible refine' U.i_or ?_)
  | (with_reducible refine' U.i_pt ?_)
  | fail "nt")))
local macro_rules | `(tactic| walk_at "wt") => `(tactic| (repeat (first
  | ((fail_if_success (with_reducible refine' U.i_seq ?_)); walk_at "rd1")
  | (with_reducible refine' U.i_dni ?_)
  | (with_reducible refine' U.i_din ?_)
  | (with_reducible refine' U.i_dgt ?_)
  | (with_reducible refine' U.i_dpt ?_)
  | (with_reducible refine' U.i_dnew ?_)
  | ((with_reducible refine' U.i_dniU ?hx ?_); (case hx => walk_at "hp"))
  | ((with_reducible refine' U.i_dinU ?hx ?_); (case hx => walk_at "hp"))
  | ((with_reducible refine' U.i_dniS ?hx ?_); (case hx => walk_at "hp"))
  | ((with_reducible refine' U.i_dinS ?hx ?_); (case hx => walk_at "hp"))
  | (with_reducible refine' U.i_pt ?_)
  | fail "wt")))

theorem i_break {D : L2.Ends} {σ : L2.St} {H : Hp} (q : D.bk σ H) : tBreak D σ H := q
theorem ready_all {rs : List Road} {told : List Str} {v : Str} (n : v ∉ told) : (((rs.filter fun r : Road => decide (r.2.2.1 = v)).map fun r : Road => decide (r.2.1 ∈ told)).all id) = FO.ready rOne rTwo rs told v := by
  have h : (((rs.filter fun r : Road => decide (r.2.2.1 = v)).map fun r : Road => decide (r.2.1 ∈ told)).all id) = true ↔ FO.ready rOne rTwo rs told v = true := by
    rw [FO.ready_iff, List.all_eq_true]
    constructor
    · intro h
      refine ⟨n, fun r m e => ?_⟩
      exact of_decide_eq_true (h _ (List.mem_map.mpr ⟨r, List.mem_filter.mpr ⟨m, decide_eq_true e⟩, rfl⟩))
    · rintro ⟨_, h⟩ b mb
      obtain ⟨r, mr, rfl⟩ := List.mem_map.mp mb
      obtain ⟨m1, m2⟩ := List.mem_filter.mp mr
      exact decide_eq_true (h r m1 (of_decide_eq_true m2))
  cases a : FO.ready rOne rTwo rs told v with
  | true => exact h.mpr a
  | false => exact Bool.eq_false_iff.mpr fun e => by rw [h.mp e] at a; cases a
section
variable {P : Program} {w : World} {K : PySem.W.Frag} {mg : Str → Option Value} {base : Heap} {A : Ad}
theorem sc_told : FnScope ["self", "told", "going", "name", "one", "other", "slow"] ["self"] (defScope (inClass (top 65) 15)) := ⟨rfl, rfl, rfl, by decide +kernel, rfl, by decide +kernel, by decide +kernel⟩
theorem ok_told (T : Txt P w K mg A) : U.Mt P w K mg base 2 A.Net "told_order" (spTold A) [] := by
  obtain ⟨_, _, _, F_nhouses, c_nhouses, m_nhouses, bd_nhouses⟩ := (ok_nhouses (P := P) (w := w) (base := base) T).ex
  obtain ⟨_, d_nhouses, b_nhouses⟩ := bd_nhouses 0 (by decide)
  refine T.m_Net_told_order.ok sc_told (fun vs H Q E h => ?_) (fun f cdv Ar outer s H vs Q E hr h => ?_)
  · obtain ⟨x, nd, rd, ns, qs, rs, rfl, na, k⟩ := h
    rfl
  · obtain ⟨x, nd, rd, ns, qs, rs, rfl, na, k⟩ := h
    have cN := T.c_Net
    have a1 := T.na_Net_named
    have a2 := T.na_Net_roads
    refine ⟨_, (pss_cons (ps_set (i := 1) sc_told.nd rfl (Or.inr rfl) (pe_lst pa_nil))
    (pss_cons (ps_set (i := 2) sc_told.nd rfl (Or.inl rfl) pe_bl)
    (pss_cons (ps_while (passes_of (by exact rfl)) (pt_val (pv 2))
    (pss_cons (ps_set (i := 2) sc_told.nd rfl (Or.inl rfl) pe_bl)
    (pss_one (ps_for (passes_of (by exact rfl)) (by exact rfl) (pi_list (pe_meth0 (pv 0) c_nhouses m_nhouses F_nhouses (hr.mono (by decide)) b_nhouses d_nhouses U.passN)) (pg_name (i := 3) sc_told.nd rfl (Or.inr rfl))
    (pss_one (ps_if (PW.pt (pw_and (pt_cmpR op_notIn_seq (pv 3) (pv 1) (by rfl)) (pw_and1 (pt_val (pe_callB (cr_all rfl) (by rfl) T.all (by decide +kernel) (pa_cons (pe_lock (pe_lc (own := [("one", 4), ("other", 5), ("slow", 6)]) (g := (gTup K 3 (gCons (gName 4) (gCons (gName 5) (gCons (gName 6) gNil))))) (by exact rfl) sc_told.nd (pi_values (pe_fld (pv 0) rfl)) (blkOk_by (own := [("one", 4), ("other", 5), ("slow", 6)]) (N := ["self", "told", "going", "name", "one", "other", "slow"]) (sc := defScope (inClass (top 65) 15)) (by decide +kernel)) (fun _ _ _ _ _ => (pg_tup (by exact rfl) (pgs_cons (pg_name (i := 4) sc_told.nd rfl (Or.inl rfl)) (pgs_cons (pg_name (i := 5) sc_told.nd rfl (Or.inl rfl)) (pgs_cons (pg_name (i := 6) sc_told.nd rfl (Or.inl rfl)) pgs_nil))))) (fun _ _ _ _ _ => pts_one (pt_cmpR op_eq (pv 5) (pv 3) (nomark _))) (fun _ _ _ _ _ => (pe_cmpR (U.inK K rfl) (pv 4) (pv 1) (by rfl))))) pa_nil))))))
    (pss_cons (ps_expr (pe_bm PySem.F.plainAttrs_list PySem.F.slot_list_append PySem.F.type_list_append mt_append (pv 1) (pa_cons (pv 3) pa_nil)))
    (pss_cons (ps_set (i := 2) sc_told.nd rfl (Or.inl rfl) pe_bl)
    (pss_one ps_break)))
    pss_nil))))))
    (pss_one (ps_ret (pv 1)))))), ?_⟩
    obtain ⟨dx, hx⟩ := na.obj
    walk_at "wt"
    with_reducible refine U.i_seq ?_
    walk_at "wt"
    rename_i t ht H1 s1 ot
    with_reducible refine U.i_seq ?_
    walk_at "wt"
    with_reducible refine U.i_seq ?_
    obtain ⟨hs0, pm0, so0⟩ := U.sorted_ex ns
    refine ⟨WTold rs ns H x t, ⟨_, 0, hs0, true, _, _, _, _, rfl, s1, pm0, so0, ot, rfl, nofun, rfl⟩, ?_⟩
    rintro m σ H2 ⟨k9, hs, g, v3, v4, v5, v6, rfl, s2, pm, so, ot2, lk, gn, rfl⟩
    walk_at "wt"
    cases g with
    | false =>
      refine U.iteF' ?_
      walk_at "wt"
      rw [FO.ord_of lk (gn rfl)] at ot2
      exact k t hs H2 ht s2 pm so ot2
    | true => ?_
    refine U.iteT' ?_
    have hx2 := s2 _ _ hx
    have na2 := na.same s2
    have few := na.few
    refine ⟨fun σ' H' => ∃ m', m' < (if true = true then 1 else 0) + 2 * (12 - k9) ∧ WTold rs ns H x t m' σ' H', fun _ _ h => h, ?_⟩
    walk_at "wt"
    with_reducible refine U.i_seq ?_
    walk_at "wt"
    refine ⟨x, nd, rd, ns, qs, rs, rfl, na2, fun p hs1 H3 hp s3 pm1 so1 op => ?_⟩
    have e1 : hs = hs1 := U.sortedS_one (pm.trans pm1.symm) so so1
    subst e1
    have s23 := s2.trans s3
    have ot3 := s3 _ _ ot2
    have hl := pm.length_eq
    have k12 : (FO.iter rOne rTwo hs rs (k9 + 1)).length ≤ 12 := by
      obtain ⟨d, sb⟩ := FO.iter_ok (one := rOne) (two := rTwo) (hs := hs) (rs := rs) (k9 + 1)
      have := FO.pigeon _ _ d sb
      omega
    generalize eT : FO.iter rOne rTwo hs rs k9 = T9 at ot2 ot3 lk gn
    walk_at "wt"
    refine for_it walk_list (fun j σ H' => ∃ v3 v4 v5 v6, σ = [some (.ref x), some (.ref t), some (.bl false), v3, v4, v5, v6] ∧ Same H3 H' ∧ ∀ v ∈ hs.take j, FO.ready rOne rTwo rs T9 v = false) ⟨_, _, _, _, rfl, Same.refl _, by simp⟩ (fun j σ H' _ h => by obtain ⟨_, _, _, _, _, h, _⟩ := h; exact SqL.of (h _ _ op)) ?_ ?_
    rotate_left
    · rintro σ H4 ⟨v3, v4, v5, v6, rfl, s4, no⟩
      rw [List.length_map, List.take_length] at no
      refine ⟨_, ?_, k9, hs, false, _, _, _, _, rfl, s23.trans s4, pm, so, by rw [eT]; exact s4 _ _ ot3, by rw [eT]; exact lk, fun _ => List.find?_eq_none.mpr fun v m => by rw [eT, no v m]; exact Bool.false_ne_true, rfl⟩
      simp
    rintro j v σ H4 H5 hj ⟨v3, v4, v5, v6, rfl, s4, no⟩ ⟨rfl, hy⟩
    rw [List.getElem?_map] at hy
    obtain ⟨nm, en, rfl⟩ := Option.map_eq_some_iff.mp hy
    have hx5 := (s3.trans s4) _ _ hx2
    have ot5 := s4 _ _ ot3
    have ro5 := (s23.trans s4) _ _ na.ro
    have ts5 := na.ts.imp fun _ _ e => And.intro e.1 ((s23.trans s4) _ _ e.2)
    walk_at "wt"
    have stay : FO.ready rOne rTwo rs T9 nm = false → ∀ v ∈ hs.take (j + 1), FO.ready rOne rTwo rs T9 v = false := fun nr v m => by
      rw [U.take_succ_of en] at m
      rcases List.mem_append.mp m with m | m
      · exact no v m
      · rw [List.mem_singleton.mp m]
        exact nr
    refine i_notInS ot5 ?_
    by_cases z1 : nm ∈ T9
    · rw [decide_eq_true z1]
      refine ⟨_, rfl, U.iteF' ?_⟩
      rw [if_neg (by simp)]
      walk_at "wt"
      refine ⟨_, _, _, _, rfl, s4, stay ?_⟩
      cases e : FO.ready rOne rTwo rs T9 nm with
      | false => rfl
      | true => exact absurd z1 (FO.ready_iff.mp e).1
    rw [decide_eq_false z1]
    refine ⟨_, rfl, U.iteT' ?_⟩
    walk_at "wt"
    refine i_lock ro5 trivial fun od => ?_
    have hx6 : upd H5 rd (.frz od (.dK (U.rdK qs))) x = some (.ins A.Net dx (netF nd rd)) := (upd_ne (U.ne_of_get hx5 ro5 nofun)).trans hx5
    have hr6 : upd H5 rd (.frz od (.dK (U.rdK qs))) rd = some (.frz od (.dK (U.rdK qs))) := upd_same
    have ot6 : upd H5 rd (.frz od (.dK (U.rdK qs))) t = some (.lst (T9.map V.str)) := (upd_ne (U.ne_of_get ot5 ro5 nofun)).trans ot5
    have ts6 : U.All2 (EntR (upd H5 rd (.frz od (.dK (U.rdK qs))))) qs rs := ts5.imp fun _ _ e => ⟨e.1, (upd_ne (U.ne_of_get e.2 ro5 nofun)).trans e.2⟩
    generalize ef : upd H5 rd (.frz od (.dK (U.rdK qs))) = Hf at hx6 hr6 ot6 ts6 ⊢
    refine U.i_lc ?_
    refine i_vals ?_
    walk_at "wt"
    refine ⟨rd, od, _, rfl, hr6, ?_⟩
    intro D hD
    refine lc_it walk_values (fun i H' => Same Hf H' ∧ H' D = some (.lst (((((rs.take i).filter fun r => decide (r.2.2.1 = nm)).map fun r => decide (r.2.1 ∈ T9))).map V.bl))) ⟨same_new hD, upd_same⟩ (fun i H' _ h => h.1 _ _ hr6) ?_ ?_
    · rintro i v H7 H8 hi ⟨s7, oD⟩ ⟨rfl, kk, hy⟩
      unfold U.rdK at hy
      rw [List.getElem?_map] at hy
      obtain ⟨q, eq, e2⟩ := Option.map_eq_some_iff.mp hy
      cases e2
      obtain ⟨r, er, en2, ht⟩ := ts6.get i q eq
      have ht8 : H8 q.2 = some (.tup [.str r.2.1, .str r.2.2.1, .int r.2.2.2]) := s7 _ _ ht
      have ot8 := s7 _ _ ot6
      have fl : ((rs.take i).filter fun r => decide (r.2.2.1 = nm)).length ≤ 30 := by
        refine Nat.le_trans (List.length_filter_le _ _) ?_
        rw [List.length_take]
        omega
      walk_at "wt"
      refine ⟨rfl, ?_⟩
      walk_at "wt"
      refine U.i_eqStr ?_
      refine ⟨_, rfl, ?_⟩
      refine U.ited (fun z => ?_) (fun z => ?_)
      rotate_left
      · refine ⟨s7, ?_⟩
        rw [U.take_succ_of er, List.filter_append, List.filter_cons_of_neg (by simpa using z), List.filter_nil, List.append_nil]
        exact oD
      walk_at "wt"
      refine i_inS ot8 ?_
      refine ⟨_, oD, small1000 (by rw [List.length_map, List.length_map]; omega), same_own s7 hD, ?_⟩
      rw [U.take_succ_of er, List.filter_append, List.filter_cons_of_pos (by exact decide_eq_true z), List.filter_nil, List.map_append, List.map_append]
      exact upd_same
    rintro H7 ⟨s7, oD⟩
    refine ⟨s7 _ _ hr6, ?_⟩
    have s9 : Same H5 (upd H7 rd (.dK (U.rdK qs))) := lock_same ro5 (by rw [ef]; exact s7)
    have nDr : D ≠ rd := fun e => by rw [e, hr6] at hD; cases hD
    have oD9 : upd H7 rd (.dK (U.rdK qs)) D = _ := (upd_ne nDr).trans oD
    generalize upd H7 rd (.dK (U.rdK qs)) = H9 at s9 oD9 ⊢
    have ql : (U.rdK qs).length = rs.length := by unfold U.rdK; rw [List.length_map]; exact na.ts.len
    rw [ql, List.take_length] at oD9
    walk_at "wt"
    refine U.i_all oD9 ?_
    rw [ready_all z1]
    refine ⟨_, rfl, ?_⟩
    cases ry : FO.ready rOne rTwo rs T9 nm with
    | false =>
      refine U.iteF' ?_
      walk_at "wt"
      exact ⟨_, _, _, _, rfl, s4.trans s9, stay ry⟩
    | true => ?_
    refine U.iteT' ?_
    have nx : FO.nxt rOne rTwo hs rs T9 = some nm := by
      have hjl := (List.getElem?_eq_some_iff.mp en)
      obtain ⟨hj1, ej⟩ := hjl
      refine List.find?_eq_some_iff_getElem.mpr ⟨ry, j, hj1, ej, fun i li => ?_⟩
      rw [no _ (List.mem_iff_getElem?.mpr ⟨i, by rw [List.getElem?_take_of_lt li]; exact List.getElem?_eq_getElem _⟩)]
      rfl
    have gr : FO.iter rOne rTwo hs rs (k9 + 1) = T9 ++ [nm] := by
      show FO.grow _ _ _ _ _ = _
      unfold FO.grow
      rw [eT, nx]
      rfl
    rw [gr, List.length_append, lk] at k12
    have k12' : k9 + 1 ≤ 12 := k12
    have ot9 := s9 _ _ ot5
    have tH : H t = none := ht
    have sA : Same H H9 := s23.trans (s4.trans s9)
    walk_at "wt"
    with_reducible refine U.i_seq ?_
    walk_at "wt"
    with_reducible refine U.i_seq ?_
    walk_at "wt"
    show ∃ m', m' < (if true = true then 1 else 0) + 2 * (12 - k9) ∧ WTold rs ns H x t m' _ _
    refine ⟨2 * (12 - (k9 + 1)) + 1, by rw [if_pos rfl]; omega, k9 + 1, hs, true, _, _, _, _, rfl, same_own sA tH, pm, so, ?_, by rw [gr, List.length_append, lk]; rfl, nofun, by rw [if_pos rfl]; omega⟩
    rw [gr, List.map_append]
    exact upd_same

end
end Lw
end

section
set_option Elab.async false
set_option linter.all false
set_option maxRecDepth 100000
set_option maxHeartbeats 4000000
/-! ### own steps (local) -/
local macro_rules | `(tactic| walk_at "hp") => `(tactic| first
  | assumption
  | exact L2.upd_same
  | ((with_reducible refine U.upd_new ?_ ?_); (focus (first | assumption | done)); walk_at "hp")
  | ((with_reducible refine U.upd_ne'' ?_ ?_); (focus (first | assumption | (apply Ne.symm; assumption))); walk_at "hp")
  | ((with_reducible refine' U.Same.get ?hx ?hy); (case hx => assumption); (case hy => walk_at "hp"))
  | ((with_reducible refine' U.ExtN.lst ?hx ?hy); (case hx => assumption); (case hy => walk_at "hp"))
  | ((with_reducible refine' U.ExtN.tup ?hx ?hy); (case hx => assumption); (case hy => walk_at "hp"))
  | ((with_reducible refine' U.ExtN.ins ?hx ?hy); (case hx => assumption); (case hy => walk_at "hp"))
  | fail "hp")
local macro_rules | `(tactic| walk_at "lay") => `(tactic| (intro p hn; generalize hg : L2.upd _ p _ = H'; have hs := U.same_of hg hn; have ho := U.at_of hg; clear hg))
local macro_rules | `(tactic| walk_at "sz") => `(tactic| first | decide | (show _ ≤ PySem.sizeLine; rw [PySem.sizeLine_eq]; (try simp only [List.length_cons, List.length_nil, List.length_map]); omega))
local macro_rules | `(tactic| walk_at "ref'") => `(tactic| skip)
local macro_rules | `(tactic| walk_at "rd1") => `(tactic| first
  | (with_reducible refine' U.i_seq ?_)
  | (with_reducible refine' U.i_asg ?_)
  | (with_reducible refine' U.i_ret ?_)
  | (with_reducible refine' U.i_ifS ?_)
  | (with_reducible refine' U.i_drop ?_)
  | ((with_reducible refine' U.i_var ?hx ?_); (case hx => rfl))
  | (with_reducible refine' U.i_c ?_)
  | (with_reducible refine' U.i_op ?_)
  | (with_reducible refine' U.i_un ?_)
  | (with_reducible refine' U.i_name ?_)
  | (with_reducible refine' U.i_gsub ?_)
  | (with_reducible refine' U.i_test ?_)
  | (with_reducible refine' U.i_tB ?_)
  | (with_reducible refine' U.i_bl ?_)
  | (with_reducible refine' U.i_not ?_)
  | (with_reducible refine' U.i_nil ?_)
  | (with_reducible refine' U.i_cons ?_)
  | (with_reducible refine' U.i_cb ?_)
  | (with_reducible refine' U.i_call ?_)
  | (with_reducible refine' U.i_fld ?_)
  | ((with_reducible refine' U.i_fld' ?hx ?hy ?hz ?hw ?_); (case hx => walk_at "hp"); (case hy => assumption); (case hz => assumption); (case hw => rfl))
  | (with_reducible refine' U.i_meth ?_)
  | ((with_reducible refine' U.i_meth' ?hx ?hy ?_); (case hx => walk_at "hp"); (case hy => rfl))
  | (with_reducible refine' U.i_add ?_)
  | (with_reducible refine' U.i_sub ?_)
  | ((with_reducible refine' U.i_mul ?hx ?_); (case hx => (first | (left; constructor <;> omega) | (right; constructor <;> omega))))
  | ((with_reducible refine' U.i_mod ?hx ?_); (case hx => omega))
  | ((with_reducible refine' U.i_fdiv ?hx ?_); (case hx => (constructor <;> omega)))
  | ((with_reducible refine' U.i_pow ?hx ?_); (case hx => (refine ⟨?_, ?_, ?_⟩ <;> decide)))
  | (with_reducible refine' U.i_lt ?_)
  | (with_reducible refine' U.i_le ?_)
  | (with_reducible refine' U.i_gt ?_)
  | (with_reducible refine' U.i_ge ?_)
  | (with_reducible refine' U.i_eqI ?_)
  | (with_reducible refine' U.i_neI ?_)
  | (with_reducible refine' U.i_rU ?_)
  | (with_reducible refine' U.i_abs ?_)
  | (with_reducible refine' U.i_callN ?_)
  | ((with_reducible refine' U.i_lens ?hx ?hy ?_); (case hx => rfl); (case hy => rfl))
  | ((with_reducible refine' U.i_ixL ?hx ?hy ?_); (case hx => exact L2.SqL.of (by walk_at "hp")); (case hy => rfl))
  | ((with_reducible refine' U.i_lenL ?hx ?_); (case hx => exact L2.SqL.of (by walk_at "hp")))
  | ((with_reducible refine' U.i_setL ?hx ?hy ?_); (case hx => walk_at "hp"); (case hy => rfl))
  | (with_reducible refine' U.i_augS ?_)
  | ((with_reducible refine' U.i_aug ?hx ?_); (case hx => rfl))
  | (with_reducible refine' U.i_ipI ?_)
  | ((with_reducible refine' U.i_ipMul ?hx ?_); (case hx => (first | (left; constructor <;> omega) | (right; constructor <;> omega))))
  | ((with_reducible refine' U.i_gtup ?hx ?hy ?_); (case hx => exact L2.SqT.of (by walk_at "hp")); (case hy => rfl))
  | (with_reducible refine' U.i_gcons ?_)
  | (with_reducible refine' U.i_gnil ?_)
  | ((with_reducible refine' U.i_divmod ?hx ?_); (case hx => (constructor <;> omega)); walk_at "lay")
  | (with_reducible refine' U.i_tup ?_)
  | (with_reducible refine' U.i_lst ?_)
  | ((with_reducible refine' U.lay_and ?hx ?_); (case hx => walk_at "sz"); walk_at "lay")
  | (with_reducible refine' U.i_sl ?_)
  | (with_reducible refine' U.i_part ?_)
  | (with_reducible refine' U.i_part' ?_)
  | (with_reducible refine' U.i_nopart ?_)
  | ((with_reducible refine' U.i_slL ?hx ?_); (case hx => exact L2.SqL.of (by walk_at "hp")); walk_at "lay")
  | (with_reducible refine' U.i_bm ?_)
  | ((with_reducible refine' U.i_bm' ?hx ?_); (case hx => walk_at "hp"))
  | ((with_reducible refine' U.i_append ?hx ?hy ?_); (case hx => walk_at "hp"); (case hy => walk_at "szl"))
  | ((with_reducible refine' U.i_chLL ?hx ?hy ?_); (case hx => rfl); (case hy => rfl))
  | (with_reducible refine' U.i_chain ?_)
  | (with_reducible refine' U.i_rng1 ?_)
  | ((with_reducible refine' U.i_rng1' ?hx ?hy ?_); (case hx => omega); (case hy => omega))
  | (with_reducible refine' U.i_rng2 ?_)
  | ((with_reducible refine' U.i_rng2' ?hx ?_); (case hx => (refine ⟨?_, ?_, ?_, ?_⟩ <;> omega)))
  | (with_reducible refine' U.i_rng3 ?_)
  | (with_reducible refine' U.i_enum ?_)
  | ((with_reducible refine' U.i_enum' ?hx ?_); (case hx => exact L2.SqL.of (by walk_at "hp")))
  | (with_reducible refine' U.i_enumT ?_)
  | ((with_reducible refine' U.i_enumT' ?hx ?_); (case hx => exact L2.SqT.of (by walk_at "hp")))
  | (with_reducible refine' U.i_rev ?_)
  | ((with_reducible refine' U.i_rev' ?hx ?_); (case hx => exact L2.SqL.of (by walk_at "hp")))
  | (with_reducible refine' U.i_plist ?_)
  | ((with_reducible refine' U.i_plist' ?hx ?_); (case hx => exact L2.SqL.of (by walk_at "hp")))
  | (with_reducible refine' U.i_for ?_)
  | (with_reducible refine' U.i_sfld ?_)
  | ((with_reducible refine' U.i_sfld' ?hx ?hy ?hz ?hw ?_); (case hx => walk_at "hp"); (case hy => assumption); (case hz => assumption); (case hw => exact Nat.le_of_ble_eq_true rfl))
  | (with_reducible refine' U.i_lc ?_)
  | (with_reducible refine' U.i_par3 ?_)
  | (with_reducible refine' U.i_par3' ?_)
  | (with_reducible refine' U.i_par ?_)
  | (with_reducible refine' U.i_par' ?_)
  | (with_reducible refine' U.i_lrg ?_)
  | (with_reducible refine' U.i_rg1 ?_)
  | (with_reducible refine' U.i_rg1' ?_)
  | (with_reducible refine' U.i_pl ?_)
  | ((with_reducible refine' U.i_pl' ?hx ?hy ?_); (case hx => walk_at "hp"); (case hy => exact Nat.le_of_ble_eq_true rfl))
  | (with_reducible refine' U.i_rAdd ?_)
  | ((with_reducible refine' U.i_listOf ?hx ?_); (case hx => exact L2.SqL.of (by walk_at "hp")); walk_at "lay")
  | (with_reducible refine' U.i_intB ?_)
  | (with_reducible refine' U.i_wget ?_)
  | ((with_reducible refine' U.i_tupleOf ?hx ?_); (case hx => walk_at "hp"); walk_at "lay")
  | ((with_reducible refine' U.i_repA ?hx ?hn ?h0 ?h1 ?h2 ?_); (case hx => walk_at "hp"); (case hn => simp); (case h0 => omega); (case h1 => omega); (case h2 => simp); intro p H' hs ho)
  | ((with_reducible refine' U.i_catA ?hx ?hy ?hz ?_); (case hx => walk_at "hp"); (case hy => walk_at "hp"); (case hz => walk_at "sz"); intro p H' hs ho)
  | ((with_reducible refine' U.i_slA ?hx ?_); (case hx => walk_at "hp"); intro p H' hs ho)
  | (with_reducible refine' U.i_zipS ?_)
  | ((with_reducible refine' U.i_zipTT ?hx ?hy ?_); (case hx => exact L2.SqT.of (by walk_at "hp")); (case hy => exact L2.SqT.of (by walk_at "hp")))
  | ((with_reducible refine' U.i_zipLL ?hx ?hy ?_); (case hx => exact L2.SqL.of (by walk_at "hp")); (case hy => exact L2.SqL.of (by walk_at "hp")))
  | (with_reducible refine' U.i_ptup ?_)
  | ((with_reducible refine' U.i_ptup' ?hx ?_); (case hx => exact L2.SqT.of (by walk_at "hp")))
  | ((with_reducible refine' U.i_lenT ?hx ?_); (case hx => exact L2.SqT.of (by walk_at "hp")))
  | (with_reducible refine' U.i_yes ?_)
  | (with_reducible refine' L2.iteT ?_)
  | (with_reducible refine' U.i_next ?_)
  | fail "rd1")
local macro_rules | `(tactic| walk_at "szl") => `(tactic| first | decide | (refine L2.small1000 ?_; (try simp only [List.length_cons, List.length_nil, List.length_map]); omega))
local macro_rules | `(tactic| walk_at "rd") => `(tactic| (repeat walk_at "rd1"))
local macro_rules | `(tactic| walk_at "ro") => `(tactic| (refine' U.i_or ?_; walk_at "rd"))
local macro_rules | `(tactic| walk_at "ra") => `(tactic| (refine' U.i_pt ?_; walk_at "rd"))
local macro_rules | `(tactic| walk_at "gd") => `(tactic| (repeat (first | walk_at "rd1" | (with_reducible refine' U.i_andV ?_))))

namespace Lw
open PySem L2 U LamX
local macro_rules | `(tactic| walk_at "fa") => `(tactic| first
  | assumption
  | ((with_reducible refine' Lw.FA.same ?hx ?hy); (case hy => assumption); (case hx => walk_at "fa"))
  | fail "fa")
local macro_rules | `(tactic| walk_at "bg") => `(tactic| first
  | assumption
  | ((with_reducible refine' Lw.Bag.same ?hx ?hy); (case hy => assumption); (case hx => walk_at "bg"))
  | fail "bg")
local macro_rules | `(tactic| walk_at "op2") => `(tactic| (refine' Lw.spOp.go ?fa ?ra ?rb ?q; (case fa => walk_at "fa"); (case ra => constructor <;> omega); (case rb => constructor <;> omega); intro H' s'; walk_at "rd"))

local macro_rules | `(tactic| walk_at "ty") => `(tactic| first | exact .base (.int _) | exact .base (.str _) | exact .base (.bl _) | exact .base .non | exact .base (.lst (by walk_at "hp")) | exact .base (.tup (by walk_at "hp")))
local macro_rules | `(tactic| walk_at "al") => `(tactic| (repeat (first
  | walk_at "rd1"
  | (with_reducible refine' U.i_andV ?_)
  | (with_reducible refine' U.i_notV ?_)
  | (with_reducible refine' U.i_truth ?_)
  | (with_reducible refine' U.i_or ?_)
  | (with_reducible refine' U.i_pt ?_)
  | ((with_reducible refine' U.i_isNT ?hx ?_); (case hx => rfl))
  | ((with_reducible refine' U.i_isNF ?hx ?_); (case hx => (intro z; cases z)))
  | ((with_reducible refine' U.i_isiT ?hx ?hy ?_); (case hx => walk_at "ty"); (case hy => decide +kernel))
  | ((with_reducible refine' U.i_isiF ?hx ?hy ?_); (case hx => walk_at "ty"); (case hy => decide +kernel))
  | (with_reducible refine' U.i_neBB ?_)
  | (with_reducible refine' U.i_eqBB ?_)
  | (with_reducible refine' U.i_eqSS ?_)
  | ((with_reducible refine' U.i_lenL ?hx ?_); (case hx => exact L2.SqL.of (by walk_at "hp")))
  | ((with_reducible refine' U.i_lenT ?hx ?_); (case hx => exact L2.SqT.of (by walk_at "hp")))
  | (with_reducible refine' U.iteT' ?_)
  | (with_reducible refine' U.iteF' ?_)
  | fail "al")))

local macro_rules | `(tactic| walk_at "gq") => `(tactic| (repeat (first | ((fail_if_success (with_reducible refine' U.i_seq ?_)); (first | walk_at "rd1" | (with_reducible refine' U.i_andV ?_))) | fail "gq")))
local macro_rules | `(tactic| walk_at "rq") => `(tactic| (repeat (first | ((fail_if_success (with_reducible refine' U.i_seq ?_)); walk_at "rd1") | fail "rq")))
local macro_rules | `(tactic| walk_at "nt") => `(tactic| (repeat (first
  | walk_at "rd1"
  | (with_reducible refine' U.i_dni ?_)
  | (with_reducible refine' U.i_din ?_)
  | (with_reducible refine' U.i_dgt ?_)
  | (with_reducible refine' U.i_dpt ?_)
  | (with_reducible refine' U.i_dnew ?_)
  | ((with_reducible refine' U.i_dniN ?hx ?_); (case hx => walk_at "hp"))
  | ((with_reducible refine' U.i_dinN ?hx ?_); (case hx => walk_at "hp"))
  | ((with_reducible refine' U.i_dniR ?hx ?_); (case hx => walk_at "hp"))
  | ((with_reducible refine' U.i_dinR ?hx ?_); (case hx => walk_at "hp"))
  | (with_reducible refine' U.i_or ?_)
  | (with_reducible refine' U.i_pt ?_)
  | fail "nt")))
local macro_rules | `(tactic| walk_at "wt") => `(tactic| (repeat (first
  | ((fail_if_success (with_reducible refine' U.i_seq ?_)); walk_at "rd1")
  | (with_reducible refine' U.i_dni ?_)
  | (with_reducible refine' U.i_din ?_)
  | (with_reducible refine' U.i_dgt ?_)
  | (with_reducible refine' U.i_dpt ?_)
  | (with_reducible refine' U.i_dnew ?_)
  | ((with_reducible refine' U.i_dniU ?hx ?_); (case hx => walk_at "hp"))
  | ((with_reducible refine' U.i_dinU ?hx ?_); (case hx => walk_at "hp"))
  | ((with_reducible refine' U.i_dniS ?hx ?_); (case hx => walk_at "hp"))
  | ((with_reducible refine' U.i_dinS ?hx ?_); (case hx => walk_at "hp"))
  | (with_reducible refine' U.i_pt ?_)
  | fail "wt")))

theorem i_revL {K : PySem.W.Frag} {te : TE} {σ : L2.St} {H : Hp} {Q : VK} (q : te σ H fun x H1 => ∃ a xs, x = .ref a ∧ SqL K H1 a xs ∧ ∀ p, H1 p = none → Q (.ref p) (upd H1 p (.lst xs.reverse))) : tRevL K te σ H Q := q
def spRing (A : Ad) : Sp := fun vs H Q _ => ∃ (x nd rd : Addr) (ns : List Str) (qs : List (Int × Addr)) (rs : List Road), vs = [.ref x] ∧ NetA A H x nd rd ns qs rs ∧ (∀ r ∈ rs, r.2.1 ∈ ns ∧ r.2.2.1 ∈ ns) ∧ (∀ s ∈ ns, GoodN s) ∧
  (∀ hs H', Same H H' → hs.Perm ns → PyProof.Rows.sortedS hs = true → (∀ v ∈ ns, v ∈ ordR hs rs) → Q .non H') ∧
  (∀ (p : Addr) (ks : List Int) hs H', H p = none → Same H H' → hs.Perm ns → PyProof.Rows.sortedS hs = true → ¬ (∀ v ∈ ns, v ∈ ordR hs rs) → H' p = some (.lst (ks.map V.int)) → FO.Ring rNum rOne rTwo rs ks → Q (.ref p) H')
/-- what stands while one goes back -/
def WRing (rs : List Road) (H0 : Hp) (left : List Str) (x t l sn bk : Addr) : Nat → L2.St → Hp → Prop := fun m σ H' => ∃ (ps : List Road) (here : Str) (v6 v7 v8 : Option V), σ = [some (.ref x), some (.ref t), some (.ref l), some (.str here), some (.ref sn), some (.ref bk), v6, v7, v8] ∧ Same H0 H' ∧ H' l = some (.lst (left.map V.str)) ∧
  H' sn = some (.lst ((ps.map rTwo).map V.str)) ∧ H' bk = some (.lst ((ps.map rNum).map V.int)) ∧ FO.Back rOne rTwo rs left ps here ∧ m = 12 - ps.length
def spOrderN (A : Ad) : Sp := fun vs H Q _ => ∃ (x nd rd : Addr) (ns : List Str) (qs : List (Int × Addr)) (rs : List Road), vs = [.ref x] ∧ NetA A H x nd rd ns qs rs ∧ (∀ r ∈ rs, r.2.1 ∈ ns ∧ r.2.2.1 ∈ ns) ∧ (∀ s ∈ ns, GoodN s) ∧
  (∀ hs : List Str, hs.Perm ns → PyProof.Rows.sortedS hs = true → ∀ v ∈ ns, v ∈ ordR hs rs) ∧
  (∀ p hs H', H p = none → Same H H' → hs.Perm ns → PyProof.Rows.sortedS hs = true → H' p = some (.lst ((ordR hs rs).map V.str)) → Q (.ref p) H')
def spOrder (A : Ad) : Sp := fun vs H Q E => ∃ (x nd rd : Addr) (ns : List Str) (qs : List (Int × Addr)) (rs : List Road), vs = [.ref x] ∧ NetA A H x nd rd ns qs rs ∧ (∀ r ∈ rs, r.2.1 ∈ ns ∧ r.2.2.1 ∈ ns) ∧ (∀ s ∈ ns, GoodN s) ∧
  (∀ p hs H', H p = none → Same H H' → hs.Perm ns → PyProof.Rows.sortedS hs = true → (∀ v ∈ ns, v ∈ ordR hs rs) → H' p = some (.lst ((ordR hs rs).map V.str)) → Q (.ref p) H') ∧
  (∀ (d p : Addr) (ks : List Int) hs H', H p = none → Same H H' → hs.Perm ns → PyProof.Rows.sortedS hs = true → ¬ (∀ v ∈ ns, v ∈ ordR hs rs) → H' p = some (.lst (ks.map V.int)) → FO.Ring rNum rOne rTwo rs ks → H' d = some (.xd [("around", .ref p)]) → E (.ref A.Ringed) (some d) H')
section
variable {P : Program} {w : World} {K : PySem.W.Frag} {mg : Str → Option Value} {base : Heap} {A : Ad}
theorem sc_ring : FnScope ["self", "told", "left", "here", "seen", "back", "number", "name", "line"] ["self"] (defScope (inClass (top 65) 16)) := ⟨rfl, rfl, rfl, by decide +kernel, rfl, by decide +kernel, by decide +kernel⟩
theorem ok_ring (T : Txt P w K mg A) : U.Mt P w K mg base 4 A.Net "ring" (spRing A) [] := by
  obtain ⟨_, _, _, F_nhouses, c_nhouses, m_nhouses, bd_nhouses⟩ := (ok_nhouses (P := P) (w := w) (base := base) T).ex
  obtain ⟨_, d_nhouses, b_nhouses⟩ := bd_nhouses 0 (by decide)
  obtain ⟨_, _, _, F_told, c_told, m_told, bd_told⟩ := (ok_told (P := P) (w := w) (base := base) T).ex
  obtain ⟨_, d_told, b_told⟩ := bd_told 0 (by decide)
  obtain ⟨_, _, _, F_ninto, c_ninto, m_ninto, bd_ninto⟩ := (ok_ninto (P := P) (w := w) (base := base) T).ex
  obtain ⟨_, d_ninto, b_ninto⟩ := bd_ninto 0 (by decide)
  refine T.m_Net_ring.ok sc_ring (fun vs H Q E h => ?_) (fun f cdv Ar outer s H vs Q E hr h => ?_)
  · obtain ⟨x, nd, rd, ns, qs, rs, rfl, na, ends, goods, kn, kr⟩ := h
    rfl
  · obtain ⟨x, nd, rd, ns, qs, rs, rfl, na, ends, goods, kn, kr⟩ := h
    have cN := T.c_Net
    have a1 := T.na_Net_named
    have a2 := T.na_Net_roads
    refine ⟨_, (pss_cons (ps_set (i := 1) sc_ring.nd rfl (Or.inr rfl) (pe_meth0 (pv 0) c_told m_told F_told (hr.mono (by decide)) b_told d_told U.passN))
    (pss_cons (ps_set (i := 2) sc_ring.nd rfl (Or.inr rfl) (pe_lc (own := [("name", 7)]) (g := (gName 7)) (by exact rfl) sc_ring.nd (pi_list (pe_meth0 (pv 0) c_nhouses m_nhouses F_nhouses (hr.mono (by decide)) b_nhouses d_nhouses U.passN)) (blkOk_by (own := [("name", 7)]) (N := ["self", "told", "left", "here", "seen", "back", "number", "name", "line"]) (sc := defScope (inClass (top 65) 16)) (by decide +kernel)) (fun _ _ _ _ _ => (pg_name (i := 7) sc_ring.nd rfl (Or.inl rfl))) (fun _ _ _ _ _ => pts_one (pt_cmpR (U.notInK K rfl) (pv 7) (pv 1) (by rfl))) (fun _ _ _ _ _ => (pv 7))))
    (pss_cons (ps_if (pt_cmpR (op_eqD hr.units) (pv 2) (pe_lst pa_nil) (nomark _))
    (pss_one (ps_ret pe_non))
    pss_nil)
    (pss_cons (ps_set (i := 3) sc_ring.nd rfl (Or.inl rfl) (pe_ix ix_list (pv 2) pe_int (fun _ _ => rfl)))
    (pss_cons (ps_set (i := 4) sc_ring.nd rfl (Or.inl rfl) (pe_lst pa_nil))
    (pss_cons (ps_set (i := 5) sc_ring.nd rfl (Or.inl rfl) (pe_lst pa_nil))
    (pss_cons (ps_while (passes_of (by exact rfl)) (pt_cmpR op_notIn_seq (pv 3) (pv 4) (by rfl))
    (pss_cons (ps_expr (pe_bm PySem.F.plainAttrs_list PySem.F.slot_list_append PySem.F.type_list_append mt_append (pv 4) (pa_cons (pv 3) pa_nil)))
    (pss_cons (ps_set (i := 6) sc_ring.nd rfl (Or.inl rfl) (pe_ix ix_list (pe_lc (own := [("line", 8)]) (g := (gName 8)) (by exact rfl) sc_ring.nd (pi_list (pe_meth (pv 0) c_ninto m_ninto F_ninto (hr.mono (by decide)) b_ninto d_ninto U.passN (pa_cons (pv 3) pa_nil))) (blkOk_by (own := [("line", 8)]) (N := ["self", "told", "left", "here", "seen", "back", "number", "name", "line"]) (sc := defScope (inClass (top 65) 16)) (by decide +kernel)) (fun _ _ _ _ _ => (pg_name (i := 8) sc_ring.nd rfl (Or.inl rfl))) (fun _ _ _ _ _ => pts_one (pt_cmpR (U.inK K rfl) (pe_ix (U.ixT K rfl) (pe_dget (Nat.lt_trans (Nat.add_lt_add_left (by decide : 1 < 64) _) hr.units) (U.pe_fldK K rfl (pv 0) rfl) (pv 8) (fun _ _ => rfl)) pe_int (fun _ _ => rfl)) (pv 2) (by rfl))) (fun _ _ _ _ _ => (pv 8))) pe_int (fun _ _ => rfl)))
    (pss_cons (ps_expr (pe_bm PySem.F.plainAttrs_list PySem.F.slot_list_append PySem.F.type_list_append mt_append (pv 5) (pa_cons (pv 6) pa_nil)))
    (pss_one (ps_set (i := 3) sc_ring.nd rfl (Or.inl rfl) (pe_ix ix_tup (pe_dget (Nat.lt_trans (Nat.add_lt_add_left (by decide : 1 < 64) _) hr.units) (pe_fld (pv 0) rfl) (pv 6) (fun _ _ => rfl)) pe_int (fun _ _ => rfl))))))))
    (pss_one (ps_ret (pe_revL (pe_slice sl_list (pv 5) (po_some (pe_bm PySem.F.plainAttrs_list PySem.F.slot_list_index PySem.F.type_list_index mt_index (pv 4) (pa_cons (pv 3) pa_nil))) po_none))))))))))), ?_⟩
    obtain ⟨dx, hx⟩ := na.obj
    have few := na.few
    walk_at "wt"
    with_reducible refine U.i_seq ?_
    walk_at "wt"
    refine ⟨x, nd, rd, ns, qs, rs, rfl, na, fun t1 hs H1 ht1 s1 pm so ot1 => ?_⟩
    have hx1 := s1 _ _ hx
    have na1 := na.same s1
    have hl := pm.length_eq
    generalize eO : ordR hs rs = os at ot1
    walk_at "wt"
    with_reducible refine U.i_seq ?_
    walk_at "wt"
    refine ⟨x, nd, rd, ns, qs, rs, rfl, na1, fun p hs2 H2 hp s2 pm2 so2 op => ?_⟩
    have e1 : hs = hs2 := U.sortedS_one (pm.trans pm2.symm) so so2
    subst e1
    have ot2 := s2 _ _ ot1
    walk_at "wt"
    intro D hD
    refine lc_it walk_list (fun i H' => Same H2 H' ∧ H' D = some (.lst (((hs.take i).filter fun v => !decide (v ∈ os)).map V.str))) ⟨same_new hD, upd_same⟩ (fun i H' _ h => SqL.of (h.1 _ _ op)) ?_ ?_
    · rintro i v H7 H8 hi ⟨s7, oD⟩ ⟨rfl, hy⟩
      rw [List.getElem?_map] at hy
      obtain ⟨nm, en, rfl⟩ := Option.map_eq_some_iff.mp hy
      have ot8 := s7 _ _ ot2
      have fl : ((hs.take i).filter fun v => !decide (v ∈ os)).length ≤ 12 := by
        refine Nat.le_trans (List.length_filter_le _ _) ?_
        rw [List.length_take]
        omega
      walk_at "wt"
      refine ⟨rfl, ?_⟩
      walk_at "wt"
      refine i_notInS ot8 ?_
      refine ⟨_, rfl, ?_⟩
      by_cases z : nm ∈ os
      · rw [decide_eq_true z]
        refine U.iteF' ?_
        refine ⟨s7, ?_⟩
        rw [U.take_succ_of en, List.filter_append, List.filter_cons_of_neg (by simpa using z), List.filter_nil, List.append_nil]
        exact oD
      · rw [decide_eq_false z]
        refine U.iteT' ?_
        walk_at "wt"
        refine ⟨_, oD, small1000 (by rw [List.length_map]; omega), same_own s7 hD, ?_⟩
        rw [U.take_succ_of en, List.filter_append, List.filter_cons_of_pos (by simpa using z), List.filter_nil, List.map_append]
        exact upd_same
    rintro H3 ⟨s3, oD⟩
    rw [List.length_map, List.take_length] at oD
    have s03 : Same H H3 := s1.trans (s2.trans s3)
    have hD0 : H D = none := (s1.trans s2).free hD
    have left_in : ∀ v, v ∈ hs.filter (fun v => !decide (v ∈ os)) ↔ v ∈ ns ∧ v ∉ os := fun v => by
      rw [List.mem_filter, pm.mem_iff]
      simp
    have left_few : (hs.filter fun v => !decide (v ∈ os)).length ≤ 12 := Nat.le_trans (List.length_filter_le _ _) (by omega)
    have back1 : ∀ v ∈ hs.filter (fun v => !decide (v ∈ os)), ∃ r ∈ rs, r.2.2.1 = v ∧ r.2.1 ∈ hs.filter (fun v => !decide (v ∈ os)) := fun v m => by
      obtain ⟨m1, m2⟩ := (left_in v).mp m
      have nn : FO.nxt rOne rTwo hs rs (ordR hs rs) = none := FO.ord_none
      obtain ⟨r, mr, e2, e3⟩ := FO.nxt_none nn v (pm.mem_iff.mpr m1) (by rw [eO]; exact m2)
      rw [eO] at e3
      exact ⟨r, mr, e2, (left_in _).mpr ⟨(ends r mr).1, e3⟩⟩
    generalize eL : hs.filter (fun v => !decide (v ∈ os)) = left at oD left_in left_few back1
    walk_at "wt"
    with_reducible refine U.i_seq ?_
    refine U.i_ifS ?_
    walk_at "wt"
    rename_i e4 he4 H4 s4 oe4
    refine i_eqStrs (ys := []) (s4 _ _ oD) oe4 (fun s m => goods s ((left_in s).mp m).1) (fun s m => nomatch m) ?_
    have s04 := s03.trans s4
    refine ⟨_, rfl, ?_⟩
    refine U.ited (fun z => ?_) (fun z => ?_)
    · walk_at "wt"
      refine kn hs _ s04 pm so fun v m => ?_
      apply Classical.byContradiction
      intro n
      rw [eO] at n
      have := (left_in v).mpr ⟨m, n⟩
      rw [z] at this
      cases this
    have some1 : ∃ h0 rest, left = h0 :: rest := by
      cases left with
      | nil => exact absurd rfl z
      | cons h0 rest => exact ⟨h0, rest, rfl⟩
    obtain ⟨h0, rest, el⟩ := some1
    have mh0 : h0 ∈ left := by rw [el]; exact List.mem_cons_self
    have nall : ¬ (∀ v ∈ ns, v ∈ ordR hs rs) := fun all => by
      obtain ⟨m1, m2⟩ := (left_in h0).mp mh0
      rw [← eO] at m2
      exact m2 (all h0 m1)
    have oD4 := s4 _ _ oD
    walk_at "wt"
    with_reducible refine U.i_seq ?_
    walk_at "wt"
    refine U.i_ixL (SqL.of oD4) (v := .str h0) (U.atI_of (j := 0) rfl (by rw [el]; rfl)) ?_
    walk_at "wt"
    with_reducible refine U.i_seq ?_
    walk_at "wt"
    rename_i sn hsn H5 s5 osn
    with_reducible refine U.i_seq ?_
    walk_at "wt"
    rename_i bk hbk H6 s6 obk
    have s06 := (s04.trans s5).trans s6
    have hsn0 : H sn = none := s04.free hsn
    have hbk0 : H bk = none := (s04.trans s5).free hbk
    have nsb : sn ≠ bk := fun e => by rw [← e, osn] at hbk; cases hbk
    have nDs : D ≠ sn := fun e => by rw [← e, oD4] at hsn; cases hsn
    have nDb : D ≠ bk := fun e => by rw [← e, s5 _ _ oD4] at hbk; cases hbk
    with_reducible refine U.i_seq ?_
    refine ⟨WRing rs H left x t1 D sn bk, ⟨_, [], h0, _, _, _, rfl, s06, s6 _ _ (s5 _ _ oD4), s6 _ _ osn, obk, .start mh0, rfl⟩, ?_⟩
    clear hsn hbk osn obk s5 s6 s06 oD4 hD s4 oe4 he4 s03 oD s3 s2 op hp ot2 ot1 hx1 na1
    rintro m σ H7 ⟨ps, here, v6, v7, v8, rfl, s7, oD7, os7, ob7, bck, rfl⟩
    have hx7 := s7 _ _ hx
    have na7 := na.same s7
    have pfew : ps.length ≤ 12 := by
      have := FO.pigeon _ _ bck.nd bck.sub
      rw [List.length_map] at this
      omega
    walk_at "wt"
    refine i_notInS os7 ?_
    refine ⟨_, rfl, ?_⟩
    by_cases zz : here ∈ ps.map rTwo
    · rw [decide_eq_true zz]
      refine U.iteF' ?_
      obtain ⟨i, hi, ei⟩ : ∃ i : Nat, (ps.map rTwo)[i]? = some here ∧ ∀ m, m < i → (ps.map rTwo)[m]? ≠ some here := by
        obtain ⟨j, lj, ej⟩ := List.getElem_of_mem zz
        refine ⟨j, by rw [List.getElem?_eq_getElem lj, ej], fun m lm e => ?_⟩
        obtain ⟨hm, em⟩ := List.getElem?_eq_some_iff.mp e
        exact List.pairwise_iff_getElem.mp bck.nd m j hm lj lm (em.trans ej.symm)
      obtain ⟨rg, il⟩ := bck.ring (num := rNum) hi
      walk_at "wt"
      refine i_revL ?_
      walk_at "wt"
      refine ⟨sn, _, .str here, i, .str here, rfl, rfl, SqL.of os7, rfl, flat_strs, by rw [List.getElem?_map, hi]; rfl, by simp [eqV], fun m z' lm e => ?_, ?_⟩
      · rw [List.getElem?_map] at e
        obtain ⟨y, ey, rfl⟩ := Option.map_eq_some_iff.mp e
        have : y ≠ here := fun q => ei m lm (by rw [ey, q])
        simp [eqV, this]
      refine ⟨_, rfl, ?_⟩
      walk_at "wt"
      rename_i p8 hp8 H8 s8 o8
      rw [U.cut_drop] at o8
      refine ⟨p8, _, rfl, SqL.of o8, fun p9 hp9 => ?_⟩
      have s78 := s7.trans s8
      refine kr p9 _ hs _ (s78.free hp9) (s78.trans (same_new hp9)) pm so nall ?_ rg
      rw [upd_same, ← List.map_drop, ← List.map_reverse]
    rw [decide_eq_false zz]
    refine U.iteT' ?_
    refine ⟨fun σ' H' => ∃ m', m' < 12 - ps.length ∧ WRing rs H left x t1 D sn bk m' σ' H', fun _ _ h => h, ?_⟩
    walk_at "wt"
    with_reducible refine U.i_seq ?_
    walk_at "wt"
    have bts : But sn H7 (upd H7 sn (.lst ((ps.map rTwo).map V.str ++ [.str here]))) := But.of
    have os8 : upd H7 sn (.lst ((ps.map rTwo).map V.str ++ [.str here])) sn = some (.lst ((ps.map rTwo).map V.str ++ [.str here])) := upd_same
    have s8 : Same H (upd H7 sn (.lst ((ps.map rTwo).map V.str ++ [.str here]))) := same_own s7 hsn0
    generalize upd H7 sn (.lst ((ps.map rTwo).map V.str ++ [.str here])) = H8 at bts os8 s8 ⊢
    have oD8 := bts _ _ oD7 nDs
    have ob8 := bts _ _ ob7 nsb.symm
    clear bts oD7 ob7 os7 hx7 na7
    have hx8 := s8 _ _ hx
    have na8 := na.same s8
    have kd : (qs.map (·.1)).Nodup := by rw [na.keys]; exact na.rn
    with_reducible refine U.i_seq ?_
    walk_at "wt"
    have mhere := ((left_in here).mp bck.hl).1
    refine ⟨x, nd, rd, ns, qs, rs, here, rfl, na8, mhere, fun pi ls H9 hpi s9 pl sol opi => ?_⟩
    have s09 := s8.trans s9
    have ro9 := s09 _ _ na.ro
    have oD9 := s9 _ _ oD8
    have hx9 := s9 _ _ hx8
    generalize ec : ls.filter (fun r => decide (r.2.2.1 = here)) = cand at opi
    have cin : ∀ r ∈ cand, r ∈ rs ∧ r.2.2.1 = here := fun r m => by
      rw [← ec] at m
      obtain ⟨m1, m2⟩ := List.mem_filter.mp m
      exact ⟨pl.mem_iff.mp m1, of_decide_eq_true m2⟩
    have cfew : cand.length ≤ 30 := by
      rw [← ec]
      have := pl.length_eq
      exact Nat.le_trans (List.length_filter_le _ _) (by omega)
    walk_at "wt"
    intro D2 hD2
    refine lc_it walk_list (fun i H' => Same H9 H' ∧ H' D2 = some (.lst ((((cand.take i).filter fun r => decide (r.2.1 ∈ left)).map (·.1)).map V.int))) ⟨same_new hD2, upd_same⟩ (fun i H' _ h => SqL.of (h.1 _ _ opi)) ?_ ?_
    · rintro i v Ha Hb hi ⟨sa, oE⟩ ⟨rfl, hy⟩
      rw [List.getElem?_map, List.getElem?_map] at hy
      obtain ⟨n1, en1, rfl⟩ := Option.map_eq_some_iff.mp hy
      obtain ⟨r, er, rfl⟩ := Option.map_eq_some_iff.mp en1
      obtain ⟨mr, e2⟩ := cin r (List.mem_of_getElem? er)
      obtain ⟨q2, mq, eq, htq⟩ := na.ts.memR mr
      have htb := sa _ _ (s09 _ _ htq)
      have rob := sa _ _ ro9
      have oDb := sa _ _ oD9
      have hxb := sa _ _ hx9
      have fl : ((cand.take i).filter fun r => decide (r.2.1 ∈ left)).length ≤ 30 := by
        refine Nat.le_trans (List.length_filter_le _ _) ?_
        rw [List.length_take]
        omega
      walk_at "wt"
      refine ⟨rfl, ?_⟩
      walk_at "wt"
      rw [← eq]
      refine U.i_dgtR rob kd mq ?_
      walk_at "wt"
      refine U.i_ixT (SqT.of htb) (U.atI_of (j := 0) rfl rfl) ?_
      walk_at "wt"
      refine i_inS oDb ?_
      refine ⟨_, rfl, ?_⟩
      refine U.ited (fun z => ?_) (fun z => ?_)
      rotate_left
      · refine ⟨sa, ?_⟩
        rw [U.take_succ_of er, List.filter_append, List.filter_cons_of_neg (by simpa using z), List.filter_nil, List.append_nil]
        exact oE
      walk_at "wt"
      refine ⟨_, oE, small1000 (by rw [List.length_map, List.length_map]; omega), same_own sa hD2, ?_⟩
      rw [U.take_succ_of er, List.filter_append, List.filter_cons_of_pos (by exact decide_eq_true z), List.filter_nil, List.map_append, List.map_append, eq]
      exact upd_same
    rintro Ha ⟨sa, oE⟩
    rw [List.length_map, List.length_map, List.take_length] at oE
    obtain ⟨r0, fr, efr⟩ : ∃ r0 fr, cand.filter (fun r => decide (r.2.1 ∈ left)) = r0 :: fr := by
      obtain ⟨r, mr, e2, e3⟩ := back1 here bck.hl
      have : r ∈ cand.filter (fun r => decide (r.2.1 ∈ left)) := List.mem_filter.mpr ⟨by rw [← ec]; exact List.mem_filter.mpr ⟨pl.mem_iff.mpr mr, decide_eq_true e2⟩, decide_eq_true e3⟩
      cases h : cand.filter (fun r => decide (r.2.1 ∈ left)) with
      | nil => rw [h] at this; cases this
      | cons r0 fr => exact ⟨r0, fr, rfl⟩
    have mr0 : r0 ∈ cand.filter (fun r => decide (r.2.1 ∈ left)) := by rw [efr]; exact List.mem_cons_self
    obtain ⟨mr1, mr2⟩ := List.mem_filter.mp mr0
    obtain ⟨mr3, mr4⟩ := cin r0 mr1
    have mr5 : r0.2.1 ∈ left := of_decide_eq_true mr2
    rw [efr] at oE
    have s0a := s09.trans sa
    have hxa := s0a _ _ hx
    have roa := s0a _ _ na.ro
    have oba := sa _ _ (s9 _ _ ob8)
    have oDa := sa _ _ oD9
    have osa := sa _ _ (s9 _ _ os8)
    have nxb : x ≠ bk := U.ne_of_get hxa oba nofun
    clear s9 sa s09 ro9 oD9 hx9 opi oD8 ob8 os8 hx8 na8 s8 s7
    walk_at "wt"
    refine U.i_ixL (SqL.of oE) (v := .int r0.1) (U.atI_of (j := 0) rfl rfl) ?_
    walk_at "wt"
    with_reducible refine U.i_seq ?_
    walk_at "wt"
    have btb : But bk Ha (upd Ha bk (.lst ((ps.map rNum).map V.int ++ [.int r0.1]))) := But.of
    have obb : upd Ha bk (.lst ((ps.map rNum).map V.int ++ [.int r0.1])) bk = some (.lst ((ps.map rNum).map V.int ++ [.int r0.1])) := upd_same
    have s0b : Same H (upd Ha bk (.lst ((ps.map rNum).map V.int ++ [.int r0.1]))) := same_own s0a hbk0
    generalize upd Ha bk (.lst ((ps.map rNum).map V.int ++ [.int r0.1])) = Hb at btb obb s0b ⊢
    obtain ⟨q2, mq, eq, htq⟩ := na.ts.memR mr3
    rw [← eq]
    refine U.i_dgtR (s0b _ _ na.ro) kd mq ?_
    walk_at "wt"
    refine U.i_ixT (SqT.of (s0b _ _ htq)) (U.atI_of (j := 0) rfl rfl) ?_
    walk_at "wt"
    subst mr4
    have st := bck.step zz mr3 mr5
    refine ⟨12 - (ps ++ [r0]).length, ?_, ps ++ [r0], _, _, _, _, rfl, s0b, btb _ _ oDa nDb, ?_, ?_, st, rfl⟩
    · have := FO.pigeon _ _ st.nd st.sub
      rw [List.length_map, List.length_append] at this
      have : ps.length + 1 ≤ left.length := this
      rw [List.length_append]
      show 12 - (ps.length + 1) < _
      omega
    · rw [List.map_append, List.map_append]
      exact btb _ _ osa nsb
    · rw [List.map_append, List.map_append]
      exact obb

theorem sc_orderN : FnScope ["self", "found"] ["self"] (defScope (inClass (top 65) 17)) := ⟨rfl, rfl, rfl, by decide +kernel, rfl, by decide +kernel, by decide +kernel⟩
theorem ok_orderN (T : Txt P w K mg A) : U.Mt P w K mg base 5 A.Net "order" (spOrderN A) [] := by
  obtain ⟨_, _, _, F_ring, c_ring, m_ring, bd_ring⟩ := (ok_ring (P := P) (w := w) (base := base) T).ex
  obtain ⟨_, d_ring, b_ring⟩ := bd_ring 0 (by decide)
  obtain ⟨_, _, _, F_told, c_told, m_told, bd_told⟩ := (ok_told (P := P) (w := w) (base := base) T).ex
  obtain ⟨_, d_told, b_told⟩ := bd_told 0 (by decide)
  refine T.m_Net_order.ok sc_orderN (fun vs H Q E h => ?_) (fun f cdv Ar outer s H vs Q E hr h => ?_)
  · obtain ⟨x, nd, rd, ns, qs, rs, rfl, na, ends, goods, free, kn⟩ := h
    rfl
  · obtain ⟨x, nd, rd, ns, qs, rs, rfl, na, ends, goods, free, kn⟩ := h
    have cN := T.c_Net
    have a1 := T.na_Net_named
    have a2 := T.na_Net_roads
    refine ⟨_, (pss_cons (ps_set (i := 1) sc_orderN.nd rfl (Or.inl rfl) (pe_meth0 (pv 0) c_ring m_ring F_ring (hr.mono (by decide)) b_ring d_ring U.passN))
    (pss_cons (ps_if (pt_cmpR op_notN1 (pv 1) pe_non (nomark _))
    (pss_one ps_never)
    pss_nil)
    (pss_one (ps_ret (pe_meth0 (pv 0) c_told m_told F_told (hr.mono (by decide)) b_told d_told U.passN))))), ?_⟩
    obtain ⟨dx, hx⟩ := na.obj
    walk_at "wt"
    with_reducible refine U.i_seq ?_
    walk_at "wt"
    refine ⟨x, nd, rd, ns, qs, rs, rfl, na, ends, goods, fun hs H1 s1 pm so all => ?_, fun p ks hs H1 hp s1 pm so nall op rg => absurd (free hs pm so) nall⟩
    have hx1 := s1 _ _ hx
    walk_at "wt"
    with_reducible refine U.i_seq ?_
    walk_at "wt"
    refine U.i_notNF rfl ?_
    walk_at "wt"
    refine U.iteF' ?_
    walk_at "wt"
    refine ⟨x, nd, rd, ns, qs, rs, rfl, na.same s1, fun p hs2 H2 hp s2 pm2 so2 op => ?_⟩
    exact kn p hs2 H2 (s1.free hp) (s1.trans s2) pm2 so2 op

end
end Lw
end

section
set_option Elab.async false
set_option linter.all false
set_option maxRecDepth 100000
set_option maxHeartbeats 4000000
/-! ### own steps (local) -/
local macro_rules | `(tactic| walk_at "hp") => `(tactic| first
  | assumption
  | exact L2.upd_same
  | ((with_reducible refine U.upd_new ?_ ?_); (focus (first | assumption | done)); walk_at "hp")
  | ((with_reducible refine U.upd_ne'' ?_ ?_); (focus (first | assumption | (apply Ne.symm; assumption))); walk_at "hp")
  | ((with_reducible refine' U.Same.get ?hx ?hy); (case hx => assumption); (case hy => walk_at "hp"))
  | ((with_reducible refine' U.ExtN.lst ?hx ?hy); (case hx => assumption); (case hy => walk_at "hp"))
  | ((with_reducible refine' U.ExtN.tup ?hx ?hy); (case hx => assumption); (case hy => walk_at "hp"))
  | ((with_reducible refine' U.ExtN.ins ?hx ?hy); (case hx => assumption); (case hy => walk_at "hp"))
  | fail "hp")
local macro_rules | `(tactic| walk_at "lay") => `(tactic| (intro p hn; generalize hg : L2.upd _ p _ = H'; have hs := U.same_of hg hn; have ho := U.at_of hg; clear hg))
local macro_rules | `(tactic| walk_at "sz") => `(tactic| first | decide | (show _ ≤ PySem.sizeLine; rw [PySem.sizeLine_eq]; (try simp only [List.length_cons, List.length_nil, List.length_map]); omega))
local macro_rules | `(tactic| walk_at "ref'") => `(tactic| skip)
local macro_rules | `(tactic| walk_at "rd1") => `(tactic| first
  | (with_reducible refine' U.i_seq ?_)
  | (with_reducible refine' U.i_asg ?_)
  | (with_reducible refine' U.i_ret ?_)
  | (with_reducible refine' U.i_ifS ?_)
  | (with_reducible refine' U.i_drop ?_)
  | ((with_reducible refine' U.i_var ?hx ?_); (case hx => rfl))
  | (with_reducible refine' U.i_c ?_)
  | (with_reducible refine' U.i_op ?_)
  | (with_reducible refine' U.i_un ?_)
  | (with_reducible refine' U.i_name ?_)
  | (with_reducible refine' U.i_gsub ?_)
  | (with_reducible refine' U.i_test ?_)
  | (with_reducible refine' U.i_tB ?_)
  | (with_reducible refine' U.i_bl ?_)
  | (with_reducible refine' U.i_not ?_)
  | (with_reducible refine' U.i_nil ?_)
  | (with_reducible refine' U.i_cons ?_)
  | (with_reducible refine' U.i_cb ?_)
  | (with_reducible refine' U.i_call ?_)
  | (with_reducible refine' U.i_fld ?_)
  | ((with_reducible refine' U.i_fld' ?hx ?hy ?hz ?hw ?_); (case hx => walk_at "hp"); (case hy => assumption); (case hz => assumption); (case hw => rfl))
  | (with_reducible refine' U.i_meth ?_)
  | ((with_reducible refine' U.i_meth' ?hx ?hy ?_); (case hx => walk_at "hp"); (case hy => rfl))
  | (with_reducible refine' U.i_add ?_)
  | (with_reducible refine' U.i_sub ?_)
  | ((with_reducible refine' U.i_mul ?hx ?_); (case hx => (first | (left; constructor <;> omega) | (right; constructor <;> omega))))
  | ((with_reducible refine' U.i_mod ?hx ?_); (case hx => omega))
  | ((with_reducible refine' U.i_fdiv ?hx ?_); (case hx => (constructor <;> omega)))
  | ((with_reducible refine' U.i_pow ?hx ?_); (case hx => (refine ⟨?_, ?_, ?_⟩ <;> decide)))
  | (with_reducible refine' U.i_lt ?_)
  | (with_reducible refine' U.i_le ?_)
  | (with_reducible refine' U.i_gt ?_)
  | (with_reducible refine' U.i_ge ?_)
  | (with_reducible refine' U.i_eqI ?_)
  | (with_reducible refine' U.i_neI ?_)
  | (with_reducible refine' U.i_rU ?_)
  | (with_reducible refine' U.i_abs ?_)
  | (with_reducible refine' U.i_callN ?_)
  | ((with_reducible refine' U.i_lens ?hx ?hy ?_); (case hx => rfl); (case hy => rfl))
  | ((with_reducible refine' U.i_ixL ?hx ?hy ?_); (case hx => exact L2.SqL.of (by walk_at "hp")); (case hy => rfl))
  | ((with_reducible refine' U.i_lenL ?hx ?_); (case hx => exact L2.SqL.of (by walk_at "hp")))
  | ((with_reducible refine' U.i_setL ?hx ?hy ?_); (case hx => walk_at "hp"); (case hy => rfl))
  | (with_reducible refine' U.i_augS ?_)
  | ((with_reducible refine' U.i_aug ?hx ?_); (case hx => rfl))
  | (with_reducible refine' U.i_ipI ?_)
  | ((with_reducible refine' U.i_ipMul ?hx ?_); (case hx => (first | (left; constructor <;> omega) | (right; constructor <;> omega))))
  | ((with_reducible refine' U.i_gtup ?hx ?hy ?_); (case hx => exact L2.SqT.of (by walk_at "hp")); (case hy => rfl))
  | (with_reducible refine' U.i_gcons ?_)
  | (with_reducible refine' U.i_gnil ?_)
  | ((with_reducible refine' U.i_divmod ?hx ?_); (case hx => (constructor <;> omega)); walk_at "lay")
  | (with_reducible refine' U.i_tup ?_)
  | (with_reducible refine' U.i_lst ?_)
  | ((with_reducible refine' U.lay_and ?hx ?_); (case hx => walk_at "sz"); walk_at "lay")
  | (with_reducible refine' U.i_sl ?_)
  | (with_reducible refine' U.i_part ?_)
  | (with_reducible refine' U.i_part' ?_)
  | (with_reducible refine' U.i_nopart ?_)
  | ((with_reducible refine' U.i_slL ?hx ?_); (case hx => exact L2.SqL.of (by walk_at "hp")); walk_at "lay")
  | (with_reducible refine' U.i_bm ?_)
  | ((with_reducible refine' U.i_bm' ?hx ?_); (case hx => walk_at "hp"))
  | ((with_reducible refine' U.i_append ?hx ?hy ?_); (case hx => walk_at "hp"); (case hy => walk_at "szl"))
  | ((with_reducible refine' U.i_chLL ?hx ?hy ?_); (case hx => rfl); (case hy => rfl))
  | (with_reducible refine' U.i_chain ?_)
  | (with_reducible refine' U.i_rng1 ?_)
  | ((with_reducible refine' U.i_rng1' ?hx ?hy ?_); (case hx => omega); (case hy => omega))
  | (with_reducible refine' U.i_rng2 ?_)
  | ((with_reducible refine' U.i_rng2' ?hx ?_); (case hx => (refine ⟨?_, ?_, ?_, ?_⟩ <;> omega)))
  | (with_reducible refine' U.i_rng3 ?_)
  | (with_reducible refine' U.i_enum ?_)
  | ((with_reducible refine' U.i_enum' ?hx ?_); (case hx => exact L2.SqL.of (by walk_at "hp")))
  | (with_reducible refine' U.i_enumT ?_)
  | ((with_reducible refine' U.i_enumT' ?hx ?_); (case hx => exact L2.SqT.of (by walk_at "hp")))
  | (with_reducible refine' U.i_rev ?_)
  | ((with_reducible refine' U.i_rev' ?hx ?_); (case hx => exact L2.SqL.of (by walk_at "hp")))
  | (with_reducible refine' U.i_plist ?_)
  | ((with_reducible refine' U.i_plist' ?hx ?_); (case hx => exact L2.SqL.of (by walk_at "hp")))
  | (with_reducible refine' U.i_for ?_)
  | (with_reducible refine' U.i_sfld ?_)
  | ((with_reducible refine' U.i_sfld' ?hx ?hy ?hz ?hw ?_); (case hx => walk_at "hp"); (case hy => assumption); (case hz => assumption); (case hw => exact Nat.le_of_ble_eq_true rfl))
  | (with_reducible refine' U.i_lc ?_)
  | (with_reducible refine' U.i_par3 ?_)
  | (with_reducible refine' U.i_par3' ?_)
  | (with_reducible refine' U.i_par ?_)
  | (with_reducible refine' U.i_par' ?_)
  | (with_reducible refine' U.i_lrg ?_)
  | (with_reducible refine' U.i_rg1 ?_)
  | (with_reducible refine' U.i_rg1' ?_)
  | (with_reducible refine' U.i_pl ?_)
  | ((with_reducible refine' U.i_pl' ?hx ?hy ?_); (case hx => walk_at "hp"); (case hy => exact Nat.le_of_ble_eq_true rfl))
  | (with_reducible refine' U.i_rAdd ?_)
  | ((with_reducible refine' U.i_listOf ?hx ?_); (case hx => exact L2.SqL.of (by walk_at "hp")); walk_at "lay")
  | (with_reducible refine' U.i_intB ?_)
  | (with_reducible refine' U.i_wget ?_)
  | ((with_reducible refine' U.i_tupleOf ?hx ?_); (case hx => walk_at "hp"); walk_at "lay")
  | ((with_reducible refine' U.i_repA ?hx ?hn ?h0 ?h1 ?h2 ?_); (case hx => walk_at "hp"); (case hn => simp); (case h0 => omega); (case h1 => omega); (case h2 => simp); intro p H' hs ho)
  | ((with_reducible refine' U.i_catA ?hx ?hy ?hz ?_); (case hx => walk_at "hp"); (case hy => walk_at "hp"); (case hz => walk_at "sz"); intro p H' hs ho)
  | ((with_reducible refine' U.i_slA ?hx ?_); (case hx => walk_at "hp"); intro p H' hs ho)
  | (with_reducible refine' U.i_zipS ?_)
  | ((with_reducible refine' U.i_zipTT ?hx ?hy ?_); (case hx => exact L2.SqT.of (by walk_at "hp")); (case hy => exact L2.SqT.of (by walk_at "hp")))
  | ((with_reducible refine' U.i_zipLL ?hx ?hy ?_); (case hx => exact L2.SqL.of (by walk_at "hp")); (case hy => exact L2.SqL.of (by walk_at "hp")))
  | (with_reducible refine' U.i_ptup ?_)
  | ((with_reducible refine' U.i_ptup' ?hx ?_); (case hx => exact L2.SqT.of (by walk_at "hp")))
  | ((with_reducible refine' U.i_lenT ?hx ?_); (case hx => exact L2.SqT.of (by walk_at "hp")))
  | (with_reducible refine' U.i_yes ?_)
  | (with_reducible refine' L2.iteT ?_)
  | (with_reducible refine' U.i_next ?_)
  | fail "rd1")
local macro_rules | `(tactic| walk_at "szl") => `(tactic| first | decide | (refine L2.small1000 ?_; (try simp only [List.length_cons, List.length_nil, List.length_map]); omega))
local macro_rules | `(tactic| walk_at "rd") => `(tactic| (repeat walk_at "rd1"))
local macro_rules | `(tactic| walk_at "ro") => `(tactic| (refine' U.i_or ?_; walk_at "rd"))
local macro_rules | `(tactic| walk_at "ra") => `(tactic| (refine' U.i_pt ?_; walk_at "rd"))
local macro_rules | `(tactic| walk_at "gd") => `(tactic| (repeat (first | walk_at "rd1" | (with_reducible refine' U.i_andV ?_))))

namespace Lw
open PySem L2 U LamX
local macro_rules | `(tactic| walk_at "fa") => `(tactic| first
  | assumption
  | ((with_reducible refine' Lw.FA.same ?hx ?hy); (case hy => assumption); (case hx => walk_at "fa"))
  | fail "fa")
local macro_rules | `(tactic| walk_at "bg") => `(tactic| first
  | assumption
  | ((with_reducible refine' Lw.Bag.same ?hx ?hy); (case hy => assumption); (case hx => walk_at "bg"))
  | fail "bg")
local macro_rules | `(tactic| walk_at "op2") => `(tactic| (refine' Lw.spOp.go ?fa ?ra ?rb ?q; (case fa => walk_at "fa"); (case ra => constructor <;> omega); (case rb => constructor <;> omega); intro H' s'; walk_at "rd"))

local macro_rules | `(tactic| walk_at "ty") => `(tactic| first | exact .base (.int _) | exact .base (.str _) | exact .base (.bl _) | exact .base .non | exact .base (.lst (by walk_at "hp")) | exact .base (.tup (by walk_at "hp")))
local macro_rules | `(tactic| walk_at "al") => `(tactic| (repeat (first
  | walk_at "rd1"
  | (with_reducible refine' U.i_andV ?_)
  | (with_reducible refine' U.i_notV ?_)
  | (with_reducible refine' U.i_truth ?_)
  | (with_reducible refine' U.i_or ?_)
  | (with_reducible refine' U.i_pt ?_)
  | ((with_reducible refine' U.i_isNT ?hx ?_); (case hx => rfl))
  | ((with_reducible refine' U.i_isNF ?hx ?_); (case hx => (intro z; cases z)))
  | ((with_reducible refine' U.i_isiT ?hx ?hy ?_); (case hx => walk_at "ty"); (case hy => decide +kernel))
  | ((with_reducible refine' U.i_isiF ?hx ?hy ?_); (case hx => walk_at "ty"); (case hy => decide +kernel))
  | (with_reducible refine' U.i_neBB ?_)
  | (with_reducible refine' U.i_eqBB ?_)
  | (with_reducible refine' U.i_eqSS ?_)
  | ((with_reducible refine' U.i_lenL ?hx ?_); (case hx => exact L2.SqL.of (by walk_at "hp")))
  | ((with_reducible refine' U.i_lenT ?hx ?_); (case hx => exact L2.SqT.of (by walk_at "hp")))
  | (with_reducible refine' U.iteT' ?_)
  | (with_reducible refine' U.iteF' ?_)
  | fail "al")))

local macro_rules | `(tactic| walk_at "gq") => `(tactic| (repeat (first | ((fail_if_success (with_reducible refine' U.i_seq ?_)); (first | walk_at "rd1" | (with_reducible refine' U.i_andV ?_))) | fail "gq")))
local macro_rules | `(tactic| walk_at "rq") => `(tactic| (repeat (first | ((fail_if_success (with_reducible refine' U.i_seq ?_)); walk_at "rd1") | fail "rq")))
local macro_rules | `(tactic| walk_at "nt") => `(tactic| (repeat (first
  | walk_at "rd1"
  | (with_reducible refine' U.i_dni ?_)
  | (with_reducible refine' U.i_din ?_)
  | (with_reducible refine' U.i_dgt ?_)
  | (with_reducible refine' U.i_dpt ?_)
  | (with_reducible refine' U.i_dnew ?_)
  | ((with_reducible refine' U.i_dniN ?hx ?_); (case hx => walk_at "hp"))
  | ((with_reducible refine' U.i_dinN ?hx ?_); (case hx => walk_at "hp"))
  | ((with_reducible refine' U.i_dniR ?hx ?_); (case hx => walk_at "hp"))
  | ((with_reducible refine' U.i_dinR ?hx ?_); (case hx => walk_at "hp"))
  | (with_reducible refine' U.i_or ?_)
  | (with_reducible refine' U.i_pt ?_)
  | fail "nt")))
local macro_rules | `(tactic| walk_at "wt") => `(tactic| (repeat (first
  | ((fail_if_success (with_reducible refine' U.i_seq ?_)); walk_at "rd1")
  | (with_reducible refine' U.i_dni ?_)
  | (with_reducible refine' U.i_din ?_)
  | (with_reducible refine' U.i_dgt ?_)
  | (with_reducible refine' U.i_dpt ?_)
  | (with_reducible refine' U.i_dnew ?_)
  | ((with_reducible refine' U.i_dniU ?hx ?_); (case hx => walk_at "hp"))
  | ((with_reducible refine' U.i_dinU ?hx ?_); (case hx => walk_at "hp"))
  | ((with_reducible refine' U.i_dniS ?hx ?_); (case hx => walk_at "hp"))
  | ((with_reducible refine' U.i_dinS ?hx ?_); (case hx => walk_at "hp"))
  | (with_reducible refine' U.i_pt ?_)
  | fail "wt")))

theorem tupleTK {X : Cx} (K : PySem.W.Frag) (h : X.K = K) : CallR X (.type "tuple") (fun xs H Q => ∃ a ys, xs = [.ref a] ∧ SqT K H a ys ∧ Q (.ref a) H) := h ▸ call_tupleT
theorem rises_iff {l : List Int} : (l.Pairwise fun a b => a < b) ↔ ∀ i, (h : i + 1 < l.length) → l[i] < l[i + 1] := by
  constructor
  · intro p i h
    exact List.pairwise_iff_getElem.mp p i (i + 1) (by omega) h (by omega)
  · intro h
    refine List.pairwise_iff_getElem.mpr fun i j hi hj lt => ?_
    obtain ⟨k, e⟩ : ∃ k, j = i + 1 + k := ⟨j - (i + 1), by omega⟩
    subst e
    clear lt
    induction k with
    | zero => exact h i hj
    | succ k ih => exact Int.lt_trans (ih (by omega)) (h (i + 1 + k) hj)
theorem all2_zip {α β : Type} {R : α → β → Prop} {as : List α} {bs : List β} (h : U.All2 R as bs) : ∀ p ∈ as.zip bs, R p.1 p.2 := by
  induction h with
  | nil => intro p m; cases m
  | cons r _ ih =>
    intro p m
    rcases List.mem_cons.mp m with e | m
    · subst e; exact r
    · exact ih p m
theorem all2_fst {α β γ : Type} {R : α → β → Prop} {as : List α} {bs : List β} (f : α → γ) (h : U.All2 R as bs) : (as.zip bs).map (fun p => f p.1) = as.map f := by
  induction h with
  | nil => rfl
  | cons r _ ih =>
    rw [List.zip_cons_cons, List.map_cons, List.map_cons, ih]
theorem all2_snd {α β : Type} {R : α → β → Prop} {as : List α} {bs : List β} (h : U.All2 R as bs) : (as.zip bs).map (·.2) = bs := by
  induction h with
  | nil => rfl
  | cons r _ ih =>
    rw [List.zip_cons_cons, List.map_cons, ih]
/-- what a task is of -/
structure TaskD where
  ns : List Str
  rs : List Road
  s : Str
  es : List Str
  mn : Int
  ls : List (List Int)
  n : Int
def LotsAt (K : PySem.W.Frag) (H : Hp) (as : List Addr) (ls : List (List Int)) : Prop := U.All2 (fun a l => SqT K H a (l.map V.int)) as ls
/-- no line twice, and rising -/
def Rises (l : List Int) : Prop := l ≠ [] ∧ l.Pairwise fun a b => a < b
/-- what a task needs -/
structure TaskOk (d : TaskD) : Prop where
  good : ∀ s ∈ d.ns, GoodN s
  ends : ∀ r ∈ d.rs, r.2.1 ∈ d.ns ∧ r.2.2.1 ∈ d.ns
  free : ∀ hs : List Str, hs.Perm d.ns → PyProof.Rows.sortedS hs = true → ∀ v ∈ d.ns, v ∈ ordR hs d.rs
  src : d.s ∈ d.ns
  ears : d.es.Nodup ∧ (∀ e ∈ d.es, e ∈ d.ns) ∧ d.s ∉ d.es ∧ 1 ≤ d.es.length ∧ d.es.length ≤ 4
  many : 1 ≤ d.mn ∧ d.mn ≤ 4
  lots : d.ls.length ≤ 3 ∧ d.ls.Nodup ∧ ∀ l ∈ d.ls, Rises l ∧ ∀ n ∈ l, n ∈ d.rs.map (·.1)
def taskF (ro fo wo eo go : Addr) (d : TaskD) : List (Str × V) := [("rank_of", .ref ro), ("field_of", .ref fo), ("web", .ref wo), ("start", .str d.s), ("ears", .ref eo), ("many", .int d.mn), ("gone", .ref go)]
/-- a task at t; F: what of it could be written -/
structure TaskA (K : PySem.W.Frag) (A : Ad) (H : Hp) (t ro fo wo nd rd eo go : Addr) (hs : List Str) (qs : List (Int × Addr)) (as : List Addr) (d : TaskD) : Prop where
  obj : ∃ dx, H t = some (.ins A.Task dx (taskF ro fo wo eo go d))
  rank : H ro = some (.lst ((ordR hs d.rs).map V.str))
  hs : hs.Perm d.ns ∧ PyProof.Rows.sortedS hs = true
  fld : FA A H fo d.n
  web : NetA A H wo nd rd d.ns qs d.rs
  ears : H eo = some (.lst (d.es.map V.str))
  gone : H go = some (.lst (as.map V.ref))
  lots : LotsAt K H as d.ls
theorem LotsAt.same {K : PySem.W.Frag} {H H' : Hp} {as : List Addr} {ls : List (List Int)} (h : LotsAt K H as ls) (s : Same H H') : LotsAt K H' as ls := h.imp fun _ _ e => U.Same.sqT s e
theorem sqT_but {K : PySem.W.Frag} {H H' : Hp} {z a : Addr} {o : HO} {xs : List V} (h : SqT K H a xs) (oz : H z = some o) (no : ∀ ys, o ≠ .tup ys) (nf : ∀ o' u, o ≠ .frz o' u) (k : But z H H') : SqT K H' a xs := by
  rcases h with (h | ⟨o', h⟩) | h
  · exact .inl (.inl (k _ _ h (U.ne_of_get h oz (fun e => no _ e.symm))))
  · exact .inl (.inr ⟨o', k _ _ h (U.ne_of_get h oz (fun e => nf _ _ e.symm))⟩)
  · exact .inr h
theorem LotsAt.but {K : PySem.W.Frag} {H H' : Hp} {z : Addr} {o : HO} {as : List Addr} {ls : List (List Int)} (h : LotsAt K H as ls) (oz : H z = some o) (no : ∀ ys, o ≠ .tup ys) (nf : ∀ o' u, o ≠ .frz o' u) (k : But z H H') : LotsAt K H' as ls := h.imp fun _ _ e => sqT_but e oz no nf k
section
variable {K : PySem.W.Frag} {A : Ad} {H H' : Hp} {t ro fo wo nd rd eo go : Addr} {hs : List Str} {qs : List (Int × Addr)} {as : List Addr} {d : TaskD}
theorem TaskA.same (h : TaskA K A H t ro fo wo nd rd eo go hs qs as d) (s : Same H H') : TaskA K A H' t ro fo wo nd rd eo go hs qs as d :=
  ⟨h.obj.elim fun dx o => ⟨dx, s _ _ o⟩, s _ _ h.rank, h.hs, h.fld.same s, h.web.same s, s _ _ h.ears, s _ _ h.gone, h.lots.same s⟩
theorem FA.mut {n : Int} {p z : Addr} {o : HO} (h : FA A H p n) (oz : H z = some o) (no : ∀ C dx fs, o ≠ .ins C dx fs) (k : But z H H') : FA A H' p n := by
  obtain ⟨h1, dx, e⟩ := h
  exact ⟨h1, dx, k _ _ e (U.ne_of_get e oz fun q => no _ _ _ q.symm)⟩
/-- a list that is none of the task's is written -/
theorem TaskA.list {z : Addr} {xs : List V} (h : TaskA K A H t ro fo wo nd rd eo go hs qs as d) (o : H z = some (.lst xs)) (n1 : ro ≠ z) (n2 : eo ≠ z) (n3 : go ≠ z) (k : But z H H') : TaskA K A H' t ro fo wo nd rd eo go hs qs as d :=
  ⟨h.obj.elim fun dx e => ⟨dx, k _ _ e (U.ne_of_get e o nofun)⟩, k _ _ h.rank n1, h.hs, h.fld.mut o nofun k, h.web.list o k, k _ _ h.ears n2, k _ _ h.gone n3, h.lots.but o (fun _ e => by cases e) (fun _ _ e => by cases e) k⟩
theorem TaskA.bag {b c : Addr} (h : TaskA K A H t ro fo wo nd rd eo go hs qs as d) (hb : Bag H b c) (k : But b H H') : TaskA K A H' t ro fo wo nd rd eo go hs qs as d := by
  have n1 := strs_ne_bag hb h.rank
  have n2 := strs_ne_bag hb h.ears
  have n3 := refs_ne_bag hb h.gone
  obtain ⟨_, _, _, _, h1, _⟩ := hb
  exact h.list h1 n1 n2 n3 k
/-- a dict that is none of the task's is written -/
theorem TaskA.dict {z : Addr} {kvs : List (Key × V)} (h : TaskA K A H t ro fo wo nd rd eo go hs qs as d) (o : H z = some (.dK kvs)) (n1 : nd ≠ z) (n2 : rd ≠ z) (k : But z H H') : TaskA K A H' t ro fo wo nd rd eo go hs qs as d :=
  ⟨h.obj.elim fun dx e => ⟨dx, k _ _ e (U.ne_of_get e o nofun)⟩, k _ _ h.rank (U.ne_of_get h.rank o nofun), h.hs, h.fld.mut o nofun k, h.web.dict o n1 n2 k, k _ _ h.ears (U.ne_of_get h.ears o nofun), k _ _ h.gone (U.ne_of_get h.gone o nofun), h.lots.but o (fun _ e => by cases e) (fun _ _ e => by cases e) k⟩
end
/-- a task, its parts hidden -/
def TaskS (K : PySem.W.Frag) (A : Ad) (H : Hp) (t : Addr) (d : TaskD) : Prop := ∃ ro fo wo nd rd eo go hs qs as, TaskA K A H t ro fo wo nd rd eo go hs qs as d
theorem TaskS.same {K : PySem.W.Frag} {A : Ad} {H H' : Hp} {t : Addr} {d : TaskD} (h : TaskS K A H t d) (s : Same H H') : TaskS K A H' t d := by
  obtain ⟨ro, fo, wo, nd, rd, eo, go, hs, qs, as, h⟩ := h
  exact ⟨ro, fo, wo, nd, rd, eo, go, hs, qs, as, h.same s⟩
theorem TaskS.bag {K : PySem.W.Frag} {A : Ad} {H H' : Hp} {t b c : Addr} {d : TaskD} (h : TaskS K A H t d) (hb : Bag H b c) (k : But b H H') : TaskS K A H' t d := by
  obtain ⟨ro, fo, wo, nd, rd, eo, go, hs, qs, as, h⟩ := h
  exact ⟨ro, fo, wo, nd, rd, eo, go, hs, qs, as, h.bag hb k⟩
def spNeedLetters : Sp := fun vs H Q _ => ∃ m : Int, vs = [.int m] ∧ 1 ≤ m ∧ m ≤ 4 ∧ Q .non H
def spIsLoss (K : PySem.W.Frag) : Sp := fun vs H Q _ => ∃ (a : Addr) (l : List Int), vs = [.ref a] ∧ SqT K H a (l.map V.int) ∧ l.length ≤ 60 ∧ ∀ b H', Same H H' → (b = true ↔ Rises l) → Q (.bl b) H'
def spNeedLosses (K : PySem.W.Frag) : Sp := fun vs H Q _ => ∃ (p : Addr) (as : List Addr) (ls : List (List Int)), vs = [.ref p] ∧ H p = some (.lst (as.map V.ref)) ∧ LotsAt K H as ls ∧ ls.length ≤ 3 ∧ ls.Nodup ∧ (∀ l ∈ ls, Rises l ∧ l.length ≤ 60) ∧ ∀ H', Same H H' → Q .non H'
section
variable {P : Program} {w : World} {K : PySem.W.Frag} {mg : Str → Option Value} {base : Heap} {A : Ad}
theorem sc_nletters : FnScope ["letters"] ["letters"] (defScope (top 70)) := ⟨rfl, rfl, rfl, by decide +kernel, rfl, by decide +kernel, by decide +kernel⟩
theorem ok_nletters (T : Txt P w K mg A) : U.Cl P w K mg base 1 "need_letters" spNeedLetters [] := by
  refine T.d_need_letters.ok sc_nletters (fun vs H Q E h => ?_) (fun f cdv Ar outer s H vs Q E hr h => ?_)
  · obtain ⟨m, rfl, m1, m4, k⟩ := h
    rfl
  · obtain ⟨m, rfl, m1, m4, k⟩ := h
    refine ⟨_, (pss_one (ps_if (pt_not (pt_chain U.u_le U.u_le pe_int (pv 0) (U.pe_gval rfl T.g_MOST_LETTERS)))
    (pss_one ps_never)
    pss_nil)), ?_⟩
    walk_at "wt"
    refine U.iteTd m1 ?_
    walk_at "wt"
    refine U.itedn (fun z => absurd m4 z) (fun _ => ?_)
    walk_at "wt"
    exact k

theorem sc_isloss : FnScope ["lines", "at"] ["lines"] (defScope (top 71)) := ⟨rfl, rfl, rfl, by decide +kernel, rfl, by decide +kernel, by decide +kernel⟩
theorem ok_isloss (T : Txt P w K mg A) : U.Cl P w K mg base 1 "is_loss" (spIsLoss K) [] := by
  refine T.d_is_loss.ok sc_isloss (fun vs H Q E h => ?_) (fun f cdv Ar outer s H vs Q E hr h => ?_)
  · obtain ⟨a, l, rfl, sq, l60, k⟩ := h
    rfl
  · obtain ⟨a, l, rfl, sq, l60, k⟩ := h
    refine ⟨_, (pss_one (ps_ret (pe_and (pe_cmpR U.u_gt (pe_callB U.u_len (by rfl) T.len PySem.boot_len (pa_cons (pv 0) pa_nil)) pe_int (nomark _)) (pe_one (pe_callB (cr_all rfl) (by rfl) T.all (by decide +kernel) (pa_cons (pe_lc (own := [("at", 1)]) (g := (gName 1)) (tt := tYes) (by exact rfl) sc_isloss.nd (pi_range2 (by rfl) T.range (pa_cons pe_int (pa_cons (pe_callB U.u_len (by rfl) T.len PySem.boot_len (pa_cons (pv 0) pa_nil)) pa_nil))) (blkOk_by (own := [("at", 1)]) (N := ["lines", "at"]) (sc := defScope (top 71)) (by decide +kernel)) (fun _ _ _ _ _ => (pg_name (i := 1) sc_isloss.nd rfl (Or.inl rfl))) (fun _ _ _ _ _ => pts_nil) (fun _ _ _ _ _ => (pe_cmpR U.u_lt (pe_ix (U.ixT K rfl) (pv 0) (pe_op U.u_sub (pv 1) pe_int) (fun _ _ => rfl)) (pe_ix (U.ixT K rfl) (pv 0) (pv 1) (fun _ _ => rfl)) (nomark _)))) pa_nil)))))), ?_⟩
    walk_at "wt"
    refine U.i_andV ?_
    walk_at "wt"
    refine U.i_lenT sq ?_
    rw [List.length_map]
    walk_at "wt"
    refine U.ited (fun z => ?_) (fun z => ?_)
    rotate_left
    · have e : l = [] := by
        cases l with
        | nil => rfl
        | cons x xs => exact absurd (by show (((xs.length + 1 : Nat) : Int)) > 0; omega) z
      exact k false H (Same.refl H) ⟨nofun, fun r => absurd e r.1⟩
    have ne : l ≠ [] := fun e => by rw [e] at z; exact absurd z (by decide)
    have pos : 0 < l.length := List.length_pos_iff.mpr ne
    walk_at "wt"
    refine U.i_lenT sq ?_
    rw [List.length_map]
    walk_at "wt"
    intro D hD
    refine lc_it (walk_range (n := ((l.length : Int) - 1).toNat)) (fun j H' => Same H H' ∧ ∃ bs : List Bool, H' D = some (.lst (bs.map V.bl)) ∧ bs.length = j ∧ ∀ i (b : Bool), bs[i]? = some b → (b = true ↔ ∃ (x y : Int), l[i]? = some x ∧ l[i + 1]? = some y ∧ x < y)) ⟨same_new hD, [], upd_same, rfl, fun i b e => by simp at e⟩ (fun _ _ _ _ => trivial) ?_ ?_
    · rintro j v H6 H7 hj ⟨s7, bs, oD, bl, each⟩ ⟨rfl, rfl⟩
      have l1 : j < l.length := by omega
      have l2 : j + 1 < l.length := by omega
      have sq7 := U.Same.sqT s7 sq
      walk_at "wt"
      refine ⟨rfl, ?_⟩
      walk_at "wt"
      refine U.i_ixT sq7 (v := .int l[j]) (U.atI_of (j := j) (by omega) (by rw [List.getElem?_map, List.getElem?_eq_getElem l1]; rfl)) ?_
      walk_at "wt"
      refine U.i_ixT sq7 (v := .int l[j + 1]) (U.atI_of (j := j + 1) (by omega) (by rw [List.getElem?_map, List.getElem?_eq_getElem l2]; rfl)) ?_
      walk_at "wt"
      refine ⟨_, oD, small1000 (by rw [List.length_map]; omega), same_own s7 hD, bs ++ [decide (l[j] < l[j + 1])], by rw [List.map_append]; exact upd_same, by rw [List.length_append, bl]; rfl, fun i b e => ?_⟩
      rcases Nat.lt_or_ge i bs.length with lt | ge
      · rw [List.getElem?_append_left lt] at e
        exact each i b e
      · rw [List.getElem?_append_right ge] at e
        have i0 : i - bs.length = 0 := by
          cases h : i - bs.length with
          | zero => rfl
          | succ k => rw [h] at e; simp at e
        rw [i0] at e
        have eb : b = decide (l[j] < l[j + 1]) := (Option.some.inj e).symm
        have ej : i = j := by omega
        subst ej
        rw [eb, decide_eq_true_iff]
        constructor
        · intro h
          exact ⟨_, _, List.getElem?_eq_getElem l1, List.getElem?_eq_getElem l2, h⟩
        · rintro ⟨x, y, ex, ey, h⟩
          rw [List.getElem?_eq_getElem l1] at ex
          rw [List.getElem?_eq_getElem l2] at ey
          rw [← Option.some.inj ex, ← Option.some.inj ey] at h
          exact h
    rintro H6 ⟨s6, bs, oD, bl, each⟩
    walk_at "wt"
    refine U.i_all oD ?_
    refine k _ _ s6 ?_
    rw [List.all_eq_true]
    constructor
    · intro h
      refine ⟨ne, rises_iff.mpr fun i hi => ?_⟩
      have hb : i < bs.length := by omega
      obtain ⟨x, y, ex, ey, lt⟩ := (each i _ (List.getElem?_eq_getElem hb)).mp (h _ (List.getElem_mem hb))
      rw [List.getElem?_eq_getElem (by omega)] at ex
      rw [List.getElem?_eq_getElem hi] at ey
      rw [← Option.some.inj ex, ← Option.some.inj ey] at lt
      exact lt
    · intro r b mb
      obtain ⟨i, hi, e⟩ := List.getElem_of_mem mb
      have h2 : i + 1 < l.length := by omega
      exact (each i b (by rw [List.getElem?_eq_getElem hi, e])).mpr ⟨l[i], l[i + 1], List.getElem?_eq_getElem (by omega), List.getElem?_eq_getElem h2, rises_iff.mp r.2 i h2⟩

theorem sc_nlosses : FnScope ["losses", "some", "lines"] ["losses"] (defScope (top 72)) := ⟨rfl, rfl, rfl, by decide +kernel, rfl, by decide +kernel, by decide +kernel⟩
theorem ok_nlosses (T : Txt P w K mg A) : U.Cl P w K mg base 2 "need_losses" (spNeedLosses K) [] := by
  obtain ⟨_, _, _, F_isloss, g_isloss, k_isloss, bd_isloss⟩ := (ok_isloss (P := P) (w := w) (base := base) T).ex
  obtain ⟨_, d_isloss, b_isloss⟩ := bd_isloss 0 (by decide)
  refine T.d_need_losses.ok sc_nlosses (fun vs H Q E h => ?_) (fun f cdv Ar outer s H vs Q E hr h => ?_)
  · obtain ⟨p, as, ls, rfl, hp, la, l3, nd, ris, k⟩ := h
    rfl
  · obtain ⟨p, as, ls, rfl, hp, la, l3, nd, ris, k⟩ := h
    refine ⟨_, (pss_cons (ps_setLc (i := 1) (own := [("lines", 2)]) (g := (gName 2)) (tt := tYes) (by exact rfl) sc_nlosses.nd rfl rfl (sw_true rfl rfl rfl (by decide +kernel)) (pi_list (pv 0)) (blkOk_by (own := [("lines", 2)]) (N := ["losses", "some", "lines"]) (sc := defScope (top 72)) (by decide +kernel)) (fun _ _ _ _ _ => (pg_name (i := 2) sc_nlosses.nd rfl (Or.inl rfl))) (fun _ _ _ _ _ => pts_nil) (fun _ _ _ _ _ => (pe_callTy (tupleTK K rfl) (by rfl) T.tuple (by decide +kernel) (pa_cons (pv 2) pa_nil))))
    (pss_one (ps_if (PW.pt (pw_or (pt_cmpR U.u_gt (pe_callB U.u_len (by rfl) T.len PySem.boot_len (pa_cons (pv 1) pa_nil)) (U.pe_gval rfl T.g_MOST_LOSSES) (nomark _)) (pw_or (pt_cmpR U.u_lt (pe_callB U.cr_lenTT (by rfl) T.len PySem.boot_len (pa_cons (pe_callTy (cr_setOfT rfl hr.units) (by rfl) T.set (by decide +kernel) (pa_cons (pv 1) pa_nil)) pa_nil)) (pe_callB U.u_len (by rfl) T.len PySem.boot_len (pa_cons (pv 1) pa_nil)) (nomark _)) (pw_or1 (pt_not (pt_val (pe_callB (cr_all rfl) (by rfl) T.all (by decide +kernel) (pa_cons (pe_lc (own := [("lines", 2)]) (g := (gName 2)) (tt := tYes) (by exact rfl) sc_nlosses.nd (pi_list (pv 1)) (blkOk_by (own := [("lines", 2)]) (N := ["losses", "some", "lines"]) (sc := defScope (top 72)) (by decide +kernel)) (fun _ _ _ _ _ => (pg_name (i := 2) sc_nlosses.nd rfl (Or.inl rfl))) (fun _ _ _ _ _ => pts_nil) (fun _ _ _ _ _ => (pe_call F_isloss (hr.mono (by decide)) rfl g_isloss k_isloss b_isloss d_isloss U.passN (pa_cons (pv 2) pa_nil)))) pa_nil))))))))
    (pss_one ps_never)
    pss_nil))), ?_⟩
    have al := la.len
    walk_at "wt"
    with_reducible refine U.i_seq ?_
    walk_at "wt"
    intro D hD
    refine lc_it walk_list (fun j H' => Same H H' ∧ H' D = some (.lst ((as.take j).map V.ref))) ⟨same_new hD, upd_same⟩ (fun j H' _ h => SqL.of (h.1 _ _ hp)) ?_ ?_
    · rintro j v H6 H7 hj ⟨s7, oD⟩ ⟨rfl, hy⟩
      rw [List.getElem?_map] at hy
      obtain ⟨a, ea, rfl⟩ := Option.map_eq_some_iff.mp hy
      obtain ⟨l, el, sq⟩ := la.get j a ea
      walk_at "wt"
      refine ⟨rfl, ?_⟩
      walk_at "wt"
      refine ⟨a, _, rfl, U.Same.sqT s7 sq, ?_⟩
      refine ⟨_, oD, small1000 (by rw [List.length_map, List.length_take]; omega), same_own s7 hD, ?_⟩
      rw [U.take_succ_of ea, List.map_append]
      exact upd_same
    rintro H3 ⟨s3, oD⟩
    rw [List.length_map, List.take_length] at oD
    have la3 := la.same s3
    walk_at "wt"
    refine U.i_or ?_
    walk_at "wt"
    rw [List.length_map, al]
    refine U.ited (fun z => absurd l3 (by omega)) (fun _ => ?_)
    refine U.i_or ?_
    walk_at "wt"
    have ef := all2_fst (fun a => V.ref a) la
    have es := all2_snd la
    refine ⟨D, as.zip ls, rfl, by rw [ef]; exact SqL.of oD, fun q m => all2_zip la3 q m, by rw [List.length_zip]; omega, fun a L ha sub cov => ?_⟩
    have tups : ∀ q ∈ L, SqT K (upd H3 a (SetTO P w a L)) q.1 (q.2.map V.int) := fun q m => U.Same.sqT (same_new ha) (all2_zip la3 q (sub q m))
    have oD4 : upd H3 a (SetTO P w a L) D = some (.lst (as.map V.ref)) := same_new ha _ _ oD
    walk_at "wt"
    refine ⟨a, L, rfl, upd_same, tups, fun lnd l64 => ?_⟩
    have nl : ¬ (L.map (·.2)).length < ls.length := fun lt => (U.len_set lnd (fun x m => by
      obtain ⟨q, mq, rfl⟩ := List.mem_map.mp m
      rw [← es]
      exact List.mem_map.mpr ⟨q, sub q mq, rfl⟩) (fun x m => by
      rw [← es] at m
      obtain ⟨q, mq, rfl⟩ := List.mem_map.mp m
      exact cov q mq)).mp lt nd
    rw [List.length_map] at nl
    walk_at "wt"
    rw [List.length_map, al]
    refine U.ited (fun z => absurd z (by omega)) (fun _ => ?_)
    have s4 : Same H (upd H3 a (SetTO P w a L)) := s3.trans (same_new ha)
    have la4 := la.same s4
    walk_at "wt"
    intro D2 hD2
    refine lc_it walk_list (fun j H' => Same (upd H3 a (SetTO P w a L)) H' ∧ H' D2 = some (.lst ((List.replicate j true).map V.bl))) ⟨same_new hD2, upd_same⟩ (fun j H' _ h => SqL.of (h.1 _ _ oD4)) ?_ ?_
    · rintro j v H6 H7 hj ⟨s7, oD2⟩ ⟨rfl, hy⟩
      rw [List.getElem?_map] at hy
      obtain ⟨b, eb, rfl⟩ := Option.map_eq_some_iff.mp hy
      obtain ⟨l, el, sq⟩ := la4.get j b eb
      rw [List.length_map] at hj
      obtain ⟨r1, r2⟩ := ris l (List.mem_of_getElem? el)
      walk_at "wt"
      refine ⟨rfl, ?_⟩
      walk_at "wt"
      refine ⟨b, l, rfl, U.Same.sqT s7 sq, r2, fun c H8 s8 ic => ?_⟩
      rw [ic.mpr r1]
      refine ⟨_, s8 _ _ oD2, small1000 (by rw [List.length_map, List.length_replicate]; omega), same_own (s7.trans s8) hD2, ?_⟩
      rw [List.replicate_succ', List.map_append]
      exact upd_same
    rintro H6 ⟨s6, oD2⟩
    walk_at "wt"
    refine U.i_all (bs := List.replicate _ true) oD2 ?_
    rw [U.all_rep]
    refine ⟨_, rfl, U.iteF' ?_⟩
    walk_at "wt"
    exact k _ (s4.trans s6)

end
end Lw
end

section
set_option Elab.async false
set_option linter.all false
set_option maxRecDepth 100000
set_option maxHeartbeats 4000000
/-! ### own steps (local) -/
local macro_rules | `(tactic| walk_at "hp") => `(tactic| first
  | assumption
  | exact L2.upd_same
  | ((with_reducible refine U.upd_new ?_ ?_); (focus (first | assumption | done)); walk_at "hp")
  | ((with_reducible refine U.upd_ne'' ?_ ?_); (focus (first | assumption | (apply Ne.symm; assumption))); walk_at "hp")
  | ((with_reducible refine' U.Same.get ?hx ?hy); (case hx => assumption); (case hy => walk_at "hp"))
  | ((with_reducible refine' U.ExtN.lst ?hx ?hy); (case hx => assumption); (case hy => walk_at "hp"))
  | ((with_reducible refine' U.ExtN.tup ?hx ?hy); (case hx => assumption); (case hy => walk_at "hp"))
  | ((with_reducible refine' U.ExtN.ins ?hx ?hy); (case hx => assumption); (case hy => walk_at "hp"))
  | fail "hp")
local macro_rules | `(tactic| walk_at "lay") => `(tactic| (intro p hn; generalize hg : L2.upd _ p _ = H'; have hs := U.same_of hg hn; have ho := U.at_of hg; clear hg))
local macro_rules | `(tactic| walk_at "sz") => `(tactic| first | decide | (show _ ≤ PySem.sizeLine; rw [PySem.sizeLine_eq]; (try simp only [List.length_cons, List.length_nil, List.length_map]); omega))
local macro_rules | `(tactic| walk_at "ref'") => `(tactic| skip)
local macro_rules | `(tactic| walk_at "rd1") => `(tactic| first
  | (with_reducible refine' U.i_seq ?_)
  | (with_reducible refine' U.i_asg ?_)
  | (with_reducible refine' U.i_ret ?_)
  | (with_reducible refine' U.i_ifS ?_)
  | (with_reducible refine' U.i_drop ?_)
  | ((with_reducible refine' U.i_var ?hx ?_); (case hx => rfl))
  | (with_reducible refine' U.i_c ?_)
  | (with_reducible refine' U.i_op ?_)
  | (with_reducible refine' U.i_un ?_)
  | (with_reducible refine' U.i_name ?_)
  | (with_reducible refine' U.i_gsub ?_)
  | (with_reducible refine' U.i_test ?_)
  | (with_reducible refine' U.i_tB ?_)
  | (with_reducible refine' U.i_bl ?_)
  | (with_reducible refine' U.i_not ?_)
  | (with_reducible refine' U.i_nil ?_)
  | (with_reducible refine' U.i_cons ?_)
  | (with_reducible refine' U.i_cb ?_)
  | (with_reducible refine' U.i_call ?_)
  | (with_reducible refine' U.i_fld ?_)
  | ((with_reducible refine' U.i_fld' ?hx ?hy ?hz ?hw ?_); (case hx => walk_at "hp"); (case hy => assumption); (case hz => assumption); (case hw => rfl))
  | (with_reducible refine' U.i_meth ?_)
  | ((with_reducible refine' U.i_meth' ?hx ?hy ?_); (case hx => walk_at "hp"); (case hy => rfl))
  | (with_reducible refine' U.i_add ?_)
  | (with_reducible refine' U.i_sub ?_)
  | ((with_reducible refine' U.i_mul ?hx ?_); (case hx => (first | (left; constructor <;> omega) | (right; constructor <;> omega))))
  | ((with_reducible refine' U.i_mod ?hx ?_); (case hx => omega))
  | ((with_reducible refine' U.i_fdiv ?hx ?_); (case hx => (constructor <;> omega)))
  | ((with_reducible refine' U.i_pow ?hx ?_); (case hx => (refine ⟨?_, ?_, ?_⟩ <;> decide)))
  | (with_reducible refine' U.i_lt ?_)
  | (with_reducible refine' U.i_le ?_)
  | (with_reducible refine' U.i_gt ?_)
  | (with_reducible refine' U.i_ge ?_)
  | (with_reducible refine' U.i_eqI ?_)
  | (with_reducible refine' U.i_neI ?_)
  | (with_reducible refine' U.i_rU ?_)
  | (with_reducible refine' U.i_abs ?_)
  | (with_reducible refine' U.i_callN ?_)
  | ((with_reducible refine' U.i_lens ?hx ?hy ?_); (case hx => rfl); (case hy => rfl))
  | ((with_reducible refine' U.i_ixL ?hx ?hy ?_); (case hx => exact L2.SqL.of (by walk_at "hp")); (case hy => rfl))
  | ((with_reducible refine' U.i_lenL ?hx ?_); (case hx => exact L2.SqL.of (by walk_at "hp")))
  | ((with_reducible refine' U.i_setL ?hx ?hy ?_); (case hx => walk_at "hp"); (case hy => rfl))
  | (with_reducible refine' U.i_augS ?_)
  | ((with_reducible refine' U.i_aug ?hx ?_); (case hx => rfl))
  | (with_reducible refine' U.i_ipI ?_)
  | ((with_reducible refine' U.i_ipMul ?hx ?_); (case hx => (first | (left; constructor <;> omega) | (right; constructor <;> omega))))
  | ((with_reducible refine' U.i_gtup ?hx ?hy ?_); (case hx => exact L2.SqT.of (by walk_at "hp")); (case hy => rfl))
  | (with_reducible refine' U.i_gcons ?_)
  | (with_reducible refine' U.i_gnil ?_)
  | ((with_reducible refine' U.i_divmod ?hx ?_); (case hx => (constructor <;> omega)); walk_at "lay")
  | (with_reducible refine' U.i_tup ?_)
  | (with_reducible refine' U.i_lst ?_)
  | ((with_reducible refine' U.lay_and ?hx ?_); (case hx => walk_at "sz"); walk_at "lay")
  | (with_reducible refine' U.i_sl ?_)
  | (with_reducible refine' U.i_part ?_)
  | (with_reducible refine' U.i_part' ?_)
  | (with_reducible refine' U.i_nopart ?_)
  | ((with_reducible refine' U.i_slL ?hx ?_); (case hx => exact L2.SqL.of (by walk_at "hp")); walk_at "lay")
  | (with_reducible refine' U.i_bm ?_)
  | ((with_reducible refine' U.i_bm' ?hx ?_); (case hx => walk_at "hp"))
  | ((with_reducible refine' U.i_append ?hx ?hy ?_); (case hx => walk_at "hp"); (case hy => walk_at "szl"))
  | ((with_reducible refine' U.i_chLL ?hx ?hy ?_); (case hx => rfl); (case hy => rfl))
  | (with_reducible refine' U.i_chain ?_)
  | (with_reducible refine' U.i_rng1 ?_)
  | ((with_reducible refine' U.i_rng1' ?hx ?hy ?_); (case hx => omega); (case hy => omega))
  | (with_reducible refine' U.i_rng2 ?_)
  | ((with_reducible refine' U.i_rng2' ?hx ?_); (case hx => (refine ⟨?_, ?_, ?_, ?_⟩ <;> omega)))
  | (with_reducible refine' U.i_rng3 ?_)
  | (with_reducible refine' U.i_enum ?_)
  | ((with_reducible refine' U.i_enum' ?hx ?_); (case hx => exact L2.SqL.of (by walk_at "hp")))
  | (with_reducible refine' U.i_enumT ?_)
  | ((with_reducible refine' U.i_enumT' ?hx ?_); (case hx => exact L2.SqT.of (by walk_at "hp")))
  | (with_reducible refine' U.i_rev ?_)
  | ((with_reducible refine' U.i_rev' ?hx ?_); (case hx => exact L2.SqL.of (by walk_at "hp")))
  | (with_reducible refine' U.i_plist ?_)
  | ((with_reducible refine' U.i_plist' ?hx ?_); (case hx => exact L2.SqL.of (by walk_at "hp")))
  | (with_reducible refine' U.i_for ?_)
  | (with_reducible refine' U.i_sfld ?_)
  | ((with_reducible refine' U.i_sfld' ?hx ?hy ?hz ?hw ?_); (case hx => walk_at "hp"); (case hy => assumption); (case hz => assumption); (case hw => exact Nat.le_of_ble_eq_true rfl))
  | (with_reducible refine' U.i_lc ?_)
  | (with_reducible refine' U.i_par3 ?_)
  | (with_reducible refine' U.i_par3' ?_)
  | (with_reducible refine' U.i_par ?_)
  | (with_reducible refine' U.i_par' ?_)
  | (with_reducible refine' U.i_lrg ?_)
  | (with_reducible refine' U.i_rg1 ?_)
  | (with_reducible refine' U.i_rg1' ?_)
  | (with_reducible refine' U.i_pl ?_)
  | ((with_reducible refine' U.i_pl' ?hx ?hy ?_); (case hx => walk_at "hp"); (case hy => exact Nat.le_of_ble_eq_true rfl))
  | (with_reducible refine' U.i_rAdd ?_)
  | ((with_reducible refine' U.i_listOf ?hx ?_); (case hx => exact L2.SqL.of (by walk_at "hp")); walk_at "lay")
  | (with_reducible refine' U.i_intB ?_)
  | (with_reducible refine' U.i_wget ?_)
  | ((with_reducible refine' U.i_tupleOf ?hx ?_); (case hx => walk_at "hp"); walk_at "lay")
  | ((with_reducible refine' U.i_repA ?hx ?hn ?h0 ?h1 ?h2 ?_); (case hx => walk_at "hp"); (case hn => simp); (case h0 => omega); (case h1 => omega); (case h2 => simp); intro p H' hs ho)
  | ((with_reducible refine' U.i_catA ?hx ?hy ?hz ?_); (case hx => walk_at "hp"); (case hy => walk_at "hp"); (case hz => walk_at "sz"); intro p H' hs ho)
  | ((with_reducible refine' U.i_slA ?hx ?_); (case hx => walk_at "hp"); intro p H' hs ho)
  | (with_reducible refine' U.i_zipS ?_)
  | ((with_reducible refine' U.i_zipTT ?hx ?hy ?_); (case hx => exact L2.SqT.of (by walk_at "hp")); (case hy => exact L2.SqT.of (by walk_at "hp")))
  | ((with_reducible refine' U.i_zipLL ?hx ?hy ?_); (case hx => exact L2.SqL.of (by walk_at "hp")); (case hy => exact L2.SqL.of (by walk_at "hp")))
  | (with_reducible refine' U.i_ptup ?_)
  | ((with_reducible refine' U.i_ptup' ?hx ?_); (case hx => exact L2.SqT.of (by walk_at "hp")))
  | ((with_reducible refine' U.i_lenT ?hx ?_); (case hx => exact L2.SqT.of (by walk_at "hp")))
  | (with_reducible refine' U.i_yes ?_)
  | (with_reducible refine' L2.iteT ?_)
  | (with_reducible refine' U.i_next ?_)
  | fail "rd1")
local macro_rules | `(tactic| walk_at "szl") => `(tactic| first | decide | (refine L2.small1000 ?_; (try simp only [List.length_cons, List.length_nil, List.length_map]); omega))
local macro_rules | `(tactic| walk_at "rd") => `(tactic| (repeat walk_at "rd1"))
local macro_rules | `(tactic| walk_at "ro") => `(tactic| (refine' U.i_or ?_; walk_at "rd"))
local macro_rules | `(tactic| walk_at "ra") => `(tactic| (refine' U.i_pt ?_; walk_at "rd"))
local macro_rules | `(tactic| walk_at "gd") => `(tactic| (repeat (first | walk_at "rd1" | (with_reducible refine' U.i_andV ?_))))

namespace Lw
open PySem L2 U LamX
local macro_rules | `(tactic| walk_at "fa") => `(tactic| first
  | assumption
  | ((with_reducible refine' Lw.FA.same ?hx ?hy); (case hy => assumption); (case hx => walk_at "fa"))
  | fail "fa")
local macro_rules | `(tactic| walk_at "bg") => `(tactic| first
  | assumption
  | ((with_reducible refine' Lw.Bag.same ?hx ?hy); (case hy => assumption); (case hx => walk_at "bg"))
  | fail "bg")
local macro_rules | `(tactic| walk_at "op2") => `(tactic| (refine' Lw.spOp.go ?fa ?ra ?rb ?q; (case fa => walk_at "fa"); (case ra => constructor <;> omega); (case rb => constructor <;> omega); intro H' s'; walk_at "rd"))

local macro_rules | `(tactic| walk_at "ty") => `(tactic| first | exact .base (.int _) | exact .base (.str _) | exact .base (.bl _) | exact .base .non | exact .base (.lst (by walk_at "hp")) | exact .base (.tup (by walk_at "hp")))
local macro_rules | `(tactic| walk_at "al") => `(tactic| (repeat (first
  | walk_at "rd1"
  | (with_reducible refine' U.i_andV ?_)
  | (with_reducible refine' U.i_notV ?_)
  | (with_reducible refine' U.i_truth ?_)
  | (with_reducible refine' U.i_or ?_)
  | (with_reducible refine' U.i_pt ?_)
  | ((with_reducible refine' U.i_isNT ?hx ?_); (case hx => rfl))
  | ((with_reducible refine' U.i_isNF ?hx ?_); (case hx => (intro z; cases z)))
  | ((with_reducible refine' U.i_isiT ?hx ?hy ?_); (case hx => walk_at "ty"); (case hy => decide +kernel))
  | ((with_reducible refine' U.i_isiF ?hx ?hy ?_); (case hx => walk_at "ty"); (case hy => decide +kernel))
  | (with_reducible refine' U.i_neBB ?_)
  | (with_reducible refine' U.i_eqBB ?_)
  | (with_reducible refine' U.i_eqSS ?_)
  | ((with_reducible refine' U.i_lenL ?hx ?_); (case hx => exact L2.SqL.of (by walk_at "hp")))
  | ((with_reducible refine' U.i_lenT ?hx ?_); (case hx => exact L2.SqT.of (by walk_at "hp")))
  | (with_reducible refine' U.iteT' ?_)
  | (with_reducible refine' U.iteF' ?_)
  | fail "al")))

local macro_rules | `(tactic| walk_at "gq") => `(tactic| (repeat (first | ((fail_if_success (with_reducible refine' U.i_seq ?_)); (first | walk_at "rd1" | (with_reducible refine' U.i_andV ?_))) | fail "gq")))
local macro_rules | `(tactic| walk_at "rq") => `(tactic| (repeat (first | ((fail_if_success (with_reducible refine' U.i_seq ?_)); walk_at "rd1") | fail "rq")))
local macro_rules | `(tactic| walk_at "nt") => `(tactic| (repeat (first
  | walk_at "rd1"
  | (with_reducible refine' U.i_dni ?_)
  | (with_reducible refine' U.i_din ?_)
  | (with_reducible refine' U.i_dgt ?_)
  | (with_reducible refine' U.i_dpt ?_)
  | (with_reducible refine' U.i_dnew ?_)
  | ((with_reducible refine' U.i_dniN ?hx ?_); (case hx => walk_at "hp"))
  | ((with_reducible refine' U.i_dinN ?hx ?_); (case hx => walk_at "hp"))
  | ((with_reducible refine' U.i_dniR ?hx ?_); (case hx => walk_at "hp"))
  | ((with_reducible refine' U.i_dinR ?hx ?_); (case hx => walk_at "hp"))
  | (with_reducible refine' U.i_or ?_)
  | (with_reducible refine' U.i_pt ?_)
  | fail "nt")))
local macro_rules | `(tactic| walk_at "wt") => `(tactic| (repeat (first
  | ((fail_if_success (with_reducible refine' U.i_seq ?_)); walk_at "rd1")
  | (with_reducible refine' U.i_dni ?_)
  | (with_reducible refine' U.i_din ?_)
  | (with_reducible refine' U.i_dgt ?_)
  | (with_reducible refine' U.i_dpt ?_)
  | (with_reducible refine' U.i_dnew ?_)
  | ((with_reducible refine' U.i_dniU ?hx ?_); (case hx => walk_at "hp"))
  | ((with_reducible refine' U.i_dinU ?hx ?_); (case hx => walk_at "hp"))
  | ((with_reducible refine' U.i_dniS ?hx ?_); (case hx => walk_at "hp"))
  | ((with_reducible refine' U.i_dinS ?hx ?_); (case hx => walk_at "hp"))
  | (with_reducible refine' U.i_pt ?_)
  | fail "wt")))

/-- an object that is not the net is written -/
theorem NetA.off {A : Ad} {H H' : Hp} {x nd rd z C dx : Addr} {fs : List (Str × V)} {ns : List Str} {qs : List (Int × Addr)} {rs : List Road} (h : NetA A H x nd rd ns qs rs) (oz : H z = some (.ins C dx fs)) (n : x ≠ z) (k : But z H H') : NetA A H' x nd rd ns qs rs :=
  ⟨h.obj.elim fun d e => ⟨d, k _ _ e n⟩, k _ _ h.nm (U.ne_of_get h.nm oz nofun), k _ _ h.ro (U.ne_of_get h.ro oz nofun), h.ts.imp fun _ _ e => ⟨e.1, k _ _ e.2 (U.ne_of_get e.2 oz nofun)⟩, h.few, h.nn, h.rn, h.ne⟩
theorem FA.off {A : Ad} {H H' : Hp} {p z : Addr} {n : Int} (h : FA A H p n) (ne : p ≠ z) (k : But z H H') : FA A H' p n := by
  obtain ⟨h1, dx, e⟩ := h
  exact ⟨h1, dx, k _ _ e ne⟩
def spTInit (K : PySem.W.Frag) (A : Ad) : Sp := fun vs H Q E => ∃ (t dx x hl ll : Addr) (as : List Addr) (d : TaskD), vs = [.ref t, .ref x, .str d.s, .ref hl, .int d.mn, .ref ll, .int d.n] ∧ H t = some (.ins A.Task dx []) ∧ NetS A H x d.ns d.rs ∧ H hl = some (.lst (d.es.map V.str)) ∧ H ll = some (.lst (as.map V.ref)) ∧ LotsAt K H as d.ls ∧ TaskOk d ∧ (∀ l ∈ d.ls, l.length ≤ 60) ∧
  (d.n ∈ FM.sizes → ∀ (ro fo wo nd rd eo go : Addr) (hs : List Str) (qs : List (Int × Addr)) (as' : List Addr) (H' : Hp), H ro = none → H nd = none → H rd = none → H eo = none → H go = none → But t H H' → TaskA K A H' t ro fo wo nd rd eo go hs qs as' d → Q .non H') ∧
  (d.n ∉ FM.sizes → ∀ H', But t H H' → E (.ref A.BadSize) none H')
section
variable {P : Program} {w : World} {K : PySem.W.Frag} {mg : Str → Option Value} {base : Heap} {A : Ad}
theorem sc_tinit : FnScope ["self", "net", "source", "hearers", "letters", "losses", "size", "name", "lines", "number"] ["self", "net", "source", "hearers", "letters", "losses", "size"] (defScope (inClass (top 73) 0)) := ⟨rfl, rfl, rfl, by decide +kernel, rfl, by decide +kernel, by decide +kernel⟩
theorem ok_tinit (T : Txt P w K mg A) : U.NwK P w K mg base 6 "Task" A.Task ["self", "net", "source", "hearers", "letters", "losses", "size"] (spTInit K A) (fun fd => U.BN K fd ["self", "net", "source", "hearers", "letters", "losses", "size"] 4 ["letters", "losses", "size"] (fun vs zs => vs ++ zs)) := by
  obtain ⟨_, _, _, F_orderN, c_orderN, m_orderN, bd_orderN⟩ := (ok_orderN (P := P) (w := w) (base := base) T).ex
  obtain ⟨_, d_orderN, b_orderN⟩ := bd_orderN 0 (by decide)
  obtain ⟨_, _, _, F_nhas, c_nhas, m_nhas, bd_nhas⟩ := (ok_nhas (P := P) (w := w) (base := base) T).ex
  obtain ⟨_, d_nhas, b_nhas⟩ := bd_nhas 0 (by decide)
  obtain ⟨_, _, _, F_nhasl, c_nhasl, m_nhasl, bd_nhasl⟩ := (ok_nhasl (P := P) (w := w) (base := base) T).ex
  obtain ⟨_, d_nhasl, b_nhasl⟩ := bd_nhasl 0 (by decide)
  obtain ⟨_, _, _, F_nletters, g_nletters, k_nletters, bd_nletters⟩ := (ok_nletters (P := P) (w := w) (base := base) T).ex
  obtain ⟨_, d_nletters, b_nletters⟩ := bd_nletters 0 (by decide)
  obtain ⟨_, _, _, F_nlosses, g_nlosses, k_nlosses, bd_nlosses⟩ := (ok_nlosses (P := P) (w := w) (base := base) T).ex
  obtain ⟨_, d_nlosses, b_nlosses⟩ := bd_nlosses 0 (by decide)
  obtain ⟨_, _, _, F_init, M_init, g_init, bd_init⟩ := (ok_init (P := P) (w := w) (base := base) T).ex
  obtain ⟨_, d_init, b_init⟩ := bd_init 1 (by decide)
  obtain ⟨_, _, _, F_ntwin, c_ntwin, m_ntwin, bd_ntwin⟩ := (ok_ntwin (P := P) (w := w) (base := base) T).ex
  obtain ⟨_, d_ntwin, b_ntwin⟩ := bd_ntwin 0 (by decide)
  refine T.nk_Task.ok sc_tinit (fun vs H Q E h => ?_) (fun f cdv Ar outer s H vs Q E hr h => ?_)
  · obtain ⟨t, dx, x, hl, ll, as, d, rfl, ht, net, hhl, hll, la, ok, l60, kq, ke⟩ := h
    rfl
  · obtain ⟨t, dx, x, hl, ll, as, d, rfl, ht, net, hhl, hll, la, ok, l60, kq, ke⟩ := h
    have cN := T.c_Net
    have a1 := T.na_Net_named
    have a2 := T.na_Net_roads
    have cT := T.c_Task
    have t1 := T.na_Task_rank_of
    have t2 := T.na_Task_field_of
    have t3 := T.na_Task_web
    have t4 := T.na_Task_start
    have t5 := T.na_Task_ears
    have t6 := T.na_Task_many
    have t7 := T.na_Task_gone
    refine ⟨_, (pss_cons (ps_fld (pv 0) (pe_meth0 (pv 1) c_orderN m_orderN F_orderN (hr.mono (by decide)) b_orderN d_orderN (passE (L2N.takes_of rfl rfl rfl rfl))) rfl)
    (pss_cons (ps_expr (pe_meth (pv 1) c_nhas m_nhas F_nhas (hr.mono (by decide)) b_nhas d_nhas (passE (L2N.takes_of rfl rfl rfl rfl)) (pa_cons (pv 2) pa_nil)))
    (pss_cons (ps_if (PW.pt (pw_or (pt_not (pt_chain U.u_le U.u_le pe_int (pe_callB U.u_len (by rfl) T.len PySem.boot_len (pa_cons (pv 3) pa_nil)) (U.pe_gval rfl T.g_MOST_HEARERS))) (pw_or (pt_cmpR U.u_lt (pe_callB U.cr_lenTx (by rfl) T.len PySem.boot_len (pa_cons (pe_callTy (U.cr_setTx rfl) (by rfl) T.set (by decide +kernel) (pa_cons (pv 3) pa_nil)) pa_nil)) (pe_callB U.u_len (by rfl) T.len PySem.boot_len (pa_cons (pv 3) pa_nil)) (nomark _)) (pw_or1 (pt_cmpR op_in_seq (pv 2) (pv 3) (by rfl))))))
    (pss_one ps_never)
    pss_nil)
    (pss_cons (ps_for (passes_of (by exact rfl)) (by exact rfl) (pi_list (pv 3)) (pg_name (i := 7) sc_tinit.nd rfl (Or.inl rfl))
    (pss_one (ps_expr (pe_meth (pv 1) c_nhas m_nhas F_nhas (hr.mono (by decide)) b_nhas d_nhas (passE (L2N.takes_of rfl rfl rfl rfl)) (pa_cons (pv 7) pa_nil)))))
    (pss_cons (ps_expr (pe_call F_nletters (hr.mono (by decide)) rfl g_nletters k_nletters b_nletters d_nletters (passE (L2N.takes_of rfl rfl rfl rfl)) (pa_cons (pv 4) pa_nil)))
    (pss_cons (ps_expr (pe_call F_nlosses (hr.mono (by decide)) rfl g_nlosses k_nlosses b_nlosses d_nlosses (passE (L2N.takes_of rfl rfl rfl rfl)) (pa_cons (pv 5) pa_nil)))
    (pss_cons (ps_for (passes_of (by exact rfl)) (by exact rfl) (pi_list (pv 5)) (pg_name (i := 8) sc_tinit.nd rfl (Or.inl rfl))
    (pss_one (ps_for (passes_of (by exact rfl)) (by exact rfl) (pi_tup (pv 8)) (pg_name (i := 9) sc_tinit.nd rfl (Or.inl rfl))
    (pss_one (ps_expr (pe_meth (pv 1) c_nhasl m_nhasl F_nhasl (hr.mono (by decide)) b_nhasl d_nhasl (passE (L2N.takes_of rfl rfl rfl rfl)) (pa_cons (pv 9) pa_nil)))))))
    (pss_cons (ps_fld (pv 0) (pe_make M_init F_init (hr.mono (by decide)) rfl g_init b_init d_init (passE (L2N.takes_of rfl rfl rfl rfl)) (pa_cons (pv 6) pa_nil)) rfl)
    (pss_cons (ps_fld (pv 0) (pe_meth0 (pv 1) c_ntwin m_ntwin F_ntwin (hr.mono (by decide)) b_ntwin d_ntwin (passE (L2N.takes_of rfl rfl rfl rfl))) rfl)
    (pss_cons (ps_fld (pv 0) (pv 2) rfl)
    (pss_cons (ps_fld (pv 0) (pe_callTy U.u_listOf (by rfl) T.list (by decide +kernel) (pa_cons (pv 3) pa_nil)) rfl)
    (pss_cons (ps_fld (pv 0) (pv 4) rfl)
    (pss_one (ps_fld (pv 0) (pe_lc (own := [("lines", 8)]) (g := (gName 8)) (tt := tYes) (by exact rfl) sc_tinit.nd (pi_list (pv 5)) (blkOk_by (own := [("lines", 8)]) (N := ["self", "net", "source", "hearers", "letters", "losses", "size", "name", "lines", "number"]) (sc := defScope (inClass (top 73) 0)) (by decide +kernel)) (fun _ _ _ _ _ => (pg_name (i := 8) sc_tinit.nd rfl (Or.inl rfl))) (fun _ _ _ _ _ => pts_nil) (fun _ _ _ _ _ => (pe_callTy (tupleTK K rfl) (by rfl) T.tuple (by decide +kernel) (pa_cons (pv 8) pa_nil)))) rfl)))))))))))))), ?_⟩
    have hx0 : x ≠ t := fun e => by
      obtain ⟨nd, rd, qs, na⟩ := net
      obtain ⟨dx', hx⟩ := na.obj
      rw [e, ht] at hx
      injection Option.some.inj hx with _ _ h
      cases h
    obtain ⟨nd, rd, qs, na⟩ := net
    obtain ⟨dn, hx⟩ := na.obj
    obtain ⟨ok1, ok2, ok3, ok4, ⟨e1, e2, e3, e4, e5⟩, ⟨m1, m4⟩, ⟨l3, lnd, lall⟩⟩ := ok
    have al := la.len
    walk_at "wt"
    with_reducible refine U.i_seq ?_
    walk_at "wt"
    refine ⟨x, nd, rd, d.ns, qs, d.rs, rfl, na, ok2, ok1, ok3, fun ro hs H1 hro s1 pm so oro => ?_⟩
    have ht1 := s1 _ _ ht
    walk_at "wt"
    have eF : putF "rank_of" (V.ref ro) [] = ([("rank_of", V.ref ro)] : List (Str × V)) := rfl
    rw [eF]
    have k1 : But t H (upd H1 t (.ins A.Task dx [("rank_of", .ref ro)])) := fun b o e n => (upd_ne n).trans (s1 _ _ e)
    have ht2 : upd H1 t (.ins A.Task dx [("rank_of", .ref ro)]) t = some (.ins A.Task dx [("rank_of", .ref ro)]) := upd_same
    have nrt : ro ≠ t := fun e => by rw [e, ht] at hro; cases hro
    have oro2 : upd H1 t (.ins A.Task dx [("rank_of", .ref ro)]) ro = some (.lst ((ordR hs d.rs).map V.str)) := (upd_ne nrt).trans oro
    generalize upd H1 t (.ins A.Task dx [("rank_of", .ref ro)]) = H2 at k1 ht2 oro2 ⊢
    have nhl : hl ≠ t := U.ne_of_get hhl ht nofun
    have nll : ll ≠ t := U.ne_of_get hll ht nofun
    have na2 : NetA A H2 x nd rd d.ns qs d.rs := ⟨⟨dn, k1 _ _ hx hx0⟩, k1 _ _ na.nm (U.ne_of_get na.nm ht nofun), k1 _ _ na.ro (U.ne_of_get na.ro ht nofun), na.ts.imp fun _ _ e => ⟨e.1, k1 _ _ e.2 (U.ne_of_get e.2 ht nofun)⟩, na.few, na.nn, na.rn, na.ne⟩
    have hx2 := k1 _ _ hx hx0
    have hhl2 := k1 _ _ hhl nhl
    have hll2 := k1 _ _ hll nll
    have la2 : LotsAt K H2 as d.ls := la.but ht (fun _ e => by cases e) (fun _ _ e => by cases e) k1
    clear ht1 s1 oro
    with_reducible refine U.i_seq ?_
    walk_at "wt"
    refine ⟨x, nd, rd, d.ns, qs, d.rs, d.s, rfl, na2, ok4, ?_⟩
    walk_at "wt"
    with_reducible refine U.i_seqG (fun σ' H' => σ' = [some (.ref t), some (.ref x), some (.str d.s), some (.ref hl), some (.int d.mn), some (.ref ll), some (.int d.n), none, none, none] ∧ Same H2 H') ?rest1 (fun _ rest1 => ?first1)
    case first1 =>
      refine U.i_ifS ?_
      refine U.i_or ?_
      walk_at "wt"
      rw [List.length_map]
      refine U.iteTd (by omega) ?_
      walk_at "wt"
      refine U.itedn (fun z => absurd (by omega) z) (fun _ => ?_)
      refine U.i_or ?_
      walk_at "wt"
      refine ⟨hl, d.es, rfl, SqL.of hhl2, by omega, fun a1 ys ha1 ynd ymem => ?_⟩
      have yl := (U.nodup_perm ynd (fun x m => (ymem x).mp m) (U.nodup_le e1 fun x m => (ymem x).mpr m)).length_eq
      walk_at "wt"
      refine ⟨a1, ys, rfl, upd_same, by omega, ?_⟩
      have s3 : Same H2 (upd H2 a1 (U.SetTx P w a1 ys)) := same_new ha1
      have hhl3 : upd H2 a1 (U.SetTx P w a1 ys) hl = some (.lst (d.es.map V.str)) := s3 _ _ hhl2
      walk_at "wt"
      rw [List.length_map, yl]
      refine U.ited (fun z => absurd z (Int.lt_irrefl _)) (fun _ => ?_)
      walk_at "wt"
      refine i_inS hhl3 ?_
      rw [decide_eq_false e3]
      refine ⟨false, rfl, U.iteF' ?_⟩
      walk_at "wt"
      exact rest1 _ _ ⟨rfl, s3⟩
    case rest1 =>
    rintro σ' H3 ⟨rfl, s3⟩
    have k3 : But t H H3 := but_sm k1 s3
    have na3 := na2.same s3
    have hx3 := s3 _ _ hx2
    have hhl3 := s3 _ _ hhl2
    have hll3 := s3 _ _ hll2
    have la3 := la2.same s3
    have ht3 := s3 _ _ ht2
    have oro3 := s3 _ _ oro2
    clear s3 k1 na2 hx2 hhl2 hll2 la2 ht2 oro2
    walk_at "wt"
    with_reducible refine U.i_seq ?_
    walk_at "wt"
    refine for_it walk_list (fun i σ H' => ∃ v7, σ = [some (.ref t), some (.ref x), some (.str d.s), some (.ref hl), some (.int d.mn), some (.ref ll), some (.int d.n), v7, none, none] ∧ H' = H3) ⟨_, rfl, rfl⟩ (fun i σ H' _ h => by obtain ⟨_, _, rfl⟩ := h; exact SqL.of hhl3) ?_ ?_
    · rintro i v σ H4 H5 hi ⟨v7, rfl, rfl⟩ ⟨rfl, hy⟩
      rw [List.getElem?_map] at hy
      obtain ⟨nm, en, rfl⟩ := Option.map_eq_some_iff.mp hy
      walk_at "wt"
      refine ⟨x, nd, rd, d.ns, qs, d.rs, nm, rfl, na3, e2 nm (List.mem_of_getElem? en), ?_⟩
      walk_at "wt"
      exact ⟨_, rfl, rfl⟩
    rintro σ H4 ⟨v7, rfl, rfl⟩
    walk_at "wt"
    with_reducible refine U.i_seq ?_
    walk_at "wt"
    refine ⟨d.mn, rfl, m1, m4, ?_⟩
    walk_at "wt"
    with_reducible refine U.i_seq ?_
    walk_at "wt"
    refine ⟨ll, as, d.ls, rfl, hll3, la3, l3, lnd, fun l m => ⟨(lall l m).1, l60 l m⟩, fun H5 s5 => ?_⟩
    replace k3 := but_sm k3 s5
    replace na3 := na3.same s5
    replace hx3 := s5 _ _ hx3
    replace hhl3 := s5 _ _ hhl3
    replace hll3 := s5 _ _ hll3
    replace la3 := la3.same s5
    replace ht3 := s5 _ _ ht3
    replace oro3 := s5 _ _ oro3
    clear s5
    walk_at "wt"
    with_reducible refine U.i_seq ?_
    walk_at "wt"
    refine for_it walk_list (fun i σ H' => ∃ v8 v9, σ = [some (.ref t), some (.ref x), some (.str d.s), some (.ref hl), some (.int d.mn), some (.ref ll), some (.int d.n), v7, v8, v9] ∧ H' = H5) ⟨_, _, rfl, rfl⟩ (fun i σ H' _ h => by obtain ⟨_, _, _, rfl⟩ := h; exact SqL.of hll3) ?_ ?_
    · rintro i v σ H6 H7 hi ⟨v8, v9, rfl, rfl⟩ ⟨rfl, hy⟩
      rw [List.getElem?_map] at hy
      obtain ⟨a, ea, rfl⟩ := Option.map_eq_some_iff.mp hy
      obtain ⟨l, el, sq⟩ := la3.get i a ea
      obtain ⟨_, r2⟩ := lall l (List.mem_of_getElem? el)
      walk_at "wt"
      refine U.i_ptup' sq ?_
      refine for_it walk_tup (fun j σ H' => ∃ v9, σ = [some (.ref t), some (.ref x), some (.str d.s), some (.ref hl), some (.int d.mn), some (.ref ll), some (.int d.n), v7, some (.ref a), v9] ∧ H' = H7) ⟨_, rfl, rfl⟩ (fun j σ H' _ h => by obtain ⟨_, _, rfl⟩ := h; exact sq) ?_ ?_
      · rintro j v σ H8 H9 hj ⟨v9, rfl, rfl⟩ ⟨rfl, hy⟩
        rw [List.getElem?_map] at hy
        obtain ⟨n, en, rfl⟩ := Option.map_eq_some_iff.mp hy
        walk_at "wt"
        refine ⟨x, nd, rd, d.ns, qs, d.rs, n, rfl, na3, r2 n (List.mem_of_getElem? en), ?_⟩
        walk_at "wt"
        exact ⟨_, rfl, rfl⟩
      rintro σ H8 ⟨v9, rfl, rfl⟩
      walk_at "wt"
      exact ⟨_, _, rfl, rfl⟩
    rintro σ H6 ⟨v8, v9, rfl, rfl⟩
    walk_at "wt"
    with_reducible refine U.i_seq ?_
    walk_at "wt"
    refine U.i_make ?_
    walk_at "wt"
    intro fo dfo np ndx nep
    refine ⟨fo, dfo, d.n, rfl, upd_same, fun hn H7 kp fa => ⟨rfl, ?_⟩, fun hn => ke hn _ fun b o e n => ?_⟩
    rotate_left
    · have e6 := k3 _ _ e n
      have n1 : b ≠ fo := fun q => by rw [q, np] at e6; cases e6
      have n2 : b ≠ dfo := fun q => by rw [q, ndx] at e6; cases e6
      exact (upd_ne n1).trans ((upd_ne n2).trans e6)
    have s7 := Same.made np ndx kp
    have kq := kq hn
    clear kp ke
    have nft : fo ≠ t := fun e => by rw [e, ht3] at np; cases np
    replace k3 := but_sm k3 s7
    replace na3 := na3.same s7
    replace hhl3 := s7 _ _ hhl3
    replace hll3 := s7 _ _ hll3
    replace la3 := la3.same s7
    replace ht3 := s7 _ _ ht3
    replace oro3 := s7 _ _ oro3
    clear np ndx nep s7 hx3
    walk_at "wt"
    have eF : putF "field_of" (V.ref fo) ([("rank_of", V.ref ro)] : List (Str × V)) = ([("rank_of", V.ref ro), ("field_of", V.ref fo)] : List (Str × V)) := rfl
    rw [eF]
    have r8 : But t H7 (upd H7 t (.ins A.Task dx ([("rank_of", V.ref ro), ("field_of", V.ref fo)] : List (Str × V)))) := But.of
    have ht8 : upd H7 t (.ins A.Task dx ([("rank_of", V.ref ro), ("field_of", V.ref fo)] : List (Str × V))) t = some (.ins A.Task dx ([("rank_of", V.ref ro), ("field_of", V.ref fo)] : List (Str × V))) := upd_same
    generalize upd H7 t (.ins A.Task dx ([("rank_of", V.ref ro), ("field_of", V.ref fo)] : List (Str × V))) = H8 at r8 ht8 ⊢
    have na8 := na3.off ht3 hx0 r8
    have k8 := but_tr k3 r8
    have hhl8 := r8 _ _ hhl3 nhl
    have hll8 := r8 _ _ hll3 nll
    have la8 : LotsAt K H8 as d.ls := la3.but ht3 (fun _ e => by cases e) (fun _ _ e => by cases e) r8
    have fa8 := fa.off nft r8
    have oro8 := r8 _ _ oro3 nrt
    obtain ⟨dx8, hx8⟩ := id na8.obj
    clear r8 na3 k3 hhl3 hll3 la3 fa oro3 ht3
    with_reducible refine U.i_seq ?_
    walk_at "wt"
    refine ⟨x, nd, rd, d.ns, qs, d.rs, rfl, na8, fun wo wnd wrd H9 fwo fwnd fwrd s9 naw => ?_⟩
    have nwt : wo ≠ t := fun e => by rw [e, ht8] at fwo; cases fwo
    have gwnd : H wnd = none := but_free k8 (fun e => by rw [e, ht8] at fwnd; cases fwnd) fwnd
    have gwrd : H wrd = none := but_free k8 (fun e => by rw [e, ht8] at fwrd; cases fwrd) fwrd
    have k9 := but_sm k8 s9
    have hhl9 := s9 _ _ hhl8
    have hll9 := s9 _ _ hll8
    have la9 := la8.same s9
    have fa9 := fa8.same s9
    have oro9 := s9 _ _ oro8
    have ht9 := s9 _ _ ht8
    clear na8 k8 hhl8 hll8 la8 fa8 oro8 ht8 fwo fwnd fwrd s9 hx8
    walk_at "wt"
    have eF : putF "web" (V.ref wo) ([("rank_of", V.ref ro), ("field_of", V.ref fo)] : List (Str × V)) = ([("rank_of", V.ref ro), ("field_of", V.ref fo), ("web", V.ref wo)] : List (Str × V)) := rfl
    rw [eF]
    have r : But t H9 (upd H9 t (.ins A.Task dx ([("rank_of", V.ref ro), ("field_of", V.ref fo), ("web", V.ref wo)] : List (Str × V)))) := But.of
    have htn : upd H9 t (.ins A.Task dx ([("rank_of", V.ref ro), ("field_of", V.ref fo), ("web", V.ref wo)] : List (Str × V))) t = some (.ins A.Task dx ([("rank_of", V.ref ro), ("field_of", V.ref fo), ("web", V.ref wo)] : List (Str × V))) := upd_same
    generalize upd H9 t (.ins A.Task dx ([("rank_of", V.ref ro), ("field_of", V.ref fo), ("web", V.ref wo)] : List (Str × V))) = H10 at r htn ⊢
    have hto := ht9
    replace k9 := but_tr k9 r
    replace hhl9 := r _ _ hhl9 nhl
    replace hll9 := r _ _ hll9 nll
    replace la9 : LotsAt K H10 as d.ls := la9.but hto (fun _ e => by cases e) (fun _ _ e => by cases e) r
    replace fa9 := fa9.off nft r
    replace oro9 := r _ _ oro9 nrt
    replace naw := naw.off hto nwt r
    replace ht9 := htn
    clear hto r htn
    with_reducible refine U.i_seq ?_
    walk_at "wt"
    have eF : putF "start" (V.str d.s) ([("rank_of", V.ref ro), ("field_of", V.ref fo), ("web", V.ref wo)] : List (Str × V)) = ([("rank_of", V.ref ro), ("field_of", V.ref fo), ("web", V.ref wo), ("start", V.str d.s)] : List (Str × V)) := rfl
    rw [eF]
    have r : But t H10 (upd H10 t (.ins A.Task dx ([("rank_of", V.ref ro), ("field_of", V.ref fo), ("web", V.ref wo), ("start", V.str d.s)] : List (Str × V)))) := But.of
    have htn : upd H10 t (.ins A.Task dx ([("rank_of", V.ref ro), ("field_of", V.ref fo), ("web", V.ref wo), ("start", V.str d.s)] : List (Str × V))) t = some (.ins A.Task dx ([("rank_of", V.ref ro), ("field_of", V.ref fo), ("web", V.ref wo), ("start", V.str d.s)] : List (Str × V))) := upd_same
    generalize upd H10 t (.ins A.Task dx ([("rank_of", V.ref ro), ("field_of", V.ref fo), ("web", V.ref wo), ("start", V.str d.s)] : List (Str × V))) = H11 at r htn ⊢
    have hto := ht9
    replace k9 := but_tr k9 r
    replace hhl9 := r _ _ hhl9 nhl
    replace hll9 := r _ _ hll9 nll
    replace la9 : LotsAt K H11 as d.ls := la9.but hto (fun _ e => by cases e) (fun _ _ e => by cases e) r
    replace fa9 := fa9.off nft r
    replace oro9 := r _ _ oro9 nrt
    replace naw := naw.off hto nwt r
    replace ht9 := htn
    clear hto r htn
    with_reducible refine U.i_seq ?_
    walk_at "wt"
    rename_i eo heo H12 s12 oeo
    have net9 : eo ≠ t := fun e => by rw [e, ht9] at heo; cases heo
    have geo : H eo = none := but_free k9 net9 heo
    replace k9 := but_sm k9 s12
    replace hll9 := s12 _ _ hll9
    replace la9 := la9.same s12
    replace fa9 := fa9.same s12
    replace oro9 := s12 _ _ oro9
    replace naw := naw.same s12
    replace ht9 := s12 _ _ ht9
    clear hhl9 s12 heo
    have eF : putF "ears" (V.ref eo) ([("rank_of", V.ref ro), ("field_of", V.ref fo), ("web", V.ref wo), ("start", V.str d.s)] : List (Str × V)) = ([("rank_of", V.ref ro), ("field_of", V.ref fo), ("web", V.ref wo), ("start", V.str d.s), ("ears", V.ref eo)] : List (Str × V)) := rfl
    rw [eF]
    have r : But t H12 (upd H12 t (.ins A.Task dx ([("rank_of", V.ref ro), ("field_of", V.ref fo), ("web", V.ref wo), ("start", V.str d.s), ("ears", V.ref eo)] : List (Str × V)))) := But.of
    have htn : upd H12 t (.ins A.Task dx ([("rank_of", V.ref ro), ("field_of", V.ref fo), ("web", V.ref wo), ("start", V.str d.s), ("ears", V.ref eo)] : List (Str × V))) t = some (.ins A.Task dx ([("rank_of", V.ref ro), ("field_of", V.ref fo), ("web", V.ref wo), ("start", V.str d.s), ("ears", V.ref eo)] : List (Str × V))) := upd_same
    generalize upd H12 t (.ins A.Task dx ([("rank_of", V.ref ro), ("field_of", V.ref fo), ("web", V.ref wo), ("start", V.str d.s), ("ears", V.ref eo)] : List (Str × V))) = H13 at r htn ⊢
    have hto := ht9
    replace k9 := but_tr k9 r
    replace hll9 := r _ _ hll9 nll
    replace la9 : LotsAt K H13 as d.ls := la9.but hto (fun _ e => by cases e) (fun _ _ e => by cases e) r
    replace fa9 := fa9.off nft r
    replace oro9 := r _ _ oro9 nrt
    replace naw := naw.off hto nwt r
    replace oeo := r _ _ oeo net9
    replace ht9 := htn
    clear hto r htn
    with_reducible refine U.i_seq ?_
    walk_at "wt"
    have eF : putF "many" (V.int d.mn) ([("rank_of", V.ref ro), ("field_of", V.ref fo), ("web", V.ref wo), ("start", V.str d.s), ("ears", V.ref eo)] : List (Str × V)) = ([("rank_of", V.ref ro), ("field_of", V.ref fo), ("web", V.ref wo), ("start", V.str d.s), ("ears", V.ref eo), ("many", V.int d.mn)] : List (Str × V)) := rfl
    rw [eF]
    have r : But t H13 (upd H13 t (.ins A.Task dx ([("rank_of", V.ref ro), ("field_of", V.ref fo), ("web", V.ref wo), ("start", V.str d.s), ("ears", V.ref eo), ("many", V.int d.mn)] : List (Str × V)))) := But.of
    have htn : upd H13 t (.ins A.Task dx ([("rank_of", V.ref ro), ("field_of", V.ref fo), ("web", V.ref wo), ("start", V.str d.s), ("ears", V.ref eo), ("many", V.int d.mn)] : List (Str × V))) t = some (.ins A.Task dx ([("rank_of", V.ref ro), ("field_of", V.ref fo), ("web", V.ref wo), ("start", V.str d.s), ("ears", V.ref eo), ("many", V.int d.mn)] : List (Str × V))) := upd_same
    generalize upd H13 t (.ins A.Task dx ([("rank_of", V.ref ro), ("field_of", V.ref fo), ("web", V.ref wo), ("start", V.str d.s), ("ears", V.ref eo), ("many", V.int d.mn)] : List (Str × V))) = H14 at r htn ⊢
    have hto := ht9
    replace k9 := but_tr k9 r
    replace hll9 := r _ _ hll9 nll
    replace la9 : LotsAt K H14 as d.ls := la9.but hto (fun _ e => by cases e) (fun _ _ e => by cases e) r
    replace fa9 := fa9.off nft r
    replace oro9 := r _ _ oro9 nrt
    replace naw := naw.off hto nwt r
    replace oeo := r _ _ oeo net9
    replace ht9 := htn
    clear hto r htn
    walk_at "wt"
    intro D hD
    have nDt : D ≠ t := fun e => by rw [e, ht9] at hD; cases hD
    refine lc_it walk_list (fun j H' => Same H14 H' ∧ H' D = some (.lst ((as.take j).map V.ref))) ⟨same_new hD, upd_same⟩ (fun j H' _ h => SqL.of (h.1 _ _ hll9)) ?_ ?_
    · rintro j v H15 H16 hj ⟨s15, oD⟩ ⟨rfl, hy⟩
      rw [List.getElem?_map] at hy
      obtain ⟨a, ea, rfl⟩ := Option.map_eq_some_iff.mp hy
      obtain ⟨l, el, sq⟩ := la9.get j a ea
      walk_at "wt"
      refine ⟨rfl, ?_⟩
      walk_at "wt"
      refine ⟨a, _, rfl, U.Same.sqT s15 sq, ?_⟩
      refine ⟨_, oD, small1000 (by rw [List.length_map, List.length_take]; omega), same_own s15 hD, ?_⟩
      rw [U.take_succ_of ea, List.map_append]
      exact upd_same
    rintro H15 ⟨s15, oD⟩
    rw [List.length_map, List.take_length] at oD
    have gD : H D = none := but_free k9 nDt hD
    replace k9 := but_sm k9 s15
    replace la9 := la9.same s15
    replace fa9 := fa9.same s15
    replace oro9 := s15 _ _ oro9
    replace naw := naw.same s15
    replace ht9 := s15 _ _ ht9
    replace oeo := s15 _ _ oeo
    clear hll9 s15 hD
    walk_at "wt"
    have eF : putF "gone" (V.ref D) ([("rank_of", V.ref ro), ("field_of", V.ref fo), ("web", V.ref wo), ("start", V.str d.s), ("ears", V.ref eo), ("many", V.int d.mn)] : List (Str × V)) = ([("rank_of", V.ref ro), ("field_of", V.ref fo), ("web", V.ref wo), ("start", V.str d.s), ("ears", V.ref eo), ("many", V.int d.mn), ("gone", V.ref D)] : List (Str × V)) := rfl
    rw [eF]
    have r : But t H15 (upd H15 t (.ins A.Task dx ([("rank_of", V.ref ro), ("field_of", V.ref fo), ("web", V.ref wo), ("start", V.str d.s), ("ears", V.ref eo), ("many", V.int d.mn), ("gone", V.ref D)] : List (Str × V)))) := But.of
    have htn : upd H15 t (.ins A.Task dx ([("rank_of", V.ref ro), ("field_of", V.ref fo), ("web", V.ref wo), ("start", V.str d.s), ("ears", V.ref eo), ("many", V.int d.mn), ("gone", V.ref D)] : List (Str × V))) t = some (.ins A.Task dx ([("rank_of", V.ref ro), ("field_of", V.ref fo), ("web", V.ref wo), ("start", V.str d.s), ("ears", V.ref eo), ("many", V.int d.mn), ("gone", V.ref D)] : List (Str × V))) := upd_same
    generalize upd H15 t (.ins A.Task dx ([("rank_of", V.ref ro), ("field_of", V.ref fo), ("web", V.ref wo), ("start", V.str d.s), ("ears", V.ref eo), ("many", V.int d.mn), ("gone", V.ref D)] : List (Str × V))) = H17 at r htn ⊢
    have hto := ht9
    replace k9 := but_tr k9 r
    replace la9 : LotsAt K H17 as d.ls := la9.but hto (fun _ e => by cases e) (fun _ _ e => by cases e) r
    replace fa9 := fa9.off nft r
    replace oro9 := r _ _ oro9 nrt
    replace naw := naw.off hto nwt r
    replace oeo := r _ _ oeo net9
    replace oD := r _ _ oD nDt
    replace ht9 := htn
    clear hto r htn
    exact kq ro fo wo wnd wrd eo D hs _ as H17 hro gwnd gwrd geo gD k9 ⟨⟨dx, ht9⟩, oro9, ⟨pm, so⟩, fa9, naw, oeo, oD, la9⟩

end
end Lw
end

section
set_option Elab.async false
set_option linter.all false
set_option maxRecDepth 100000
set_option maxHeartbeats 4000000
/-! ### own steps (local) -/
local macro_rules | `(tactic| walk_at "hp") => `(tactic| first
  | assumption
  | exact L2.upd_same
  | ((with_reducible refine U.upd_new ?_ ?_); (focus (first | assumption | done)); walk_at "hp")
  | ((with_reducible refine U.upd_ne'' ?_ ?_); (focus (first | assumption | (apply Ne.symm; assumption))); walk_at "hp")
  | ((with_reducible refine' U.Same.get ?hx ?hy); (case hx => assumption); (case hy => walk_at "hp"))
  | ((with_reducible refine' U.ExtN.lst ?hx ?hy); (case hx => assumption); (case hy => walk_at "hp"))
  | ((with_reducible refine' U.ExtN.tup ?hx ?hy); (case hx => assumption); (case hy => walk_at "hp"))
  | ((with_reducible refine' U.ExtN.ins ?hx ?hy); (case hx => assumption); (case hy => walk_at "hp"))
  | fail "hp")
local macro_rules | `(tactic| walk_at "lay") => `(tactic| (intro p hn; generalize hg : L2.upd _ p _ = H'; have hs := U.same_of hg hn; have ho := U.at_of hg; clear hg))
local macro_rules | `(tactic| walk_at "sz") => `(tactic| first | decide | (show _ ≤ PySem.sizeLine; rw [PySem.sizeLine_eq]; (try simp only [List.length_cons, List.length_nil, List.length_map]); omega))
local macro_rules | `(tactic| walk_at "ref'") => `(tactic| skip)
local macro_rules | `(tactic| walk_at "rd1") => `(tactic| first
  | (with_reducible refine' U.i_seq ?_)
  | (with_reducible refine' U.i_asg ?_)
  | (with_reducible refine' U.i_ret ?_)
  | (with_reducible refine' U.i_ifS ?_)
  | (with_reducible refine' U.i_drop ?_)
  | ((with_reducible refine' U.i_var ?hx ?_); (case hx => rfl))
  | (with_reducible refine' U.i_c ?_)
  | (with_reducible refine' U.i_op ?_)
  | (with_reducible refine' U.i_un ?_)
  | (with_reducible refine' U.i_name ?_)
  | (with_reducible refine' U.i_gsub ?_)
  | (with_reducible refine' U.i_test ?_)
  | (with_reducible refine' U.i_tB ?_)
  | (with_reducible refine' U.i_bl ?_)
  | (with_reducible refine' U.i_not ?_)
  | (with_reducible refine' U.i_nil ?_)
  | (with_reducible refine' U.i_cons ?_)
  | (with_reducible refine' U.i_cb ?_)
  | (with_reducible refine' U.i_call ?_)
  | (with_reducible refine' U.i_fld ?_)
  | ((with_reducible refine' U.i_fld' ?hx ?hy ?hz ?hw ?_); (case hx => walk_at "hp"); (case hy => assumption); (case hz => assumption); (case hw => rfl))
  | (with_reducible refine' U.i_meth ?_)
  | ((with_reducible refine' U.i_meth' ?hx ?hy ?_); (case hx => walk_at "hp"); (case hy => rfl))
  | (with_reducible refine' U.i_add ?_)
  | (with_reducible refine' U.i_sub ?_)
  | ((with_reducible refine' U.i_mul ?hx ?_); (case hx => (first | (left; constructor <;> omega) | (right; constructor <;> omega))))
  | ((with_reducible refine' U.i_mod ?hx ?_); (case hx => omega))
  | ((with_reducible refine' U.i_fdiv ?hx ?_); (case hx => (constructor <;> omega)))
  | ((with_reducible refine' U.i_pow ?hx ?_); (case hx => (refine ⟨?_, ?_, ?_⟩ <;> decide)))
  | (with_reducible refine' U.i_lt ?_)
  | (with_reducible refine' U.i_le ?_)
  | (with_reducible refine' U.i_gt ?_)
  | (with_reducible refine' U.i_ge ?_)
  | (with_reducible refine' U.i_eqI ?_)
  | (with_reducible refine' U.i_neI ?_)
  | (with_reducible refine' U.i_rU ?_)
  | (with_reducible refine' U.i_abs ?_)
  | (with_reducible refine' U.i_callN ?_)
  | ((with_reducible refine' U.i_lens ?hx ?hy ?_); (case hx => rfl); (case hy => rfl))
  | ((with_reducible refine' U.i_ixL ?hx ?hy ?_); (case hx => exact L2.SqL.of (by walk_at "hp")); (case hy => rfl))
  | ((with_reducible refine' U.i_lenL ?hx ?_); (case hx => exact L2.SqL.of (by walk_at "hp")))
  | ((with_reducible refine' U.i_setL ?hx ?hy ?_); (case hx => walk_at "hp"); (case hy => rfl))
  | (with_reducible refine' U.i_augS ?_)
  | ((with_reducible refine' U.i_aug ?hx ?_); (case hx => rfl))
  | (with_reducible refine' U.i_ipI ?_)
  | ((with_reducible refine' U.i_ipMul ?hx ?_); (case hx => (first | (left; constructor <;> omega) | (right; constructor <;> omega))))
  | ((with_reducible refine' U.i_gtup ?hx ?hy ?_); (case hx => exact L2.SqT.of (by walk_at "hp")); (case hy => rfl))
  | (with_reducible refine' U.i_gcons ?_)
  | (with_reducible refine' U.i_gnil ?_)
  | ((with_reducible refine' U.i_divmod ?hx ?_); (case hx => (constructor <;> omega)); walk_at "lay")
  | (with_reducible refine' U.i_tup ?_)
  | (with_reducible refine' U.i_lst ?_)
  | ((with_reducible refine' U.lay_and ?hx ?_); (case hx => walk_at "sz"); walk_at "lay")
  | (with_reducible refine' U.i_sl ?_)
  | (with_reducible refine' U.i_part ?_)
  | (with_reducible refine' U.i_part' ?_)
  | (with_reducible refine' U.i_nopart ?_)
  | ((with_reducible refine' U.i_slL ?hx ?_); (case hx => exact L2.SqL.of (by walk_at "hp")); walk_at "lay")
  | (with_reducible refine' U.i_bm ?_)
  | ((with_reducible refine' U.i_bm' ?hx ?_); (case hx => walk_at "hp"))
  | ((with_reducible refine' U.i_append ?hx ?hy ?_); (case hx => walk_at "hp"); (case hy => walk_at "szl"))
  | ((with_reducible refine' U.i_chLL ?hx ?hy ?_); (case hx => rfl); (case hy => rfl))
  | (with_reducible refine' U.i_chain ?_)
  | (with_reducible refine' U.i_rng1 ?_)
  | ((with_reducible refine' U.i_rng1' ?hx ?hy ?_); (case hx => omega); (case hy => omega))
  | (with_reducible refine' U.i_rng2 ?_)
  | ((with_reducible refine' U.i_rng2' ?hx ?_); (case hx => (refine ⟨?_, ?_, ?_, ?_⟩ <;> omega)))
  | (with_reducible refine' U.i_rng3 ?_)
  | (with_reducible refine' U.i_enum ?_)
  | ((with_reducible refine' U.i_enum' ?hx ?_); (case hx => exact L2.SqL.of (by walk_at "hp")))
  | (with_reducible refine' U.i_enumT ?_)
  | ((with_reducible refine' U.i_enumT' ?hx ?_); (case hx => exact L2.SqT.of (by walk_at "hp")))
  | (with_reducible refine' U.i_rev ?_)
  | ((with_reducible refine' U.i_rev' ?hx ?_); (case hx => exact L2.SqL.of (by walk_at "hp")))
  | (with_reducible refine' U.i_plist ?_)
  | ((with_reducible refine' U.i_plist' ?hx ?_); (case hx => exact L2.SqL.of (by walk_at "hp")))
  | (with_reducible refine' U.i_for ?_)
  | (with_reducible refine' U.i_sfld ?_)
  | ((with_reducible refine' U.i_sfld' ?hx ?hy ?hz ?hw ?_); (case hx => walk_at "hp"); (case hy => assumption); (case hz => assumption); (case hw => exact Nat.le_of_ble_eq_true rfl))
  | (with_reducible refine' U.i_lc ?_)
  | (with_reducible refine' U.i_par3 ?_)
  | (with_reducible refine' U.i_par3' ?_)
  | (with_reducible refine' U.i_par ?_)
  | (with_reducible refine' U.i_par' ?_)
  | (with_reducible refine' U.i_lrg ?_)
  | (with_reducible refine' U.i_rg1 ?_)
  | (with_reducible refine' U.i_rg1' ?_)
  | (with_reducible refine' U.i_pl ?_)
  | ((with_reducible refine' U.i_pl' ?hx ?hy ?_); (case hx => walk_at "hp"); (case hy => exact Nat.le_of_ble_eq_true rfl))
  | (with_reducible refine' U.i_rAdd ?_)
  | ((with_reducible refine' U.i_listOf ?hx ?_); (case hx => exact L2.SqL.of (by walk_at "hp")); walk_at "lay")
  | (with_reducible refine' U.i_intB ?_)
  | (with_reducible refine' U.i_wget ?_)
  | ((with_reducible refine' U.i_tupleOf ?hx ?_); (case hx => walk_at "hp"); walk_at "lay")
  | ((with_reducible refine' U.i_repA ?hx ?hn ?h0 ?h1 ?h2 ?_); (case hx => walk_at "hp"); (case hn => simp); (case h0 => omega); (case h1 => omega); (case h2 => simp); intro p H' hs ho)
  | ((with_reducible refine' U.i_catA ?hx ?hy ?hz ?_); (case hx => walk_at "hp"); (case hy => walk_at "hp"); (case hz => walk_at "sz"); intro p H' hs ho)
  | ((with_reducible refine' U.i_slA ?hx ?_); (case hx => walk_at "hp"); intro p H' hs ho)
  | (with_reducible refine' U.i_zipS ?_)
  | ((with_reducible refine' U.i_zipTT ?hx ?hy ?_); (case hx => exact L2.SqT.of (by walk_at "hp")); (case hy => exact L2.SqT.of (by walk_at "hp")))
  | ((with_reducible refine' U.i_zipLL ?hx ?hy ?_); (case hx => exact L2.SqL.of (by walk_at "hp")); (case hy => exact L2.SqL.of (by walk_at "hp")))
  | (with_reducible refine' U.i_ptup ?_)
  | ((with_reducible refine' U.i_ptup' ?hx ?_); (case hx => exact L2.SqT.of (by walk_at "hp")))
  | ((with_reducible refine' U.i_lenT ?hx ?_); (case hx => exact L2.SqT.of (by walk_at "hp")))
  | (with_reducible refine' U.i_yes ?_)
  | (with_reducible refine' L2.iteT ?_)
  | (with_reducible refine' U.i_next ?_)
  | fail "rd1")
local macro_rules | `(tactic| walk_at "szl") => `(tactic| first | decide | (refine L2.small1000 ?_; (try simp only [List.length_cons, List.length_nil, List.length_map]); omega))
local macro_rules | `(tactic| walk_at "rd") => `(tactic| (repeat walk_at "rd1"))
local macro_rules | `(tactic| walk_at "ro") => `(tactic| (refine' U.i_or ?_; walk_at "rd"))
local macro_rules | `(tactic| walk_at "ra") => `(tactic| (refine' U.i_pt ?_; walk_at "rd"))
local macro_rules | `(tactic| walk_at "gd") => `(tactic| (repeat (first | walk_at "rd1" | (with_reducible refine' U.i_andV ?_))))

namespace Lw
open PySem L2 U LamX
local macro_rules | `(tactic| walk_at "fa") => `(tactic| first
  | assumption
  | ((with_reducible refine' Lw.FA.same ?hx ?hy); (case hy => assumption); (case hx => walk_at "fa"))
  | fail "fa")
local macro_rules | `(tactic| walk_at "bg") => `(tactic| first
  | assumption
  | ((with_reducible refine' Lw.Bag.same ?hx ?hy); (case hy => assumption); (case hx => walk_at "bg"))
  | fail "bg")
local macro_rules | `(tactic| walk_at "op2") => `(tactic| (refine' Lw.spOp.go ?fa ?ra ?rb ?q; (case fa => walk_at "fa"); (case ra => constructor <;> omega); (case rb => constructor <;> omega); intro H' s'; walk_at "rd"))

local macro_rules | `(tactic| walk_at "ty") => `(tactic| first | exact .base (.int _) | exact .base (.str _) | exact .base (.bl _) | exact .base .non | exact .base (.lst (by walk_at "hp")) | exact .base (.tup (by walk_at "hp")))
local macro_rules | `(tactic| walk_at "al") => `(tactic| (repeat (first
  | walk_at "rd1"
  | (with_reducible refine' U.i_andV ?_)
  | (with_reducible refine' U.i_notV ?_)
  | (with_reducible refine' U.i_truth ?_)
  | (with_reducible refine' U.i_or ?_)
  | (with_reducible refine' U.i_pt ?_)
  | ((with_reducible refine' U.i_isNT ?hx ?_); (case hx => rfl))
  | ((with_reducible refine' U.i_isNF ?hx ?_); (case hx => (intro z; cases z)))
  | ((with_reducible refine' U.i_isiT ?hx ?hy ?_); (case hx => walk_at "ty"); (case hy => decide +kernel))
  | ((with_reducible refine' U.i_isiF ?hx ?hy ?_); (case hx => walk_at "ty"); (case hy => decide +kernel))
  | (with_reducible refine' U.i_neBB ?_)
  | (with_reducible refine' U.i_eqBB ?_)
  | (with_reducible refine' U.i_eqSS ?_)
  | ((with_reducible refine' U.i_lenL ?hx ?_); (case hx => exact L2.SqL.of (by walk_at "hp")))
  | ((with_reducible refine' U.i_lenT ?hx ?_); (case hx => exact L2.SqT.of (by walk_at "hp")))
  | (with_reducible refine' U.iteT' ?_)
  | (with_reducible refine' U.iteF' ?_)
  | fail "al")))

local macro_rules | `(tactic| walk_at "gq") => `(tactic| (repeat (first | ((fail_if_success (with_reducible refine' U.i_seq ?_)); (first | walk_at "rd1" | (with_reducible refine' U.i_andV ?_))) | fail "gq")))
local macro_rules | `(tactic| walk_at "rq") => `(tactic| (repeat (first | ((fail_if_success (with_reducible refine' U.i_seq ?_)); walk_at "rd1") | fail "rq")))
local macro_rules | `(tactic| walk_at "nt") => `(tactic| (repeat (first
  | walk_at "rd1"
  | (with_reducible refine' U.i_dni ?_)
  | (with_reducible refine' U.i_din ?_)
  | (with_reducible refine' U.i_dgt ?_)
  | (with_reducible refine' U.i_dpt ?_)
  | (with_reducible refine' U.i_dnew ?_)
  | ((with_reducible refine' U.i_dniN ?hx ?_); (case hx => walk_at "hp"))
  | ((with_reducible refine' U.i_dinN ?hx ?_); (case hx => walk_at "hp"))
  | ((with_reducible refine' U.i_dniR ?hx ?_); (case hx => walk_at "hp"))
  | ((with_reducible refine' U.i_dinR ?hx ?_); (case hx => walk_at "hp"))
  | (with_reducible refine' U.i_or ?_)
  | (with_reducible refine' U.i_pt ?_)
  | fail "nt")))
local macro_rules | `(tactic| walk_at "wt") => `(tactic| (repeat (first
  | ((fail_if_success (with_reducible refine' U.i_seq ?_)); walk_at "rd1")
  | (with_reducible refine' U.i_dni ?_)
  | (with_reducible refine' U.i_din ?_)
  | (with_reducible refine' U.i_dgt ?_)
  | (with_reducible refine' U.i_dpt ?_)
  | (with_reducible refine' U.i_dnew ?_)
  | ((with_reducible refine' U.i_dniU ?hx ?_); (case hx => walk_at "hp"))
  | ((with_reducible refine' U.i_dinU ?hx ?_); (case hx => walk_at "hp"))
  | ((with_reducible refine' U.i_dniS ?hx ?_); (case hx => walk_at "hp"))
  | ((with_reducible refine' U.i_dinS ?hx ?_); (case hx => walk_at "hp"))
  | (with_reducible refine' U.i_pt ?_)
  | fail "wt")))

/-- how many mixers a line has -/
def mixN (d : TaskD) (r : Road) : Int := if r.2.1 = d.s then d.mn else ((d.rs.filter fun q => decide (q.2.2.1 = r.2.1)).length : Nat)
def spTNet (K : PySem.W.Frag) (A : Ad) : Sp := fun vs H Q _ => ∃ (t : Addr) (d : TaskD), vs = [.ref t] ∧ TaskS K A H t d ∧ ∀ (x : Addr) (H' : Hp), Same H H' → NetS A H' x d.ns d.rs → Q (.ref x) H'
def spTField (K : PySem.W.Frag) (A : Ad) : Sp := fun vs H Q _ => ∃ (t : Addr) (d : TaskD), vs = [.ref t] ∧ TaskS K A H t d ∧ ∀ fo, FA A H fo d.n → Q (.ref fo) H
def spTFed (K : PySem.W.Frag) (A : Ad) : Sp := fun vs H Q _ => ∃ (t : Addr) (d : TaskD) (r : Road), vs = [.ref t, .int r.1] ∧ TaskS K A H t d ∧ r ∈ d.rs ∧ r.2.1 ∈ d.ns ∧ (r.2.1 = d.s → ∀ H', Same H H' → Q .non H') ∧ (r.2.1 ≠ d.s → ∀ (p : Addr) (ls : List Road) (H' : Hp), H p = none → Same H H' → ls.Perm d.rs → (ls.Pairwise fun a b => a.1 ≤ b.1) → H' p = some (.lst (((ls.filter fun q => decide (q.2.2.1 = r.2.1)).map (·.1)).map V.int)) → Q (.ref p) H')
def spTInputs (K : PySem.W.Frag) (A : Ad) : Sp := fun vs H Q _ => ∃ (t : Addr) (d : TaskD) (r : Road), vs = [.ref t, .int r.1] ∧ TaskS K A H t d ∧ r ∈ d.rs ∧ r.2.1 ∈ d.ns ∧ ∀ H', Same H H' → Q (.int (mixN d r)) H'
def WidthsAt (H : Hp) (as : List Addr) (d : TaskD) (ls : List Road) : Prop := U.All2 (fun a r => H a = some (.tup [.int r.1, .int (mixN d r)])) as ls
def spWidths (K : PySem.W.Frag) (A : Ad) : Sp := fun vs H Q _ => ∃ (t : Addr) (d : TaskD), vs = [.ref t] ∧ TaskS K A H t d ∧ (∀ r ∈ d.rs, r.2.1 ∈ d.ns) ∧ ∀ (p : Addr) (as : List Addr) (ls : List Road) (H' : Hp), H p = none → Same H H' → ls.Perm d.rs → (ls.Pairwise fun a b => a.1 ≤ b.1) → H' p = some (.lst (as.map V.ref)) → WidthsAt H' as d ls → Q (.ref p) H'
/-- how many plans there are -/
def triesN (d : TaskD) : Int := d.n ^ ((d.rs.map (mixN d)).sum).toNat
def copyN (d : TaskD) : Int := ((d.rs.map fun r => mixN d r + 1).foldl (· * ·) 1)
theorem mixN_nn {d : TaskD} (h : 0 ≤ d.mn) (r : Road) : 0 ≤ mixN d r := by
  unfold mixN
  split
  · exact h
  · exact Int.natCast_nonneg _
theorem mixN_le {d : TaskD} (h : d.mn ≤ 30) (f : d.rs.length ≤ 30) (r : Road) : mixN d r ≤ 30 := by
  unfold mixN
  split
  · exact h
  · have := List.length_filter_le (fun q : Road => decide (q.2.2.1 = r.2.1)) d.rs
    omega
theorem sum_bd : ∀ (l : List Int), (∀ x ∈ l, 0 ≤ x ∧ x ≤ 30) → 0 ≤ l.sum ∧ l.sum ≤ 30 * l.length
  | [], _ => ⟨by simp, by simp⟩
  | x :: l, h => by
    obtain ⟨a, b⟩ := sum_bd l fun y m => h y (List.mem_cons_of_mem _ m)
    obtain ⟨c, e⟩ := h x List.mem_cons_self
    rw [List.sum_cons, List.length_cons]
    constructor
    · omega
    · push_cast
      omega
theorem sum_perm {l m : List Int} (p : l.Perm m) : l.sum = m.sum := by
  induction p with
  | nil => rfl
  | cons x _ ih => rw [List.sum_cons, List.sum_cons, ih]
  | swap x y l => rw [List.sum_cons, List.sum_cons, List.sum_cons, List.sum_cons]; omega
  | trans _ _ a b => exact a.trans b
theorem foldl_mul : ∀ (l : List Int) (a : Int), l.foldl (· * ·) a = a * l.foldl (· * ·) 1
  | [], a => by simp
  | x :: l, a => by
    rw [List.foldl_cons, List.foldl_cons, foldl_mul l (a * x), foldl_mul l (1 * x), Int.one_mul, Int.mul_assoc]
theorem foldl_perm {l m : List Int} (p : l.Perm m) : l.foldl (· * ·) 1 = m.foldl (· * ·) (1 : Int) := by
  induction p with
  | nil => rfl
  | cons x _ ih => rw [List.foldl_cons, List.foldl_cons, foldl_mul, ih, ← foldl_mul]
  | swap x y l => rw [List.foldl_cons, List.foldl_cons, List.foldl_cons, List.foldl_cons, Int.one_mul, Int.one_mul, Int.mul_comm]
  | trans _ _ a b => exact a.trans b
def spTries (K : PySem.W.Frag) (A : Ad) (f : TaskD → Int) : Sp := fun vs H Q _ => ∃ (t : Addr) (d : TaskD), vs = [.ref t] ∧ TaskS K A H t d ∧ (∀ r ∈ d.rs, r.2.1 ∈ d.ns) ∧ 1 ≤ d.mn ∧ d.mn ≤ 4 ∧ ∀ H', Same H H' → Q (.int (f d)) H'
section
variable {P : Program} {w : World} {K : PySem.W.Frag} {mg : Str → Option Value} {base : Heap} {A : Ad}
theorem sc_tnet : FnScope ["self"] ["self"] (defScope (inClass (top 73) 3)) := ⟨rfl, rfl, rfl, by decide +kernel, rfl, by decide +kernel, by decide +kernel⟩
theorem ok_tnet (T : Txt P w K mg A) : U.Mt P w K mg base 4 A.Task "net" (spTNet K A) [] := by
  obtain ⟨_, _, _, F_ntwin, c_ntwin, m_ntwin, bd_ntwin⟩ := (ok_ntwin (P := P) (w := w) (base := base) T).ex
  obtain ⟨_, d_ntwin, b_ntwin⟩ := bd_ntwin 0 (by decide)
  refine T.m_Task_net.ok sc_tnet (fun vs H Q E h => ?_) (fun f cdv Ar outer s H vs Q E hr h => ?_)
  · obtain ⟨t, d, rfl, ts, k⟩ := h
    rfl
  · obtain ⟨t, d, rfl, ts, k⟩ := h
    have cN := T.c_Net
    have a1 := T.na_Net_named
    have a2 := T.na_Net_roads
    have cT := T.c_Task
    have t1 := T.na_Task_rank_of
    have t2 := T.na_Task_field_of
    have t3 := T.na_Task_web
    have t4 := T.na_Task_start
    have t5 := T.na_Task_ears
    have t6 := T.na_Task_many
    have t7 := T.na_Task_gone
    refine ⟨_, (pss_one (ps_ret (pe_meth0 (pe_fld (pv 0) rfl) c_ntwin m_ntwin F_ntwin (hr.mono (by decide)) b_ntwin d_ntwin U.passN))), ?_⟩
    obtain ⟨ro, fo, wo, nd, rd, eo, go, hs, qs, as, ta⟩ := ts
    obtain ⟨dx, ht⟩ := id ta.obj
    unfold taskF at ht
    have na := ta.web
    obtain ⟨dn, hw⟩ := id na.obj
    walk_at "wt"
    refine ⟨wo, nd, rd, d.ns, qs, d.rs, rfl, na, fun x2 nd2 rd2 H' _ _ _ s2 na2 => ?_⟩
    exact k x2 H' s2 ⟨nd2, rd2, qs, na2⟩

theorem sc_tfield : FnScope ["self"] ["self"] (defScope (inClass (top 73) 8)) := ⟨rfl, rfl, rfl, by decide +kernel, rfl, by decide +kernel, by decide +kernel⟩
theorem ok_tfield (T : Txt P w K mg A) : U.Mt P w K mg base 1 A.Task "field" (spTField K A) [] := by
  refine T.m_Task_field.ok sc_tfield (fun vs H Q E h => ?_) (fun f cdv Ar outer s H vs Q E hr h => ?_)
  · obtain ⟨t, d, rfl, ts, k⟩ := h
    rfl
  · obtain ⟨t, d, rfl, ts, k⟩ := h
    have cT := T.c_Task
    have t1 := T.na_Task_rank_of
    have t2 := T.na_Task_field_of
    have t3 := T.na_Task_web
    have t4 := T.na_Task_start
    have t5 := T.na_Task_ears
    have t6 := T.na_Task_many
    have t7 := T.na_Task_gone
    refine ⟨_, (pss_one (ps_ret (pe_fld (pv 0) rfl))), ?_⟩
    obtain ⟨ro, fo, wo, nd, rd, eo, go, hs, qs, as, ta⟩ := ts
    obtain ⟨dx, ht⟩ := id ta.obj
    unfold taskF at ht
    walk_at "wt"
    exact k fo ta.fld

theorem sc_tfed : FnScope ["self", "number", "one"] ["self", "number"] (defScope (inClass (top 73) 11)) := ⟨rfl, rfl, rfl, by decide +kernel, rfl, by decide +kernel, by decide +kernel⟩
theorem ok_tfed (T : Txt P w K mg A) : U.Mt P w K mg base 4 A.Task "fed_by" (spTFed K A) [] := by
  obtain ⟨_, _, _, F_nends, c_nends, m_nends, bd_nends⟩ := (ok_nends (P := P) (w := w) (base := base) T).ex
  obtain ⟨_, d_nends, b_nends⟩ := bd_nends 0 (by decide)
  obtain ⟨_, _, _, F_ninto, c_ninto, m_ninto, bd_ninto⟩ := (ok_ninto (P := P) (w := w) (base := base) T).ex
  obtain ⟨_, d_ninto, b_ninto⟩ := bd_ninto 0 (by decide)
  refine T.m_Task_fed_by.ok sc_tfed (fun vs H Q E h => ?_) (fun f cdv Ar outer s H vs Q E hr h => ?_)
  · obtain ⟨t, d, r, rfl, ts, mr, mn, kn, kr⟩ := h
    rfl
  · obtain ⟨t, d, r, rfl, ts, mr, mn, kn, kr⟩ := h
    have cN := T.c_Net
    have a1 := T.na_Net_named
    have a2 := T.na_Net_roads
    have cT := T.c_Task
    have t1 := T.na_Task_rank_of
    have t2 := T.na_Task_field_of
    have t3 := T.na_Task_web
    have t4 := T.na_Task_start
    have t5 := T.na_Task_ears
    have t6 := T.na_Task_many
    have t7 := T.na_Task_gone
    refine ⟨_, (pss_cons (ps_set (i := 2) sc_tfed.nd rfl (Or.inl rfl) (pe_ix ix_tup (pe_meth (pe_fld (pv 0) rfl) c_nends m_nends F_nends (hr.mono (by decide)) b_nends d_nends U.passN (pa_cons (pv 1) pa_nil)) pe_int (fun _ _ => rfl)))
    (pss_one (ps_ret (pe_ifExp (pt_cmpR op_eq (pv 2) (pe_fld (pv 0) rfl) (nomark _)) pe_non (pe_meth (pe_fld (pv 0) rfl) c_ninto m_ninto F_ninto (hr.mono (by decide)) b_ninto d_ninto U.passN (pa_cons (pv 2) pa_nil)))))), ?_⟩
    obtain ⟨ro, fo, wo, nd, rd, eo, go, hs, qs, as, ta⟩ := ts
    obtain ⟨dx, ht⟩ := id ta.obj
    unfold taskF at ht
    have na := ta.web
    obtain ⟨dn, hw⟩ := id na.obj
    walk_at "wt"
    with_reducible refine U.i_seq ?_
    walk_at "wt"
    refine ⟨wo, nd, rd, d.ns, qs, d.rs, r, rfl, na, mr, fun z hz => ?_⟩
    refine U.i_ixT (SqT.of hz) (v := .str r.2.1) (U.atI_of (j := 0) rfl rfl) ?_
    walk_at "wt"
    refine U.i_ifE ?_
    walk_at "wt"
    refine U.i_eqStr ?_
    refine ⟨_, rfl, ?_⟩
    refine U.ited (fun e => ?_) (fun e => ?_)
    · exact kn e H (Same.refl H)
    · walk_at "wt"
      refine ⟨wo, nd, rd, d.ns, qs, d.rs, r.2.1, rfl, na, mn, fun p ls H' hp s pm so op => ?_⟩
      exact kr e p ls H' hp s pm so op

theorem sc_tinputs : FnScope ["self", "number", "fed"] ["self", "number"] (defScope (inClass (top 73) 12)) := ⟨rfl, rfl, rfl, by decide +kernel, rfl, by decide +kernel, by decide +kernel⟩
theorem ok_tinputs (T : Txt P w K mg A) : U.Mt P w K mg base 5 A.Task "inputs" (spTInputs K A) [] := by
  obtain ⟨_, _, _, F_tfed, c_tfed, m_tfed, bd_tfed⟩ := (ok_tfed (P := P) (w := w) (base := base) T).ex
  obtain ⟨_, d_tfed, b_tfed⟩ := bd_tfed 0 (by decide)
  refine T.m_Task_inputs.ok sc_tinputs (fun vs H Q E h => ?_) (fun f cdv Ar outer s H vs Q E hr h => ?_)
  · obtain ⟨t, d, r, rfl, ts, mr, mn, k⟩ := h
    rfl
  · obtain ⟨t, d, r, rfl, ts, mr, mn, k⟩ := h
    have cT := T.c_Task
    have t1 := T.na_Task_rank_of
    have t2 := T.na_Task_field_of
    have t3 := T.na_Task_web
    have t4 := T.na_Task_start
    have t5 := T.na_Task_ears
    have t6 := T.na_Task_many
    have t7 := T.na_Task_gone
    refine ⟨_, (pss_cons (ps_set (i := 2) sc_tinputs.nd rfl (Or.inl rfl) (pe_meth (pv 0) c_tfed m_tfed F_tfed (hr.mono (by decide)) b_tfed d_tfed U.passN (pa_cons (pv 1) pa_nil)))
    (pss_one (ps_ret (pe_ifExp (pt_cmpR op_isN1 (pv 2) pe_non (nomark _)) (pe_fld (pv 0) rfl) (pe_callB U.u_len (by rfl) T.len PySem.boot_len (pa_cons (pv 2) pa_nil)))))), ?_⟩
    have ts0 := ts
    obtain ⟨ro, fo, wo, nd, rd, eo, go, hs, qs, as, ta⟩ := ts
    obtain ⟨dx, ht⟩ := id ta.obj
    unfold taskF at ht
    walk_at "wt"
    with_reducible refine U.i_seq ?_
    walk_at "wt"
    refine ⟨t, d, r, rfl, ts0, mr, mn, fun e H' s => ?_, fun e p ls H' hp s pm so op => ?_⟩
    · have ht2 := s _ _ ht
      walk_at "wt"
      refine U.i_ifE ?_
      walk_at "wt"
      refine U.i_isNT rfl ?_
      refine ⟨true, rfl, U.iteT' ?_⟩
      walk_at "wt"
      have := k H' s
      unfold mixN at this
      rw [if_pos e] at this
      exact this
    · walk_at "wt"
      refine U.i_ifE ?_
      walk_at "wt"
      refine U.i_isNF nofun ?_
      refine ⟨false, rfl, U.iteF' ?_⟩
      walk_at "wt"
      have := k H' s
      unfold mixN at this
      rw [if_neg e] at this
      rw [List.length_map, List.length_map, (pm.filter _).length_eq]
      exact this

theorem sc_widths : FnScope ["task", "number"] ["task"] (defScope (top 49)) := ⟨rfl, rfl, rfl, by decide +kernel, rfl, by decide +kernel, by decide +kernel⟩
theorem ok_widths (T : Txt P w K mg A) : U.Cl P w K mg base 6 "widths" (spWidths K A) [] := by
  obtain ⟨_, _, _, F_tnet, c_tnet, m_tnet, bd_tnet⟩ := (ok_tnet (P := P) (w := w) (base := base) T).ex
  obtain ⟨_, d_tnet, b_tnet⟩ := bd_tnet 0 (by decide)
  obtain ⟨_, _, _, F_nnums, c_nnums, m_nnums, bd_nnums⟩ := (ok_nnums (P := P) (w := w) (base := base) T).ex
  obtain ⟨_, d_nnums, b_nnums⟩ := bd_nnums 0 (by decide)
  obtain ⟨_, _, _, F_tinputs, c_tinputs, m_tinputs, bd_tinputs⟩ := (ok_tinputs (P := P) (w := w) (base := base) T).ex
  obtain ⟨_, d_tinputs, b_tinputs⟩ := bd_tinputs 0 (by decide)
  refine T.d_widths.ok sc_widths (fun vs H Q E h => ?_) (fun f cdv Ar outer s H vs Q E hr h => ?_)
  · obtain ⟨t, d, rfl, ts, mn, k⟩ := h
    rfl
  · obtain ⟨t, d, rfl, ts, mn, k⟩ := h
    have cT := T.c_Task
    have t1 := T.na_Task_rank_of
    have t2 := T.na_Task_field_of
    have t3 := T.na_Task_web
    have t4 := T.na_Task_start
    have t5 := T.na_Task_ears
    have t6 := T.na_Task_many
    have t7 := T.na_Task_gone
    have cN := T.c_Net
    have a1 := T.na_Net_named
    have a2 := T.na_Net_roads
    refine ⟨_, (pss_one (ps_ret (pe_lc (own := [("number", 1)]) (g := (gName 1)) (tt := tYes) (by exact rfl) sc_widths.nd (pi_list (pe_meth0 (pe_meth0 (pv 0) c_tnet m_tnet F_tnet (hr.mono (by decide)) b_tnet d_tnet U.passN) c_nnums m_nnums F_nnums (hr.mono (by decide)) b_nnums d_nnums U.passN)) (blkOk_by (own := [("number", 1)]) (N := ["task", "number"]) (sc := defScope (top 49)) (by decide +kernel)) (fun _ _ _ _ _ => (pg_name (i := 1) sc_widths.nd rfl (Or.inl rfl))) (fun _ _ _ _ _ => pts_nil) (fun _ _ _ _ _ => (pe_tup (pa_cons (pv 1) (pa_cons (pe_meth (pv 0) c_tinputs m_tinputs F_tinputs (hr.mono (by decide)) b_tinputs d_tinputs U.passN (pa_cons (pv 1) pa_nil)) pa_nil))))))), ?_⟩
    have ts0 := ts
    obtain ⟨ro, fo, wo, nd, rd, eo, go, hs, qs, as0, ta⟩ := ts
    obtain ⟨dx, ht⟩ := id ta.obj
    unfold taskF at ht
    walk_at "wt"
    refine ⟨t, d, rfl, ts0, fun x H1 s1 net => ?_⟩
    obtain ⟨nd1, rd1, qs1, na⟩ := net
    obtain ⟨dn, hx⟩ := id na.obj
    have few := na.few
    walk_at "wt"
    refine ⟨x, nd1, rd1, d.ns, qs1, d.rs, rfl, na, fun p ys H2 hp s2 pm so op => ?_⟩
    have s12 := s1.trans s2
    have ts2 := ts0.same s12
    have ht2 := s12 _ _ ht
    have yl := pm.length_eq
    rw [List.length_map] at yl
    walk_at "wt"
    intro D hD
    refine lc_it walk_list (fun i H' => Same H2 H' ∧ ∃ as ls, H' D = some (.lst (as.map V.ref)) ∧ WidthsAt H' as d ls ∧ ls.map (·.1) = ys.take i ∧ ∀ r ∈ ls, r ∈ d.rs) ⟨same_new hD, [], [], upd_same, .nil, rfl, fun r m => by cases m⟩ (fun i H' _ h => SqL.of (h.1 _ _ op)) ?_ ?_
    · rintro i v H3 H4 hi ⟨s3, as, ls, oD, wa, ek, inr⟩ ⟨rfl, hy⟩
      obtain ⟨rfl, hi'⟩ := U.mig hy
      rw [List.length_map] at hi
      have my := pm.mem_iff.mp (U.gd_mem hi')
      obtain ⟨r, mr, er⟩ := List.mem_map.mp my
      have al := wa.len
      have kl := congrArg List.length ek
      rw [List.length_map, List.length_take] at kl
      have ht4 := s3 _ _ ht2
      walk_at "wt"
      refine ⟨rfl, ?_⟩
      walk_at "wt"
      rw [← er]
      refine ⟨t, d, r, rfl, ts2.same s3, mr, mn r mr, fun H5 s5 => ?_⟩
      walk_at "wt"
      rename_i p6 hp6 H6 s6 o6
      have s36 := s5.trans s6
      have oD6 := s36 _ _ oD
      refine ⟨_, oD6, small1000 (by rw [List.length_map]; omega), same_own (s3.trans s36) hD, as ++ [p6], ls ++ [r], by rw [List.map_append]; exact upd_same, ?_, ?_, ?_⟩
      · have bt : But D H6 (upd H6 D (.lst (as.map V.ref ++ [V.ref p6]))) := But.of
        exact ((wa.imp fun _ _ e => bt _ _ (s36 _ _ e) (U.ne_of_get (s36 _ _ e) oD6 nofun)).app (.cons (bt _ _ o6 (U.ne_of_get o6 oD6 nofun)) .nil))
      · rw [List.map_append, ek, U.take_succ_of (U.gd hi'), ← er]
        rfl
      · intro r' m'
        rcases List.mem_append.mp m' with m' | m'
        · exact inr r' m'
        · rw [List.mem_singleton.mp m']
          exact mr
    rintro H3 ⟨s3, as, ls, oD, wa, ek, inr⟩
    rw [List.length_map, List.take_length] at ek
    refine k D as ls H3 (s12.free hD) (s12.trans s3) (U.perm_of_keys (by rw [ek]; exact pm) na.rn inr) ?_ oD wa
    rw [← ek] at so
    exact List.pairwise_map.mp so

theorem sc_tries : FnScope ["task", "number", "many"] ["task"] (defScope (top 50)) := ⟨rfl, rfl, rfl, by decide +kernel, rfl, by decide +kernel, by decide +kernel⟩
theorem ok_tries (T : Txt P w K mg A) : U.Cl P w K mg base 7 "tries" (spTries K A triesN) [] := by
  obtain ⟨_, _, _, F_tfield, c_tfield, m_tfield, bd_tfield⟩ := (ok_tfield (P := P) (w := w) (base := base) T).ex
  obtain ⟨_, d_tfield, b_tfield⟩ := bd_tfield 0 (by decide)
  obtain ⟨_, _, _, F_fsize, c_fsize, m_fsize, bd_fsize⟩ := (ok_fsize (P := P) (w := w) (base := base) T).ex
  obtain ⟨_, d_fsize, b_fsize⟩ := bd_fsize 0 (by decide)
  obtain ⟨_, _, _, F_widths, g_widths, k_widths, bd_widths⟩ := (ok_widths (P := P) (w := w) (base := base) T).ex
  obtain ⟨_, d_widths, b_widths⟩ := bd_widths 0 (by decide)
  obtain ⟨_, _, _, F_grown, g_grown, k_grown, bd_grown⟩ := (ok_grown (P := P) (w := w) (base := base) T).ex
  obtain ⟨_, d_grown, b_grown⟩ := bd_grown 0 (by decide)
  refine T.d_tries.ok sc_tries (fun vs H Q E h => ?_) (fun f cdv Ar outer s H vs Q E hr h => ?_)
  · obtain ⟨t, d, rfl, ts, mn, m1, m4, k⟩ := h
    rfl
  · obtain ⟨t, d, rfl, ts, mn, m1, m4, k⟩ := h
    have cT := T.c_Task
    have t1 := T.na_Task_rank_of
    have t2 := T.na_Task_field_of
    have t3 := T.na_Task_web
    have t4 := T.na_Task_start
    have t5 := T.na_Task_ears
    have t6 := T.na_Task_many
    have t7 := T.na_Task_gone
    have cF := T.c_Field
    refine ⟨_, (pss_one (ps_ret (pe_call F_grown (hr.mono (by decide)) rfl g_grown k_grown b_grown d_grown U.passN (pa_cons (pe_meth0 (pe_meth0 (pv 0) c_tfield m_tfield F_tfield (hr.mono (by decide)) b_tfield d_tfield U.passN) c_fsize m_fsize F_fsize (hr.mono (by decide)) b_fsize d_fsize U.passN) (pa_cons (pe_callBK (U.cr_sum0 (by rfl)) (by rfl) T.sum (by decide +kernel) (pa_cons (pe_lc (own := [("number", 1), ("many", 2)]) (g := (gTup K 2 (gCons (gName 1) (gCons (gName 2) gNil)))) (tt := tYes) (by exact rfl) sc_tries.nd (pi_list (pe_call F_widths (hr.mono (by decide)) rfl g_widths k_widths b_widths d_widths U.passN (pa_cons (pv 0) pa_nil))) (blkOk_by (own := [("number", 1), ("many", 2)]) (N := ["task", "number", "many"]) (sc := defScope (top 50)) (by decide +kernel)) (fun _ _ _ _ _ => (pg_tup (by exact rfl) (pgs_cons (pg_name (i := 1) sc_tries.nd rfl (Or.inl rfl)) (pgs_cons (pg_name (i := 2) sc_tries.nd rfl (Or.inl rfl)) pgs_nil)))) (fun _ _ _ _ _ => pts_nil) (fun _ _ _ _ _ => (pv 2))) pa_nil) (pk_cons pe_int pk_nil)) pa_nil))))), ?_⟩
    have ts0 := ts
    obtain ⟨ro, fo, wo, nd, rd, eo, go, hs, qs, as0, ta⟩ := ts
    obtain ⟨dx, ht⟩ := id ta.obj
    unfold taskF at ht
    have few := ta.web.few
    have hn := ta.fld.1
    walk_at "wt"
    refine ⟨t, d, rfl, ts0, fun fo fa => ?_⟩
    obtain ⟨_, dxf, hf⟩ := id fa
    walk_at "wt"
    refine ⟨fo, d.n, rfl, fa, ?_⟩
    walk_at "wt"
    refine U.i_ckw ?_
    walk_at "wt"
    refine ⟨t, d, rfl, ts0, mn, fun p as ls H1 hp s1 pm so op wa => ?_⟩
    have al := wa.len
    walk_at "wt"
    intro D hD
    refine lc_it walk_list (fun i H' => Same H1 H' ∧ H' D = some (.lst (((ls.take i).map (mixN d)).map V.int))) ⟨same_new hD, upd_same⟩ (fun i H' _ h => SqL.of (h.1 _ _ op)) ?_ ?_
    · rintro i v H3 H4 hi ⟨s3, oD⟩ ⟨rfl, hy⟩
      rw [List.getElem?_map] at hy
      obtain ⟨a, ea, rfl⟩ := Option.map_eq_some_iff.mp hy
      obtain ⟨r, er, hr⟩ := wa.get i a ea
      have hr4 := s3 _ _ hr
      have pl := pm.length_eq
      walk_at "wt"
      refine ⟨rfl, ?_⟩
      walk_at "wt"
      refine ⟨_, oD, small1000 (by rw [List.length_map, List.length_map, List.length_take]; omega), same_own s3 hD, ?_⟩
      rw [U.take_succ_of er, List.map_append, List.map_append]
      exact upd_same
    rintro H3 ⟨s3, oD⟩
    rw [List.length_map, al, List.take_length] at oD
    walk_at "wt"
    refine ⟨D, _, rfl, rfl, SqL.of oD, ?_⟩
    have pl := pm.length_eq
    obtain ⟨s0, s30⟩ := sum_bd (ls.map (mixN d)) (fun y my => by
      obtain ⟨r, _, rfl⟩ := List.mem_map.mp my
      exact ⟨mixN_nn (by omega) r, mixN_le (by omega) few.2 r⟩)
    rw [List.length_map] at s30
    have rg := FM.size_rng hn
    have es : (ls.map (mixN d)).sum = (d.rs.map (mixN d)).sum := sum_perm (pm.map _)
    rw [es] at s0 s30 ⊢
    have := k H3 (s1.trans s3)
    unfold triesN at this
    obtain ⟨k9, ek⟩ : ∃ k9 : Nat, (d.rs.map (mixN d)).sum = (k9 : Int) := ⟨_, (Int.toNat_of_nonneg s0).symm⟩
    rw [ek, Int.toNat_natCast] at this
    rw [ek] at s30
    rw [ek]
    walk_at "wt"
    exact ⟨d.n, k9, rfl, by omega, by omega, by omega, this⟩

theorem sc_copyt : FnScope ["task", "found", "number", "many"] ["task"] (defScope (top 51)) := ⟨rfl, rfl, rfl, by decide +kernel, rfl, by decide +kernel, by decide +kernel⟩
theorem ok_copyt (T : Txt P w K mg A) : U.Cl P w K mg base 7 "copying_tries" (spTries K A copyN) [] := by
  obtain ⟨_, _, _, F_widths, g_widths, k_widths, bd_widths⟩ := (ok_widths (P := P) (w := w) (base := base) T).ex
  obtain ⟨_, d_widths, b_widths⟩ := bd_widths 0 (by decide)
  refine T.d_copying_tries.ok sc_copyt (fun vs H Q E h => ?_) (fun f cdv Ar outer s H vs Q E hr h => ?_)
  · obtain ⟨t, d, rfl, ts, mn, m1, m4, k⟩ := h
    rfl
  · obtain ⟨t, d, rfl, ts, mn, m1, m4, k⟩ := h
    have cT := T.c_Task
    have t1 := T.na_Task_rank_of
    have t2 := T.na_Task_field_of
    have t3 := T.na_Task_web
    have t4 := T.na_Task_start
    have t5 := T.na_Task_ears
    have t6 := T.na_Task_many
    have t7 := T.na_Task_gone
    refine ⟨_, (pss_cons (ps_set (i := 1) sc_copyt.nd rfl (Or.inl rfl) pe_int)
    (pss_cons (ps_for (passes_of (by exact rfl)) (by exact rfl) (pi_list (pe_call F_widths (hr.mono (by decide)) rfl g_widths k_widths b_widths d_widths U.passN (pa_cons (pv 0) pa_nil))) (pg_tup (by exact rfl) (pgs_cons (pg_name (i := 2) sc_copyt.nd rfl (Or.inl rfl)) (pgs_cons (pg_name (i := 3) sc_copyt.nd rfl (Or.inl rfl)) pgs_nil)))
    (pss_one (ps_aug (i := 1) sc_copyt.nd rfl (Or.inl rfl) (pe_op U.u_add (pv 3) pe_int) U.ip_mul)))
    (pss_one (ps_ret (pv 1))))), ?_⟩
    have ts0 := ts
    obtain ⟨ro, fo, wo, nd, rd, eo, go, hs, qs, as0, ta⟩ := ts
    have few := ta.web.few
    walk_at "wt"
    with_reducible refine U.i_seq ?_
    walk_at "wt"
    with_reducible refine U.i_seq ?_
    walk_at "wt"
    refine ⟨t, d, rfl, ts0, mn, fun p as ls H1 hp s1 pm so op wa => ?_⟩
    have al := wa.len
    have pl := pm.length_eq
    walk_at "wt"
    refine for_it walk_list (fun i σ H' => ∃ v2 v3, σ = [some (.ref t), some (.int (((ls.take i).map fun r => mixN d r + 1).foldl (· * ·) 1)), v2, v3] ∧ H' = H1) ⟨_, _, rfl, rfl⟩ (fun i σ H' _ h => by obtain ⟨_, _, _, rfl⟩ := h; exact SqL.of op) ?_ ?_
    · rintro i v σ H3 H4 hi ⟨v2, v3, rfl, rfl⟩ ⟨rfl, hy⟩
      rw [List.getElem?_map] at hy
      obtain ⟨a, ea, rfl⟩ := Option.map_eq_some_iff.mp hy
      obtain ⟨r, er, hr⟩ := wa.get i a ea
      have m0 := mixN_nn (d := d) (by omega) r
      have m30 := mixN_le (d := d) (by omega) few.2 r
      have ef : ((ls.take (i + 1)).map fun r => mixN d r + 1).foldl (· * ·) 1 = ((ls.take i).map fun r => mixN d r + 1).foldl (· * ·) 1 * (mixN d r + 1) := by
        rw [U.take_succ_of er, List.map_append, List.foldl_append]
        rfl
      rw [ef]
      generalize ((ls.take i).map fun r => mixN d r + 1).foldl (· * ·) (1 : Int) = found at *
      walk_at "wt"
      exact ⟨_, _, rfl, rfl⟩
    rintro σ H3 ⟨v2, v3, rfl, rfl⟩
    rw [List.length_map, al, List.take_length]
    have e : ((ls.map fun r => mixN d r + 1).foldl (· * ·) 1) = copyN d := foldl_perm (pm.map _)
    rw [e]
    walk_at "wt"
    exact k _ s1

end
end Lw
end

section
set_option Elab.async false
set_option linter.all false
set_option maxRecDepth 100000
set_option maxHeartbeats 4000000
/-! ### own steps (local) -/
local macro_rules | `(tactic| walk_at "hp") => `(tactic| first
  | assumption
  | exact L2.upd_same
  | ((with_reducible refine U.upd_new ?_ ?_); (focus (first | assumption | done)); walk_at "hp")
  | ((with_reducible refine U.upd_ne'' ?_ ?_); (focus (first | assumption | (apply Ne.symm; assumption))); walk_at "hp")
  | ((with_reducible refine' U.Same.get ?hx ?hy); (case hx => assumption); (case hy => walk_at "hp"))
  | ((with_reducible refine' U.ExtN.lst ?hx ?hy); (case hx => assumption); (case hy => walk_at "hp"))
  | ((with_reducible refine' U.ExtN.tup ?hx ?hy); (case hx => assumption); (case hy => walk_at "hp"))
  | ((with_reducible refine' U.ExtN.ins ?hx ?hy); (case hx => assumption); (case hy => walk_at "hp"))
  | fail "hp")
local macro_rules | `(tactic| walk_at "lay") => `(tactic| (intro p hn; generalize hg : L2.upd _ p _ = H'; have hs := U.same_of hg hn; have ho := U.at_of hg; clear hg))
local macro_rules | `(tactic| walk_at "sz") => `(tactic| first | decide | (show _ ≤ PySem.sizeLine; rw [PySem.sizeLine_eq]; (try simp only [List.length_cons, List.length_nil, List.length_map]); omega))
local macro_rules | `(tactic| walk_at "ref'") => `(tactic| skip)
local macro_rules | `(tactic| walk_at "rd1") => `(tactic| first
  | (with_reducible refine' U.i_seq ?_)
  | (with_reducible refine' U.i_asg ?_)
  | (with_reducible refine' U.i_ret ?_)
  | (with_reducible refine' U.i_ifS ?_)
  | (with_reducible refine' U.i_drop ?_)
  | ((with_reducible refine' U.i_var ?hx ?_); (case hx => rfl))
  | (with_reducible refine' U.i_c ?_)
  | (with_reducible refine' U.i_op ?_)
  | (with_reducible refine' U.i_un ?_)
  | (with_reducible refine' U.i_name ?_)
  | (with_reducible refine' U.i_gsub ?_)
  | (with_reducible refine' U.i_test ?_)
  | (with_reducible refine' U.i_tB ?_)
  | (with_reducible refine' U.i_bl ?_)
  | (with_reducible refine' U.i_not ?_)
  | (with_reducible refine' U.i_nil ?_)
  | (with_reducible refine' U.i_cons ?_)
  | (with_reducible refine' U.i_cb ?_)
  | (with_reducible refine' U.i_call ?_)
  | (with_reducible refine' U.i_fld ?_)
  | ((with_reducible refine' U.i_fld' ?hx ?hy ?hz ?hw ?_); (case hx => walk_at "hp"); (case hy => assumption); (case hz => assumption); (case hw => rfl))
  | (with_reducible refine' U.i_meth ?_)
  | ((with_reducible refine' U.i_meth' ?hx ?hy ?_); (case hx => walk_at "hp"); (case hy => rfl))
  | (with_reducible refine' U.i_add ?_)
  | (with_reducible refine' U.i_sub ?_)
  | ((with_reducible refine' U.i_mul ?hx ?_); (case hx => (first | (left; constructor <;> omega) | (right; constructor <;> omega))))
  | ((with_reducible refine' U.i_mod ?hx ?_); (case hx => omega))
  | ((with_reducible refine' U.i_fdiv ?hx ?_); (case hx => (constructor <;> omega)))
  | ((with_reducible refine' U.i_pow ?hx ?_); (case hx => (refine ⟨?_, ?_, ?_⟩ <;> decide)))
  | (with_reducible refine' U.i_lt ?_)
  | (with_reducible refine' U.i_le ?_)
  | (with_reducible refine' U.i_gt ?_)
  | (with_reducible refine' U.i_ge ?_)
  | (with_reducible refine' U.i_eqI ?_)
  | (with_reducible refine' U.i_neI ?_)
  | (with_reducible refine' U.i_rU ?_)
  | (with_reducible refine' U.i_abs ?_)
  | (with_reducible refine' U.i_callN ?_)
  | ((with_reducible refine' U.i_lens ?hx ?hy ?_); (case hx => rfl); (case hy => rfl))
  | ((with_reducible refine' U.i_ixL ?hx ?hy ?_); (case hx => exact L2.SqL.of (by walk_at "hp")); (case hy => rfl))
  | ((with_reducible refine' U.i_lenL ?hx ?_); (case hx => exact L2.SqL.of (by walk_at "hp")))
  | ((with_reducible refine' U.i_setL ?hx ?hy ?_); (case hx => walk_at "hp"); (case hy => rfl))
  | (with_reducible refine' U.i_augS ?_)
  | ((with_reducible refine' U.i_aug ?hx ?_); (case hx => rfl))
  | (with_reducible refine' U.i_ipI ?_)
  | ((with_reducible refine' U.i_ipMul ?hx ?_); (case hx => (first | (left; constructor <;> omega) | (right; constructor <;> omega))))
  | ((with_reducible refine' U.i_gtup ?hx ?hy ?_); (case hx => exact L2.SqT.of (by walk_at "hp")); (case hy => rfl))
  | (with_reducible refine' U.i_gcons ?_)
  | (with_reducible refine' U.i_gnil ?_)
  | ((with_reducible refine' U.i_divmod ?hx ?_); (case hx => (constructor <;> omega)); walk_at "lay")
  | (with_reducible refine' U.i_tup ?_)
  | (with_reducible refine' U.i_lst ?_)
  | ((with_reducible refine' U.lay_and ?hx ?_); (case hx => walk_at "sz"); walk_at "lay")
  | (with_reducible refine' U.i_sl ?_)
  | (with_reducible refine' U.i_part ?_)
  | (with_reducible refine' U.i_part' ?_)
  | (with_reducible refine' U.i_nopart ?_)
  | ((with_reducible refine' U.i_slL ?hx ?_); (case hx => exact L2.SqL.of (by walk_at "hp")); walk_at "lay")
  | (with_reducible refine' U.i_bm ?_)
  | ((with_reducible refine' U.i_bm' ?hx ?_); (case hx => walk_at "hp"))
  | ((with_reducible refine' U.i_append ?hx ?hy ?_); (case hx => walk_at "hp"); (case hy => walk_at "szl"))
  | ((with_reducible refine' U.i_chLL ?hx ?hy ?_); (case hx => rfl); (case hy => rfl))
  | (with_reducible refine' U.i_chain ?_)
  | (with_reducible refine' U.i_rng1 ?_)
  | ((with_reducible refine' U.i_rng1' ?hx ?hy ?_); (case hx => omega); (case hy => omega))
  | (with_reducible refine' U.i_rng2 ?_)
  | ((with_reducible refine' U.i_rng2' ?hx ?_); (case hx => (refine ⟨?_, ?_, ?_, ?_⟩ <;> omega)))
  | (with_reducible refine' U.i_rng3 ?_)
  | (with_reducible refine' U.i_enum ?_)
  | ((with_reducible refine' U.i_enum' ?hx ?_); (case hx => exact L2.SqL.of (by walk_at "hp")))
  | (with_reducible refine' U.i_enumT ?_)
  | ((with_reducible refine' U.i_enumT' ?hx ?_); (case hx => exact L2.SqT.of (by walk_at "hp")))
  | (with_reducible refine' U.i_rev ?_)
  | ((with_reducible refine' U.i_rev' ?hx ?_); (case hx => exact L2.SqL.of (by walk_at "hp")))
  | (with_reducible refine' U.i_plist ?_)
  | ((with_reducible refine' U.i_plist' ?hx ?_); (case hx => exact L2.SqL.of (by walk_at "hp")))
  | (with_reducible refine' U.i_for ?_)
  | (with_reducible refine' U.i_sfld ?_)
  | ((with_reducible refine' U.i_sfld' ?hx ?hy ?hz ?hw ?_); (case hx => walk_at "hp"); (case hy => assumption); (case hz => assumption); (case hw => exact Nat.le_of_ble_eq_true rfl))
  | (with_reducible refine' U.i_lc ?_)
  | (with_reducible refine' U.i_par3 ?_)
  | (with_reducible refine' U.i_par3' ?_)
  | (with_reducible refine' U.i_par ?_)
  | (with_reducible refine' U.i_par' ?_)
  | (with_reducible refine' U.i_lrg ?_)
  | (with_reducible refine' U.i_rg1 ?_)
  | (with_reducible refine' U.i_rg1' ?_)
  | (with_reducible refine' U.i_pl ?_)
  | ((with_reducible refine' U.i_pl' ?hx ?hy ?_); (case hx => walk_at "hp"); (case hy => exact Nat.le_of_ble_eq_true rfl))
  | (with_reducible refine' U.i_rAdd ?_)
  | ((with_reducible refine' U.i_listOf ?hx ?_); (case hx => exact L2.SqL.of (by walk_at "hp")); walk_at "lay")
  | (with_reducible refine' U.i_intB ?_)
  | (with_reducible refine' U.i_wget ?_)
  | ((with_reducible refine' U.i_tupleOf ?hx ?_); (case hx => walk_at "hp"); walk_at "lay")
  | ((with_reducible refine' U.i_repA ?hx ?hn ?h0 ?h1 ?h2 ?_); (case hx => walk_at "hp"); (case hn => simp); (case h0 => omega); (case h1 => omega); (case h2 => simp); intro p H' hs ho)
  | ((with_reducible refine' U.i_catA ?hx ?hy ?hz ?_); (case hx => walk_at "hp"); (case hy => walk_at "hp"); (case hz => walk_at "sz"); intro p H' hs ho)
  | ((with_reducible refine' U.i_slA ?hx ?_); (case hx => walk_at "hp"); intro p H' hs ho)
  | (with_reducible refine' U.i_zipS ?_)
  | ((with_reducible refine' U.i_zipTT ?hx ?hy ?_); (case hx => exact L2.SqT.of (by walk_at "hp")); (case hy => exact L2.SqT.of (by walk_at "hp")))
  | ((with_reducible refine' U.i_zipLL ?hx ?hy ?_); (case hx => exact L2.SqL.of (by walk_at "hp")); (case hy => exact L2.SqL.of (by walk_at "hp")))
  | (with_reducible refine' U.i_ptup ?_)
  | ((with_reducible refine' U.i_ptup' ?hx ?_); (case hx => exact L2.SqT.of (by walk_at "hp")))
  | ((with_reducible refine' U.i_lenT ?hx ?_); (case hx => exact L2.SqT.of (by walk_at "hp")))
  | (with_reducible refine' U.i_yes ?_)
  | (with_reducible refine' L2.iteT ?_)
  | (with_reducible refine' U.i_next ?_)
  | fail "rd1")
local macro_rules | `(tactic| walk_at "szl") => `(tactic| first | decide | (refine L2.small1000 ?_; (try simp only [List.length_cons, List.length_nil, List.length_map]); omega))
local macro_rules | `(tactic| walk_at "rd") => `(tactic| (repeat walk_at "rd1"))
local macro_rules | `(tactic| walk_at "ro") => `(tactic| (refine' U.i_or ?_; walk_at "rd"))
local macro_rules | `(tactic| walk_at "ra") => `(tactic| (refine' U.i_pt ?_; walk_at "rd"))
local macro_rules | `(tactic| walk_at "gd") => `(tactic| (repeat (first | walk_at "rd1" | (with_reducible refine' U.i_andV ?_))))

namespace Lw
open PySem L2 U LamX
local macro_rules | `(tactic| walk_at "fa") => `(tactic| first
  | assumption
  | ((with_reducible refine' Lw.FA.same ?hx ?hy); (case hy => assumption); (case hx => walk_at "fa"))
  | fail "fa")
local macro_rules | `(tactic| walk_at "bg") => `(tactic| first
  | assumption
  | ((with_reducible refine' Lw.Bag.same ?hx ?hy); (case hy => assumption); (case hx => walk_at "bg"))
  | fail "bg")
local macro_rules | `(tactic| walk_at "op2") => `(tactic| (refine' Lw.spOp.go ?fa ?ra ?rb ?q; (case fa => walk_at "fa"); (case ra => constructor <;> omega); (case rb => constructor <;> omega); intro H' s'; walk_at "rd"))

local macro_rules | `(tactic| walk_at "ty") => `(tactic| first | exact .base (.int _) | exact .base (.str _) | exact .base (.bl _) | exact .base .non | exact .base (.lst (by walk_at "hp")) | exact .base (.tup (by walk_at "hp")))
local macro_rules | `(tactic| walk_at "al") => `(tactic| (repeat (first
  | walk_at "rd1"
  | (with_reducible refine' U.i_andV ?_)
  | (with_reducible refine' U.i_notV ?_)
  | (with_reducible refine' U.i_truth ?_)
  | (with_reducible refine' U.i_or ?_)
  | (with_reducible refine' U.i_pt ?_)
  | ((with_reducible refine' U.i_isNT ?hx ?_); (case hx => rfl))
  | ((with_reducible refine' U.i_isNF ?hx ?_); (case hx => (intro z; cases z)))
  | ((with_reducible refine' U.i_isiT ?hx ?hy ?_); (case hx => walk_at "ty"); (case hy => decide +kernel))
  | ((with_reducible refine' U.i_isiF ?hx ?hy ?_); (case hx => walk_at "ty"); (case hy => decide +kernel))
  | (with_reducible refine' U.i_neBB ?_)
  | (with_reducible refine' U.i_eqBB ?_)
  | (with_reducible refine' U.i_eqSS ?_)
  | ((with_reducible refine' U.i_lenL ?hx ?_); (case hx => exact L2.SqL.of (by walk_at "hp")))
  | ((with_reducible refine' U.i_lenT ?hx ?_); (case hx => exact L2.SqT.of (by walk_at "hp")))
  | (with_reducible refine' U.iteT' ?_)
  | (with_reducible refine' U.iteF' ?_)
  | fail "al")))

local macro_rules | `(tactic| walk_at "gq") => `(tactic| (repeat (first | ((fail_if_success (with_reducible refine' U.i_seq ?_)); (first | walk_at "rd1" | (with_reducible refine' U.i_andV ?_))) | fail "gq")))
local macro_rules | `(tactic| walk_at "rq") => `(tactic| (repeat (first | ((fail_if_success (with_reducible refine' U.i_seq ?_)); walk_at "rd1") | fail "rq")))
local macro_rules | `(tactic| walk_at "nt") => `(tactic| (repeat (first
  | walk_at "rd1"
  | (with_reducible refine' U.i_dni ?_)
  | (with_reducible refine' U.i_din ?_)
  | (with_reducible refine' U.i_dgt ?_)
  | (with_reducible refine' U.i_dpt ?_)
  | (with_reducible refine' U.i_dnew ?_)
  | ((with_reducible refine' U.i_dniN ?hx ?_); (case hx => walk_at "hp"))
  | ((with_reducible refine' U.i_dinN ?hx ?_); (case hx => walk_at "hp"))
  | ((with_reducible refine' U.i_dniR ?hx ?_); (case hx => walk_at "hp"))
  | ((with_reducible refine' U.i_dinR ?hx ?_); (case hx => walk_at "hp"))
  | (with_reducible refine' U.i_or ?_)
  | (with_reducible refine' U.i_pt ?_)
  | fail "nt")))
local macro_rules | `(tactic| walk_at "wt") => `(tactic| (repeat (first
  | ((fail_if_success (with_reducible refine' U.i_seq ?_)); walk_at "rd1")
  | (with_reducible refine' U.i_dni ?_)
  | (with_reducible refine' U.i_din ?_)
  | (with_reducible refine' U.i_dgt ?_)
  | (with_reducible refine' U.i_dpt ?_)
  | (with_reducible refine' U.i_dnew ?_)
  | ((with_reducible refine' U.i_dniU ?hx ?_); (case hx => walk_at "hp"))
  | ((with_reducible refine' U.i_dinU ?hx ?_); (case hx => walk_at "hp"))
  | ((with_reducible refine' U.i_dniS ?hx ?_); (case hx => walk_at "hp"))
  | ((with_reducible refine' U.i_dinS ?hx ?_); (case hx => walk_at "hp"))
  | (with_reducible refine' U.i_pt ?_)
  | fail "wt")))

theorem All2_rev {α β : Type} {R : α → β → Prop} {as : List α} {bs : List β} (h : U.All2 R as bs) : U.All2 R as.reverse bs.reverse := by
  induction h with
  | nil => exact .nil
  | cons r _ ih =>
    rw [List.reverse_cons, List.reverse_cons]
    exact ih.app (.cons r .nil)
/-- a road that goes on in the row of the names -/
def UpR (ns : List Str) (r : Road) : Prop := ∃ i j : Nat, i < j ∧ ns[i]? = some r.2.1 ∧ ns[j]? = some r.2.2.1
def spLWorldR : Sp := fun vs H Q _ => ∃ (b c : Addr) (t u : Nat) (rl : Bool), vs = [.ref b, .int (t : Nat), .int (u : Nat), .bl rl] ∧ Bag H b c ∧ 2 ≤ t ∧ t ≤ 12 ∧ u ≤ 30 ∧ ∀ (p l m : Addr) (ns : List Str) (as : List Addr) (rs : List Road) (H' : Hp), H p = none → H l = none → H m = none → Bag H' b c → But b H H' → WorldP ns rs t u → (rl = true → ∀ r ∈ rs, UpR ns r) → H' p = some (.tup [.ref l, .ref m]) → H' l = some (.lst (ns.map V.str)) → H' m = some (.lst (as.map V.ref)) → RoadsAt H' as rs → l ≠ m → Q (.ref p) H'
def spLGoneR : Sp := fun vs H Q _ => ∃ (b c m : Addr) (as : List Addr) (rs : List Road) (up : Nat), vs = [.ref b, .ref m, .int (up : Nat)] ∧ Bag H b c ∧ H m = some (.lst (as.map V.ref)) ∧ RoadsAt H as rs ∧ up ≤ 10 ∧ ∀ (p : Addr) (ls : List Int) (H' : Hp), H p = none → Bag H' b c → But b H H' → H' p = some (.tup (ls.map V.int)) → ls.Sublist (rs.map (·.1)) → ls.length ≤ up → Q (.ref p) H'
def spLPlain (A : Ad) : Sp := fun vs H Q _ => ∃ (w l m : Addr) (ns : List Str) (as : List Addr) (rs : List Road), vs = [.ref w] ∧ H w = some (.tup [.ref l, .ref m]) ∧ H l = some (.lst (ns.map V.str)) ∧ H m = some (.lst (as.map V.ref)) ∧ RoadsAt H as rs ∧ Putable ns rs ∧ ∀ (x : Addr) (ls : List Road) (H' : Hp), Same H H' → ls.Perm rs → NetS A H' x ns ls → Q (.ref x) H'
/-- where all roads go on in the row of the names there is an order -/
theorem up_free {ns hs : List Str} {rs : List Road} (nd : ns.Nodup) (up : ∀ r ∈ rs, UpR ns r) (pm : hs.Perm ns) : ∀ v ∈ ns, v ∈ ordR hs rs := by
  have key : ∀ (n i : Nat) (v : Str), i < n → ns[i]? = some v → v ∈ ordR hs rs := by
    intro n
    induction n with
    | zero => intro i v h; omega
    | succ n ih =>
      intro i v hi ev
      apply Classical.byContradiction
      intro nv
      obtain ⟨r, mr, e2, e3⟩ := FO.nxt_none (one := rOne) (two := rTwo) (hs := hs) (rs := rs) FO.ord_none v (pm.mem_iff.mpr (List.mem_of_getElem? ev)) nv
      obtain ⟨a, b, ab, ea, eb⟩ := up r mr
      have e2' : r.2.2.1 = v := e2
      rw [e2'] at eb
      have ib : b = i := by
        obtain ⟨h1, e1⟩ := List.getElem?_eq_some_iff.mp eb
        obtain ⟨h2, e4⟩ := List.getElem?_eq_some_iff.mp ev
        apply Classical.byContradiction
        intro ne
        exact nodup_ne15 nd h1 h2 ne (e1.trans e4.symm)
      exact e3 (ih a r.2.1 (by omega) ea)
  intro v m
  obtain ⟨i, hi, e⟩ := List.getElem_of_mem m
  exact key (i + 1) i v (by omega) (by rw [List.getElem?_eq_getElem hi, e])
/-- what a law asks of a task: the tuple at q -/
structure AskA (K : PySem.W.Frag) (H : Hp) (q wd nl rl el gl : Addr) (as gs : List Addr) (d : TaskD) : Prop where
  tp : H q = some (.tup [.ref wd, .str d.s, .ref el, .int d.mn, .ref gl, .int d.n])
  wtp : H wd = some (.tup [.ref nl, .ref rl])
  nlo : H nl = some (.lst (d.ns.map V.str))
  rlo : H rl = some (.lst (as.map V.ref))
  ro : RoadsAt H as d.rs
  elo : H el = some (.lst (d.es.map V.str))
  glo : H gl = some (.lst (gs.map V.ref))
  lots : LotsAt K H gs d.ls
section
variable {K : PySem.W.Frag} {H H' : Hp} {q wd nl rl el gl : Addr} {as gs : List Addr} {d : TaskD}
theorem AskA.same (h : AskA K H q wd nl rl el gl as gs d) (s : Same H H') : AskA K H' q wd nl rl el gl as gs d := ⟨s _ _ h.tp, s _ _ h.wtp, s _ _ h.nlo, s _ _ h.rlo, h.ro.same s, s _ _ h.elo, s _ _ h.glo, h.lots.same s⟩
theorem AskA.pull {b c : Addr} (h : AskA K H q wd nl rl el gl as gs d) (hb : Bag H b c) (k : But b H H') : AskA K H' q wd nl rl el gl as gs d := by
  have n1 := bag_tup hb h.tp
  have n2 := bag_tup hb h.wtp
  have n3 := strs_ne_bag hb h.nlo
  have n4 := refs_ne_bag hb h.rlo
  have n5 := strs_ne_bag hb h.elo
  have n6 := refs_ne_bag hb h.glo
  have r := roads_bag h.ro hb k
  obtain ⟨_, _, _, _, h1, _⟩ := hb
  exact ⟨k _ _ h.tp n1, k _ _ h.wtp n2, k _ _ h.nlo n3, k _ _ h.rlo n4, r, k _ _ h.elo n5, k _ _ h.glo n6, h.lots.but h1 (fun _ e => by cases e) (fun _ _ e => by cases e) k⟩
end
/-- what is asked can be put together, and is a task's -/
structure AskOk (d : TaskD) : Prop where
  put : Putable d.ns d.rs
  up : d.rs.Pairwise fun a b => a.1 < b.1
  ups : ∀ r ∈ d.rs, UpR d.ns r
  src : d.s ∈ d.ns
  ears : d.es.Nodup ∧ (∀ e ∈ d.es, e ∈ d.ns) ∧ d.s ∉ d.es ∧ 1 ≤ d.es.length ∧ d.es.length ≤ 4
  many : 1 ≤ d.mn ∧ d.mn ≤ 4
  lots : d.ls.length ≤ 3 ∧ d.ls.Nodup ∧ ∀ l ∈ d.ls, Rises l ∧ ∀ n ∈ l, n ∈ d.rs.map (·.1)
  size : d.n ∈ FM.sizes
theorem AskOk.task {d : TaskD} (h : AskOk d) {rs : List Road} (p : rs.Perm d.rs) : TaskOk { d with rs := rs } :=
  ⟨h.put.good, fun r m => ⟨(h.put.ok r (p.mem_iff.mp m)).1.2.1, (h.put.ok r (p.mem_iff.mp m)).1.2.2.1⟩, fun hs pm _ => up_free h.put.nd (fun r m => h.ups r (p.mem_iff.mp m)) pm, h.src, h.ears, h.many, h.lots.1, h.lots.2.1, fun l m => ⟨(h.lots.2.2 l m).1, fun n mn => (p.map _).mem_iff.mpr ((h.lots.2.2 l m).2 n mn)⟩⟩
theorem sub_rises {rs : List Road} {l : List Int} (up : rs.Pairwise fun a b => a.1 < b.1) (s : l.Sublist (rs.map (·.1))) (ne : l ≠ []) : Rises l ∧ ∀ n ∈ l, n ∈ rs.map (·.1) :=
  ⟨⟨ne, (List.pairwise_map.mpr up).sublist s⟩, fun n m => s.mem m⟩
def spLAsk (K : PySem.W.Frag) : Sp := fun vs H Q _ => ∃ (b c : Addr) (t u : Nat), vs = [.ref b, .int (t : Nat), .int (u : Nat)] ∧ Bag H b c ∧ 2 ≤ t ∧ t ≤ 12 ∧ u ≤ 30 ∧ ∀ (q wd nl rl el gl : Addr) (as gs : List Addr) (d : TaskD) (H' : Hp), Bag H' b c → But b H H' → AskA K H' q wd nl rl el gl as gs d → AskOk d → d.rs.length ≤ u → Q (.ref q) H'
section
variable {P : Program} {w : World} {K : PySem.W.Frag} {mg : Str → Option Value} {base : Heap} {A : Ad}
theorem sc_lnames : FnScope ["_law_bag_here", "_law_tally", "_law_tails", "_law_signs", "_law_begin", "_law_step", "_law_k"] ["_law_bag_here", "_law_tally"] (defScope (top 84)) := ⟨rfl, rfl, rfl, by decide +kernel, rfl, by decide +kernel, by decide +kernel⟩
theorem ok_lnames (T : Txt P w K mg A) : U.Cl P w K mg base 2 "_law_names" spLNames [] := by
  obtain ⟨_, _, _, F_pull, g_pull, k_pull, bd_pull⟩ := (ok_pull (P := P) (w := w) (base := base) T).ex
  obtain ⟨_, d_pull, b_pull⟩ := bd_pull 0 (by decide)
  refine T.d_law_names.ok sc_lnames (fun vs H Q E h => ?_) (fun f cdv Ar outer s H vs Q E hr h => ?_)
  · obtain ⟨b, c, t, rfl, bag, t12, k⟩ := h
    rfl
  · obtain ⟨b, c, t, rfl, bag, t12, k⟩ := h
    refine ⟨_, (pss_cons (ps_set (i := 2) sc_lnames.nd rfl (Or.inr rfl) (pe_lst (pa_cons pe_str (pa_cons pe_str (pa_cons pe_str (pa_cons pe_str (pa_cons pe_str (pa_cons pe_str pa_nil))))))))
    (pss_cons (ps_set (i := 3) sc_lnames.nd rfl (Or.inr rfl) pe_str)
    (pss_cons (ps_set (i := 4) sc_lnames.nd rfl (Or.inr rfl) (pe_call F_pull (hr.mono (by decide)) rfl g_pull k_pull b_pull d_pull U.passN (pa_cons (pv 0) (pa_cons pe_int pa_nil))))
    (pss_cons (ps_set (i := 5) sc_lnames.nd rfl (Or.inr rfl) (pe_ix ix_list (pe_lst (pa_cons pe_int (pa_cons pe_int (pa_cons pe_int (pa_cons pe_int (pa_cons pe_int (pa_cons pe_int pa_nil))))))) (pe_call F_pull (hr.mono (by decide)) rfl g_pull k_pull b_pull d_pull U.passN (pa_cons (pv 0) (pa_cons pe_int pa_nil))) (fun _ _ => rfl)))
    (pss_one (ps_ret (pe_lc (own := [("_law_k", 6)]) (g := (gName 6)) (tt := tYes) (by exact rfl) sc_lnames.nd (pi_range1 (by rfl) T.range (pa_cons (pv 1) pa_nil)) (blkOk_by (own := [("_law_k", 6)]) (N := ["_law_bag_here", "_law_tally", "_law_tails", "_law_signs", "_law_begin", "_law_step", "_law_k"]) (sc := defScope (top 84)) (by decide +kernel)) (fun _ _ _ _ _ => (pg_name (i := 6) sc_lnames.nd rfl (Or.inl rfl))) (fun _ _ _ _ _ => pts_nil) (fun _ _ _ _ _ => (pe_slice sl_str (pe_op op_add_str (pe_ix ix_str (pv 3) (pe_op U.u_mod (pe_op U.u_add (pv 4) (pe_op U.u_mul (pv 5) (pv 6))) pe_int) (fun _ _ => rfl)) (pe_ix (U.ixL K rfl) (pv 2) (pe_call F_pull (hr.mono (by decide)) rfl g_pull k_pull b_pull d_pull U.passN (pa_cons (pv 0) (pa_cons pe_int pa_nil))) (fun _ _ => rfl))) po_none (po_some pe_int)))))))))), ?_⟩
    walk_at "rq"
    with_reducible refine U.i_seq ?_
    walk_at "rq"
    rename_i lt hlt H1 s1 ot
    have nlt := bag_new bag hlt
    replace bag := bag.same s1
    walk_at "rq"
    with_reducible refine U.i_seq ?_
    walk_at "rq"
    with_reducible refine U.i_seq ?_
    walk_at "rq"
    refine spPull.go bag (by decide) (by decide) (fun g0 H2 p0 p1 hb2 bt2 => ?_)
    have b02 : But b H H2 := sm_but s1 bt2
    have ot2 := bt2 _ _ ot nlt
    clear bt2 s1 bag ot
    walk_at "rq"
    with_reducible refine U.i_seq ?_
    walk_at "rq"
    rename_i ls hls H3 s3 o3
    have nls := bag_new hb2 hls
    refine spPull.go (hb2.same s3) (by decide) (by decide) (fun g1 H4 p2 p3 hb4 bt4 => ?_)
    have b04 : But b H H4 := but_tr (but_sm b02 s3) bt4
    have ot4 := bt4 _ _ (s3 _ _ ot2) nlt
    have o4 := bt4 _ _ o3 nls
    obtain ⟨st, est, hst⟩ : ∃ st : Int, atI [V.int 1, V.int 3, V.int 5, V.int 7, V.int 9, V.int 11] g1 = some (V.int st) ∧ (st = 1 ∨ st = 3 ∨ st = 5 ∨ st = 7 ∨ st = 9 ∨ st = 11) := by
      have h6 : g1 = 0 ∨ g1 = 1 ∨ g1 = 2 ∨ g1 = 3 ∨ g1 = 4 ∨ g1 = 5 := by omega
      rcases h6 with rfl | rfl | rfl | rfl | rfl | rfl <;> exact ⟨_, rfl, by decide⟩
    refine U.i_ixL (SqL.of o4) est ?_
    clear bt4 b02 s3 o3 ot2 o4 hls hlt hb2 est
    have smul : ∀ k : Nat, CMul st (k : Int) := fun k => by
      left
      constructor <;> omega
    walk_at "rq"
    intro D hD
    have nD := bag_new hb4 hD
    have nDt : D ≠ lt := fun e => by rw [e, ot4] at hD; cases hD
    refine lc_it (walk_range (n := ((t : Nat) : Int).toNat)) (fun i H' => Bag H' b c ∧ But b H H' ∧ But b H4 H' ∧ ∃ ns : List Str, H' D = some (.lst (ns.map V.str)) ∧ ns.length = i ∧ ∀ (j : Nat) (s : Str), ns[j]? = some s → ∃ u, u < 6 ∧ s = nmS ((g0 + st * (j : Nat)) % 26).toNat u) ⟨hb4.same (same_new hD), but_sm b04 (same_new hD), fun x o e _ => same_new hD _ _ e, [], upd_same, rfl, fun j s e => by simp at e⟩ (fun _ _ _ _ => trivial) ?_ ?_
    · rintro i x H5 H6 hi ⟨hb5, b05, b45, ns, oD, len, each⟩ ⟨rfl, rfl⟩
      rw [Int.toNat_natCast] at hi
      have iz : (0 + ((i : Nat) : Int)) = (i : Int) := by omega
      have c26 : ((g0 + st * (0 + (i : Nat))) % 26).toNat < 26 := by have := Int.emod_lt_of_pos (g0 + st * (0 + (i : Nat))) (by decide : (0 : Int) < 26); have := Int.emod_nonneg (g0 + st * (0 + (i : Nat))) (by decide : (26 : Int) ≠ 0); omega
      have c0 := Int.emod_nonneg (g0 + st * (0 + (i : Nat))) (by decide : (26 : Int) ≠ 0)
      walk_at "rd"
      refine ⟨rfl, ?_⟩
      walk_at "rd"
      have ci := sgn ⟨((g0 + st * (0 + (i : Nat))) % 26).toNat, c26⟩
      generalize hcc : ((g0 + st * (0 + (i : Nat))) % 26).toNat = cc at *
      refine ⟨_, _, 97 + cc, rfl, rfl, (by rw [PySem.sizeLine_eq]; decide +kernel), atI_of' (j := cc) (by omega) ci, ?_⟩
      walk_at "rd"
      refine spPull.go hb5 (by decide) (by decide) (fun g2 H7 p4 p5 hb7 bt7 => ?_)
      have ot7 := bt7 _ _ (b45 _ _ ot4 nlt) nlt
      have oD7 := bt7 _ _ oD nD
      have et : [V.str (PySem.Str.ofString ""), V.str (PySem.Str.ofString ""), V.str (PySem.Str.ofString "x"), V.str (PySem.Str.ofString "box"), V.str (PySem.Str.ofString "zzzzz"), V.str (PySem.Str.ofString "a")][g2.toNat]? = some (V.str (tail6 g2.toNat)) := by
        have h6 : g2 = 0 ∨ g2 = 1 ∨ g2 = 2 ∨ g2 = 3 ∨ g2 = 4 ∨ g2 = 5 := by omega
        rcases h6 with rfl | rfl | rfl | rfl | rfl | rfl <;> rfl
      refine U.i_ixL (SqL.of ot7) (U.atI_of (j := g2.toNat) (by omega) et) ?_
      obtain ⟨w1, w2, w3, w4, w5, w6⟩ := nmS_good ⟨cc, c26⟩ ⟨g2.toNat, by omega⟩
      refine ⟨_, _, rfl, rfl, Nat.le_of_lt (small1000 w6), ?_⟩
      walk_at "rd"
      refine ⟨_, rfl, Nat.le_of_lt (small1000 (Nat.le_trans w2 (by decide))), ?_⟩
      have w5' : cutS (⟨#[97 + cc]⟩ ++ tail6 g2.toNat) none (some 6) = nmS cc g2.toNat := w5
      rw [w5']
      refine ⟨_, oD7, small1000 (by rw [List.length_map]; omega), bag_but hb7 nD (bag_new2 hb4 hD) But.of, but_new (but_tr b05 bt7) (but_free b04 nD hD) But.of, but_new (but_tr b45 bt7) hD But.of, ns ++ [nmS cc g2.toNat], by rw [List.map_append]; exact upd_same, by rw [List.length_append, len]; rfl, fun j s e => ?_⟩
      rcases Nat.lt_or_ge j ns.length with lt | ge
      · rw [List.getElem?_append_left lt] at e
        exact each j s e
      · rw [List.getElem?_append_right ge] at e
        have j0 : j - ns.length = 0 := by
          cases h : j - ns.length with
          | zero => rfl
          | succ k => rw [h] at e; simp at e
        rw [j0] at e
        have es : s = nmS cc g2.toNat := (Option.some.inj e).symm
        refine ⟨g2.toNat, by omega, ?_⟩
        have ej : j = i := by omega
        subst ej
        rw [es, ← hcc, iz]
    rintro H5 ⟨hb5, b05, b45, ns, oD, len, each⟩
    rw [Int.toNat_natCast] at len
    walk_at "rd"
    have cl : ∀ j : Nat, ((g0 + st * (j : Nat)) % 26).toNat < 26 := fun j => by have := Int.emod_lt_of_pos (g0 + st * (j : Nat)) (by decide : (0 : Int) < 26); have := Int.emod_nonneg (g0 + st * (j : Nat)) (by decide : (26 : Int) ≠ 0); omega
    refine k D ns H5 (but_free b04 nD hD) hb5 b05 ⟨len, fun s m => ?_, ?_, fun s m => ?_⟩ oD
    rotate_right
    · obtain ⟨j, lj, rfl⟩ := List.getElem_of_mem m
      obtain ⟨u, hu, e⟩ := each j _ (List.getElem?_eq_getElem lj)
      exact ⟨_, u, cl j, hu, e⟩
    · obtain ⟨j, lj, rfl⟩ := List.getElem_of_mem m
      obtain ⟨u, hu, e⟩ := each j _ (List.getElem?_eq_getElem lj)
      rw [e]
      exact nmS_ok (cl j) hu
    · refine List.pairwise_iff_getElem.mpr fun i j hi hj lt => ?_
      obtain ⟨u, hu, e⟩ := each i _ (List.getElem?_eq_getElem hi)
      obtain ⟨v, hv, e2⟩ := each j _ (List.getElem?_eq_getElem hj)
      rw [e, e2]
      refine nmS_ne (cl i) (cl j) hu hv fun e3 => ?_
      have a1 := Int.emod_nonneg (g0 + st * (i : Nat)) (by decide : (26 : Int) ≠ 0)
      have a2 := Int.emod_nonneg (g0 + st * (j : Nat)) (by decide : (26 : Int) ≠ 0)
      have e4 : (g0 + st * (i : Nat)) % 26 = (g0 + st * (j : Nat)) % 26 := by omega
      rcases hst with rfl | rfl | rfl | rfl | rfl | rfl <;> omega

theorem sc_lord : FnScope ["_law_bag_here", "_law_row", "_law_left", "_law_found", "_law_turn"] ["_law_bag_here", "_law_row"] (defScope (top 85)) := ⟨rfl, rfl, rfl, by decide +kernel, rfl, by decide +kernel, by decide +kernel⟩
theorem ok_lord (T : Txt P w K mg A) : U.Cl P w K mg base 2 "_law_order_drawn" spLOrd [] := by
  obtain ⟨_, _, _, F_pull, g_pull, k_pull, bd_pull⟩ := (ok_pull (P := P) (w := w) (base := base) T).ex
  obtain ⟨_, d_pull, b_pull⟩ := bd_pull 0 (by decide)
  refine T.d_law_order_drawn.ok sc_lord (fun vs H Q E h => ?_) (fun f cdv Ar outer s H vs Q E hr h => ?_)
  · obtain ⟨b, c, l, xs, rfl, bag, hl, n64, k⟩ := h
    rfl
  · obtain ⟨b, c, l, xs, rfl, bag, hl, n64, k⟩ := h
    refine ⟨_, (pss_cons (ps_set (i := 2) sc_lord.nd rfl (Or.inl rfl) (pe_callTy U.u_listOf (by rfl) T.list (by decide +kernel) (pa_cons (pv 1) pa_nil)))
    (pss_cons (ps_set (i := 3) sc_lord.nd rfl (Or.inl rfl) (pe_lst pa_nil))
    (pss_cons (ps_for (passes_of (by exact rfl)) (by exact rfl) (pi_range1 (by rfl) T.range (pa_cons (pe_callB U.u_len (by rfl) T.len PySem.boot_len (pa_cons (pv 1) pa_nil)) pa_nil)) (pg_name (i := 4) sc_lord.nd rfl (Or.inl rfl))
    (pss_one (ps_expr (pe_bm PySem.F.plainAttrs_list PySem.F.slot_list_append PySem.F.type_list_append mt_append (pv 3) (pa_cons (pe_bm PySem.F.plainAttrs_list PySem.F.slot_list_pop PySem.F.type_list_pop mt_popAt (pv 2) (pa_cons (pe_call F_pull (hr.mono (by decide)) rfl g_pull k_pull b_pull d_pull U.passN (pa_cons (pv 0) (pa_cons (pe_callB U.u_len (by rfl) T.len PySem.boot_len (pa_cons (pv 2) pa_nil)) pa_nil))) pa_nil)) pa_nil)))))
    (pss_one (ps_ret (pv 3)))))), ?_⟩
    walk_at "rq"
    with_reducible refine U.i_seq ?_
    walk_at "rq"
    rename_i z hz H1 s1 oz
    with_reducible refine U.i_seq ?_
    walk_at "rq"
    rename_i f hf H2 s2 of
    have nz := bag_new bag hz
    have nz2 := bag_new2 bag hz
    have hf0 : H f = none := s1.free hf
    have nf := bag_new bag hf0
    have nf2 := bag_new2 bag hf0
    have nzf : z ≠ f := fun e => by rw [e, hf] at oz; cases oz
    have s12 := s1.trans s2
    have hl2 := s12 _ _ hl
    walk_at "rd"
    refine for_it (walk_range (n := xs.length)) (fun i σ H' => ∃ v4, σ = [some (.ref b), some (.ref l), some (.ref z), some (.ref f), v4] ∧ Bag H' b c ∧ But b H H' ∧ ∃ ls fs : List V, H' z = some (.lst (ls)) ∧ H' f = some (.lst (fs)) ∧ (fs ++ ls).Perm xs ∧ fs.length = i) ⟨_, rfl, bag.same s12, fun x o e _ => s12 _ _ e, xs, [], s2 _ _ oz, of, List.Perm.refl _, rfl⟩ (fun _ _ _ _ _ => trivial) ?_ ?_
    rotate_left
    · rintro σ H3 ⟨v4, rfl, hb3, bt3, ls, fs, oz3, of3, pm, fl⟩
      have e0 : ls = [] := by
        have := pm.length_eq
        rw [List.length_append, fl] at this
        exact List.eq_nil_of_length_eq_zero (by omega)
      subst e0
      rw [List.append_nil] at pm
      walk_at "rd"
      exact k f fs H3 hf0 hb3 bt3 pm of3
    rintro i x σ H3 H4 hi ⟨v4, rfl, hb3, bt3, ls, fs, oz3, of3, pm, fl⟩ ⟨rfl, rfl⟩
    have pl := pm.length_eq
    rw [List.length_append, fl] at pl
    walk_at "rd"
    refine spPull.go hb3 (by omega) (by omega) (fun g H5 p0 p1 hb5 bt5 => ?_)
    have oz5 := bt5 _ _ oz3 nz
    have of5 := bt5 _ _ of3 nf
    have gk : g.toNat < ls.length := by omega
    walk_at "rd"
    refine ⟨z, _, g, g.toNat, ls[g.toNat], rfl, rfl, oz5, by omega, by omega, (ixN_seq (U.ixN_of (by omega) gk)).1, List.getElem?_eq_getElem gk, ?_⟩
    have bt6 : But z H5 (upd H5 z (.lst ((ls).eraseIdx g.toNat))) := But.of
    have o6 : upd H5 z (.lst ((ls).eraseIdx g.toNat)) z = some (.lst ((ls.eraseIdx g.toNat))) := upd_same
    generalize upd H5 z (.lst ((ls).eraseIdx g.toNat)) = H6 at bt6 o6 ⊢
    have of6 := bt6 _ _ of5 nzf.symm
    walk_at "rd"
    have bt3' := bt3
    refine ⟨_, rfl, bag_but (bag_but hb5 nz nz2 bt6) nf nf2 But.of, but_new (but_new (but_tr bt3 bt5) hz bt6) hf0 But.of, ls.eraseIdx g.toNat, fs ++ [ls[g.toNat]], (upd_ne nzf).trans o6, upd_same, ?_, by rw [List.length_append, fl]; rfl⟩
    rw [List.append_assoc]
    exact ((cons_erase gk).append_left fs).trans pm

theorem sc_lworldR : FnScope ["_law_bag_here", "_law_upto", "_law_lines", "_law_ringless", "_law_names_here", "_law_mark", "_law_roads", "_law_turn", "_law_one", "_law_other"] ["_law_bag_here", "_law_upto", "_law_lines", "_law_ringless"] (defScope (top 93)) := ⟨rfl, rfl, rfl, by decide +kernel, rfl, by decide +kernel, by decide +kernel⟩
theorem ok_lworldR (T : Txt P w K mg A) : U.Cl P w K mg base 3 "_law_world" spLWorldR [] := by
  obtain ⟨_, _, _, F_pull, g_pull, k_pull, bd_pull⟩ := (ok_pull (P := P) (w := w) (base := base) T).ex
  obtain ⟨_, d_pull, b_pull⟩ := bd_pull 0 (by decide)
  obtain ⟨_, _, _, F_lnames, g_lnames, k_lnames, bd_lnames⟩ := (ok_lnames (P := P) (w := w) (base := base) T).ex
  obtain ⟨_, d_lnames, b_lnames⟩ := bd_lnames 0 (by decide)
  refine T.d_law_world.ok sc_lworldR (fun vs H Q E h => ?_) (fun f cdv Ar outer s H vs Q E hr h => ?_)
  · obtain ⟨b, c, t, u, rl, rfl, bag, t2, t12, u30, k⟩ := h
    rfl
  · obtain ⟨b, c, t, u, rl, rfl, bag, t2, t12, u30, k⟩ := h
    refine ⟨_, (pss_cons (ps_set (i := 4) sc_lworldR.nd rfl (Or.inl rfl) (pe_call F_lnames (hr.mono (by decide)) rfl g_lnames k_lnames b_lnames d_lnames U.passN (pa_cons (pv 0) (pa_cons (pe_op U.u_add pe_int (pe_call F_pull (hr.mono (by decide)) rfl g_pull k_pull b_pull d_pull U.passN (pa_cons (pv 0) (pa_cons (pe_op U.u_sub (pv 1) pe_int) pa_nil)))) pa_nil))))
    (pss_cons (ps_set (i := 5) sc_lworldR.nd rfl (Or.inl rfl) pe_int)
    (pss_cons (ps_set (i := 6) sc_lworldR.nd rfl (Or.inl rfl) (pe_lst pa_nil))
    (pss_cons (ps_for (passes_of (by exact rfl)) (by exact rfl) (pi_range1 (by rfl) T.range (pa_cons (pe_call F_pull (hr.mono (by decide)) rfl g_pull k_pull b_pull d_pull U.passN (pa_cons (pv 0) (pa_cons (pe_op U.u_add (pv 2) pe_int) pa_nil))) pa_nil)) (pg_name (i := 7) sc_lworldR.nd rfl (Or.inl rfl))
    (pss_cons (ps_set (i := 8) sc_lworldR.nd rfl (Or.inl rfl) (pe_call F_pull (hr.mono (by decide)) rfl g_pull k_pull b_pull d_pull U.passN (pa_cons (pv 0) (pa_cons (pe_callB U.u_len (by rfl) T.len PySem.boot_len (pa_cons (pv 4) pa_nil)) pa_nil))))
    (pss_cons (ps_set (i := 9) sc_lworldR.nd rfl (Or.inl rfl) (pe_op U.u_mod (pe_op U.u_add (pe_op U.u_add (pv 8) pe_int) (pe_call F_pull (hr.mono (by decide)) rfl g_pull k_pull b_pull d_pull U.passN (pa_cons (pv 0) (pa_cons (pe_op U.u_sub (pe_callB U.u_len (by rfl) T.len PySem.boot_len (pa_cons (pv 4) pa_nil)) pe_int) pa_nil)))) (pe_callB U.u_len (by rfl) T.len PySem.boot_len (pa_cons (pv 4) pa_nil))))
    (pss_cons (ps_if (pt_val (pv 3))
    (pss_one (ps_par (i := 8) (j := 9) (by exact rfl) sc_lworldR.nd rfl rfl (by decide) rfl rfl (pa_cons (pe_callB (call_min2 (by rfl)) (by rfl) T.min (by decide +kernel) (pa_cons (pv 8) (pa_cons (pv 9) pa_nil))) (pa_cons (pe_callB (call_max2 (by rfl)) (by rfl) T.max (by decide +kernel) (pa_cons (pv 8) (pa_cons (pv 9) pa_nil))) pa_nil)) (by rfl)))
    pss_nil)
    (pss_cons (ps_set (i := 5) sc_lworldR.nd rfl (Or.inl rfl) (pe_op U.u_add (pv 5) (pe_ix ix_list (pe_lst (pa_cons pe_int (pa_cons pe_int (pa_cons pe_int (pa_cons pe_int (pa_cons pe_int pa_nil)))))) (pe_call F_pull (hr.mono (by decide)) rfl g_pull k_pull b_pull d_pull U.passN (pa_cons (pv 0) (pa_cons pe_int pa_nil))) (fun _ _ => rfl))))
    (pss_one (ps_expr (pe_bm PySem.F.plainAttrs_list PySem.F.slot_list_append PySem.F.type_list_append mt_append (pv 6) (pa_cons (pe_tup (pa_cons (pv 5) (pa_cons (pe_ix ix_list (pv 4) (pv 8) (fun _ _ => rfl)) (pa_cons (pe_ix ix_list (pv 4) (pv 9) (fun _ _ => rfl)) (pa_cons (pe_op U.u_add pe_int (pe_call F_pull (hr.mono (by decide)) rfl g_pull k_pull b_pull d_pull U.passN (pa_cons (pv 0) (pa_cons pe_int pa_nil)))) pa_nil))))) pa_nil)))))))))
    (pss_one (ps_ret (pe_tup (pa_cons (pv 4) (pa_cons (pv 6) pa_nil))))))))), ?_⟩
    walk_at "rq"
    with_reducible refine U.i_seq ?_
    walk_at "rq"
    refine spPull.go bag (by omega) (by omega) (fun g0 H1 p0 p1 hb1 bt1 => ?_)
    walk_at "rq"
    obtain ⟨t1, et⟩ : ∃ t1 : Nat, 2 + g0 = (t1 : Int) := ⟨(2 + g0).toNat, by omega⟩
    rw [et]
    refine ⟨b, c, t1, rfl, hb1, by omega, fun l ns H2 hl hb2 bt2 nms ol => ?_⟩
    have bt02 := but_tr bt1 bt2
    have nl := bag_new hb1 hl
    have nl2 := bag_new2 hb1 hl
    have fl : H l = none := but_free bt1 nl hl
    have tl := nms.len
    clear bt1 bt2 hb1 bag
    walk_at "rq"
    with_reducible refine U.i_seq ?_
    walk_at "rq"
    with_reducible refine U.i_seq ?_
    walk_at "rq"
    rename_i m hm H3 s3 om
    have nm := bag_new hb2 hm
    have nm2 := bag_new2 hb2 hm
    have nlm : l ≠ m := fun e => by rw [← e, ol] at hm; cases hm
    have fm : H m = none := but_free bt02 nm hm
    have ol3 := s3 _ _ ol
    have hb3 := hb2.same s3
    have bt03 := but_sm bt02 s3
    clear hl hm s3 ol hb2 bt02
    with_reducible refine U.i_seq ?_
    walk_at "rq"
    refine spPull.go hb3 (by omega) (by omega) (fun g1 H4 p2 p3 hb4 bt4 => ?_)
    have ol4 := bt4 _ _ ol3 nl
    have om4 := bt4 _ _ om nm
    have bt04 := but_tr bt03 bt4
    clear ol3 om bt03 bt4 hb3
    walk_at "rq"
    refine for_it (walk_range (n := g1.toNat)) (fun i σ H' => ∃ v7 v8 v9 mk, σ = [some (.ref b), some (.int (t : Nat)), some (.int (u : Nat)), some (.bl rl), some (.ref l), some (.int mk), some (.ref m), v7, v8, v9] ∧ Bag H' b c ∧ But b H H' ∧ H' l = some (.lst (ns.map V.str)) ∧ ∃ as rs, H' m = some (.lst (as.map V.ref)) ∧ RoadsAt H' as rs ∧ rs.length = i ∧ 0 ≤ mk ∧ mk ≤ 3 * (i : Int) ∧ (∀ r ∈ rs, RoadOk ns r ∧ r.1 ≤ mk ∧ (rl = true → UpR ns r)) ∧ rs.Pairwise fun a b : Road => a.1 < b.1) ⟨_, _, _, 0, rfl, hb4, bt04, ol4, [], [], om4, .nil, rfl, by omega, by omega, (fun r m => nomatch m), .nil⟩ (fun _ _ _ _ _ => trivial) ?_ ?_
    rotate_left
    · rintro σ H5 ⟨v7, v8, v9, mk, rfl, hb5, bt05, ol5, as, rs, om5, ra5, len, k0, k3, each, up⟩
      walk_at "rq"
      rename_i p hp H6 s6 op
      exact k p l m ns as rs H6 (but_free bt05 (bag_new hb5 hp) hp) fl fm (hb5.same s6) (but_sm bt05 s6) ⟨⟨rfl, nms.good, nms.nd, nms.kind⟩, by omega, up, fun r m => ⟨(each r m).1, by have := (each r m).2.1; omega⟩⟩ (fun e r m => (each r m).2.2 e) op (s6 _ _ ol5) (s6 _ _ om5) (ra5.same s6) nlm
    rintro i x σ H5 H6 hi ⟨v7, v8, v9, mk, rfl, hb5, bt05, ol5, as, rs, om5, ra5, len, k0, k3, each, up⟩ ⟨rfl, rfl⟩
    clear hb4 bt04 ol4 om4
    have al := ra5.len
    walk_at "rq"
    with_reducible refine U.i_seq ?_
    walk_at "rq"
    rw [List.length_map]
    refine spPull.go hb5 (by omega) (by omega) (fun g2 Ha q0 q1 hba bta => ?_)
    have ola := bta _ _ ol5 nl
    have oma := bta _ _ om5 nm
    have raa := roads_bag ra5 hb5 bta
    have bt0a := but_tr bt05 bta
    clear ol5 om5 ra5 bt05 bta hb5
    walk_at "rq"
    with_reducible refine U.i_seq ?_
    walk_at "rq"
    rw [List.length_map]
    refine spPull.go hba (by omega) (by omega) (fun g3 Hb q2 q3 hbb btb => ?_)
    have olb := btb _ _ ola nl
    have omb := btb _ _ oma nm
    have rab := roads_bag raa hba btb
    have bt0b := but_tr bt0a btb
    clear ola oma raa bt0a btb hba
    walk_at "rq"
    rw [List.length_map]
    refine U.i_mod (by omega) ?_
    obtain ⟨o, eo, o0, o1, on⟩ : ∃ o : Int, (g2 + 1 + g3) % (ns.length : Int) = o ∧ 0 ≤ o ∧ o < ns.length ∧ o ≠ g2 := by
      rcases Int.lt_or_le (g2 + 1 + g3) (ns.length : Int) with lt | ge
      · exact ⟨g2 + 1 + g3, Int.emod_eq_of_lt (by omega) lt, by omega, lt, by omega⟩
      · refine ⟨g2 + 1 + g3 - ns.length, ?_, by omega, by omega, by omega⟩
        rw [← Int.emod_eq_of_lt (a := g2 + 1 + g3 - ns.length) (b := (ns.length : Int)) (by omega) (by omega), Int.sub_emod_right]
    rw [eo]
    clear eo q2 q3
    walk_at "rq"
    with_reducible refine U.i_seqG (fun σ' H' => ∃ a1 a2 : Int, σ' = [some (.ref b), some (.int (t : Nat)), some (.int (u : Nat)), some (.bl rl), some (.ref l), some (.int mk), some (.ref m), some (.int (0 + (i : Nat))), some (.int a1), some (.int a2)] ∧ H' = Hb ∧ 0 ≤ a1 ∧ a1 < ns.length ∧ 0 ≤ a2 ∧ a2 < ns.length ∧ a1 ≠ a2 ∧ (rl = true → a1 < a2)) ?rest1 (fun _ rest1 => ?first1)
    case first1 =>
      walk_at "rq"
      cases rl with
      | false =>
        refine U.iteF' ?_
        walk_at "rq"
        exact rest1 _ _ ⟨g2, o, rfl, rfl, q0, q1, o0, o1, fun e => on e.symm, nofun⟩
      | true =>
        refine U.iteT' ?_
        walk_at "rq"
        refine ⟨g2, o, rfl, ?_⟩
        walk_at "rq"
        refine ⟨g2, o, rfl, ?_⟩
        walk_at "rq"
        rcases Int.lt_or_le o g2 with lt | ge
        · rw [if_pos lt, if_neg (by omega)]
          exact rest1 _ _ ⟨o, g2, rfl, rfl, o0, o1, q0, q1, on, fun _ => lt⟩
        · rw [if_neg (by omega), if_pos (by omega)]
          exact rest1 _ _ ⟨g2, o, rfl, rfl, q0, q1, o0, o1, fun e => on e.symm, fun _ => by omega⟩
    case rest1 =>
    clear q0 q1 o0 o1 on
    rintro σ' H' ⟨a1, a2, rfl, rfl, q0, q1, o0, o1, on, onl⟩
    have eN : ∀ (j : Int), 0 ≤ j → j < ns.length → ∃ nm, nm ∈ ns ∧ (ns.map V.str)[j.toNat]? = some (.str nm) ∧ ns[j.toNat]? = some nm := fun j j0 j1 => by
      have lj : j.toNat < ns.length := by omega
      exact ⟨ns[j.toNat], List.getElem_mem lj, by rw [List.getElem?_map, List.getElem?_eq_getElem lj]; rfl, List.getElem?_eq_getElem lj⟩
    obtain ⟨n1, m1, en1, f1⟩ := eN a1 q0 q1
    obtain ⟨n2, m2, en2, f2⟩ := eN a2 o0 o1
    have nn : n1 ≠ n2 := fun e => by
      rw [← e] at f2
      obtain ⟨l1, e1⟩ := List.getElem?_eq_some_iff.mp f1
      obtain ⟨l2, e2⟩ := List.getElem?_eq_some_iff.mp f2
      exact nodup_ne15 nms.nd l1 l2 (by omega) (e1.trans e2.symm)
    have upr : rl = true → ∃ i j : Nat, i < j ∧ ns[i]? = some n1 ∧ ns[j]? = some n2 := fun e => ⟨a1.toNat, a2.toNat, by have := onl e; omega, f1, f2⟩
    clear eN f1 f2
    walk_at "rq"
    with_reducible refine U.i_seq ?_
    walk_at "rq"
    rename_i z hz Hc sc oz
    have nz := bag_new hbb hz
    have hbc := hbb.same sc
    have olc := sc _ _ olb
    have omc := sc _ _ omb
    have rac := rab.same sc
    have bt0c := but_sm bt0b sc
    clear hz sc hbb olb omb rab bt0b
    refine spPull.go hbc (by omega) (by omega) (fun g4 Hd q4 q5 hbd btd => ?_)
    have old := btd _ _ olc nl
    have omd := btd _ _ omc nm
    have ozd := btd _ _ oz nz
    have rad := roads_bag rac hbc btd
    have bt0d := but_tr bt0c btd
    clear olc omc rac bt0c btd hbc oz
    obtain ⟨st, est, st1, st3⟩ : ∃ st : Int, atI [V.int 1, V.int 1, V.int 1, V.int 2, V.int 3] g4 = some (V.int st) ∧ 1 ≤ st ∧ st ≤ 3 := by
      have h5 : g4 = 0 ∨ g4 = 1 ∨ g4 = 2 ∨ g4 = 3 ∨ g4 = 4 := by omega
      rcases h5 with rfl | rfl | rfl | rfl | rfl <;> exact ⟨_, rfl, by decide, by decide⟩
    refine U.i_ixL (SqL.of ozd) est ?_
    walk_at "rq"
    refine U.i_ixL (SqL.of old) (U.atI_of (j := a1.toNat) (by omega) en1) ?_
    walk_at "rq"
    refine U.i_ixL (SqL.of old) (U.atI_of (j := a2.toNat) (by omega) en2) ?_
    walk_at "rq"
    refine spPull.go hbd (by omega) (by omega) (fun g5 He q6 q7 hbe bte => ?_)
    have ole := bte _ _ old nl
    have ome := bte _ _ omd nm
    have rae := roads_bag rad hbd bte
    have bt0e := but_tr bt0d bte
    clear old omd rad bt0d bte hbd ozd
    walk_at "rq"
    rename_i p hp Hf sf op
    have omf := sf _ _ ome
    have bt : But m Hf (upd Hf m (.lst (as.map V.ref ++ [.ref p]))) := But.of
    exact ⟨_, _, _, mk + st, rfl, bag_but (hbe.same sf) nm nm2 bt, but_new (but_sm bt0e sf) fm bt, (upd_ne nlm).trans (sf _ _ ole), as ++ [p], rs ++ [(mk + st, n1, n2, 1 + g5)], by rw [List.map_append]; exact upd_same, ((rae.same sf).list omf bt).app (.cons (bt _ _ op (U.ne_of_get op omf nofun)) .nil), by rw [List.length_append, len]; rfl, by omega, by omega, fun r mr => (by
      rcases List.mem_append.mp mr with mr | mr
      · exact ⟨(each r mr).1, by have := (each r mr).2.1; omega, (each r mr).2.2⟩
      · rw [List.mem_singleton.mp mr]
        exact ⟨⟨by show 1 ≤ mk + st; omega, m1, m2, nn, by show 1 ≤ 1 + g5; omega, by show 1 + g5 ≤ 4; omega⟩, Int.le_refl _, upr⟩), List.pairwise_append.mpr ⟨up, List.pairwise_singleton _ _, fun a ma z mz => (by
      rw [List.mem_singleton.mp mz]
      show a.1 < mk + st
      have := (each a ma).2.1
      omega)⟩⟩

theorem sc_lgoneR : FnScope ["_law_bag_here", "_law_roads", "_law_upto", "_law_found", "_law_row"] ["_law_bag_here", "_law_roads", "_law_upto"] (defScope (top 81)) := ⟨rfl, rfl, rfl, by decide +kernel, rfl, by decide +kernel, by decide +kernel⟩
theorem ok_lgoneR (T : Txt P w K mg A) : U.Cl P w K mg base 2 "_law_gone" spLGoneR [] := by
  obtain ⟨_, _, _, F_pull, g_pull, k_pull, bd_pull⟩ := (ok_pull (P := P) (w := w) (base := base) T).ex
  obtain ⟨_, d_pull, b_pull⟩ := bd_pull 0 (by decide)
  refine T.d_law_gone.ok sc_lgoneR (fun vs H Q E h => ?_) (fun f cdv Ar outer s H vs Q E hr h => ?_)
  · obtain ⟨b, c, m, as, rs, up, rfl, bag, hm, ra, u10, k⟩ := h
    rfl
  · obtain ⟨b, c, m, as, rs, up, rfl, bag, hm, ra, u10, k⟩ := h
    refine ⟨_, (pss_cons (ps_set (i := 3) sc_lgoneR.nd rfl (Or.inl rfl) (pe_lst pa_nil))
    (pss_cons (ps_for (passes_of (by exact rfl)) (by exact rfl) (pi_list (pv 1)) (pg_name (i := 4) sc_lgoneR.nd rfl (Or.inl rfl))
    (pss_one (ps_if (PW.pt (pw_and (pt_cmpR U.u_lt (pe_callB U.u_len (by rfl) T.len PySem.boot_len (pa_cons (pv 3) pa_nil)) (pv 2) (nomark _)) (pw_and1 (pt_cmpR op_eq (pe_call F_pull (hr.mono (by decide)) rfl g_pull k_pull b_pull d_pull U.passN (pa_cons (pv 0) (pa_cons pe_int pa_nil))) pe_int (nomark _)))))
    (pss_one (ps_expr (pe_bm PySem.F.plainAttrs_list PySem.F.slot_list_append PySem.F.type_list_append mt_append (pv 3) (pa_cons (pe_ix ix_tup (pv 4) pe_int (fun _ _ => rfl)) pa_nil))))
    pss_nil)))
    (pss_one (ps_ret (pe_callTy U.u_tupleOf (by rfl) T.tuple (by decide +kernel) (pa_cons (pv 3) pa_nil)))))), ?_⟩
    have mb := refs_ne_bag bag hm
    walk_at "wt"
    with_reducible refine U.i_seq ?_
    walk_at "wt"
    rename_i f hf H1 s1 of
    have nf := bag_new bag hf
    have nf2 := bag_new2 bag hf
    have hb1 := bag.same s1
    have nmf : m ≠ f := fun e => by rw [← e, hm] at hf; cases hf
    with_reducible refine U.i_seq ?_
    walk_at "wt"
    refine for_it walk_list (fun i σ H' => ∃ v4, σ = [some (.ref b), some (.ref m), some (.int (up : Nat)), some (.ref f), v4] ∧ Bag H' b c ∧ But b H H' ∧ ∃ ls : List Int, H' f = some (.lst (ls.map V.int)) ∧ ls.Sublist ((rs.take i).map (·.1)) ∧ ls.length ≤ up) ⟨_, rfl, hb1, fun x o e _ => s1 _ _ e, [], of, List.nil_sublist _, Nat.zero_le _⟩ (fun i σ H' _ h => by obtain ⟨_, _, _, bt, _⟩ := h; exact SqL.of (bt _ _ hm mb)) ?_ ?_
    rotate_left
    · rintro σ H2 ⟨v4, rfl, hb2, bt2, ls, of2, inr, len⟩
      rw [List.length_map, ra.len, List.take_length] at inr
      walk_at "wt"
      rename_i p hp H3 s3 op
      exact k p ls H3 (but_free bt2 (bag_new hb2 hp) hp) (hb2.same s3) (but_sm bt2 s3) op inr len
    rintro i v σ H2 H3 hi ⟨v4, rfl, hb2, bt2, ls, of2, inr, len⟩ ⟨rfl, hy⟩
    rw [List.getElem?_map] at hy
    obtain ⟨a, ea, rfl⟩ := Option.map_eq_some_iff.mp hy
    obtain ⟨r, er, hr⟩ := ra.get i a ea
    have nab : a ≠ b := bag_tup bag hr
    have stay : ls.Sublist ((rs.take (i + 1)).map (·.1)) := by
      rw [U.take_succ_of er, List.map_append]
      exact inr.trans (List.sublist_append_left _ _)
    walk_at "wt"
    refine U.ited (fun z => ?_) (fun z => ?_)
    rotate_left
    · walk_at "wt"
      exact ⟨_, rfl, hb2, bt2, ls, of2, stay, len⟩
    rw [List.length_map] at z
    walk_at "wt"
    refine spPull.go hb2 (by decide) (by decide) (fun g H4 p0 p1 hb4 bt4 => ?_)
    have of4 := bt4 _ _ of2 nf
    have bt04 := but_tr bt2 bt4
    have hr4 : H4 a = some (.tup [V.int r.1, .str r.2.1, .str r.2.2.1, .int r.2.2.2]) := bt04 _ _ hr nab
    walk_at "wt"
    refine U.ited (fun z2 => ?_) (fun z2 => ?_)
    rotate_left
    · walk_at "wt"
      exact ⟨_, rfl, hb4, bt04, ls, of4, stay, len⟩
    walk_at "wt"
    refine U.i_ixT (SqT.of hr4) (U.atI_of (j := 0) rfl rfl) ?_
    walk_at "wt"
    have bf : But f H4 (upd H4 f (.lst (ls.map V.int ++ [.int r.1]))) := But.of
    refine ⟨_, rfl, bag_but hb4 nf nf2 bf, but_new bt04 hf bf, ls ++ [r.1], by rw [List.map_append]; exact upd_same, by
      rw [U.take_succ_of er, List.map_append]
      exact inr.append (List.Sublist.refl _), by rw [List.length_append]; show _ + 1 ≤ _; omega⟩

theorem sc_lplain : FnScope ["_law_world_here", "_law_mesh", "_law_name", "_law_mark", "_law_one", "_law_other", "_law_lag"] ["_law_world_here"] (defScope (top 86)) := ⟨rfl, rfl, rfl, by decide +kernel, rfl, by decide +kernel, by decide +kernel⟩
theorem ok_lplain (T : Txt P w K mg A) : U.Cl P w K mg base 4 "_law_plain_net" (spLPlain A) [] := by
  obtain ⟨_, _, _, F_ninit, M_ninit, g_ninit, bd_ninit⟩ := (ok_ninit (P := P) (w := w) (base := base) T).ex
  obtain ⟨_, d_ninit, b_ninit⟩ := bd_ninit 0 (by decide)
  obtain ⟨_, _, _, F_nhouse, c_nhouse, m_nhouse, bd_nhouse⟩ := (ok_nhouse (P := P) (w := w) (base := base) T).ex
  obtain ⟨_, d_nhouse, b_nhouse⟩ := bd_nhouse 0 (by decide)
  refine T.d_law_plain_net.ok sc_lplain (fun vs H Q E h => ?_) (fun f cdv Ar outer s H vs Q E hr h => ?_)
  · obtain ⟨w9, l, m, ns, as, rs, rfl, hw, hl, hm, ra, pu, k⟩ := h
    rfl
  · obtain ⟨w9, l, m, ns, as, rs, rfl, hw, hl, hm, ra, pu, k⟩ := h
    obtain ⟨_, _, F_nline, c_nline, m_nline, ⟨_, d_nline, b_nline⟩, _, bk2_nline⟩ := (ok_nline (P := P) (w := w) (base := base) T).ex
    have cN := T.c_Net
    have a1 := T.na_Net_named
    have a2 := T.na_Net_roads
    refine ⟨_, (pss_cons (ps_set (i := 1) sc_lplain.nd rfl (Or.inl rfl) (pe_make0 M_ninit F_ninit (hr.mono (by decide)) rfl g_ninit b_ninit d_ninit U.passN))
    (pss_cons (ps_for (passes_of (by exact rfl)) (by exact rfl) (pi_list (pe_ix ix_tup (pv 0) pe_int (fun _ _ => rfl))) (pg_name (i := 2) sc_lplain.nd rfl (Or.inl rfl))
    (pss_one (ps_expr (pe_meth (pv 1) c_nhouse m_nhouse F_nhouse (hr.mono (by decide)) b_nhouse d_nhouse U.passN (pa_cons (pv 2) pa_nil)))))
    (pss_cons (ps_for (passes_of (by exact rfl)) (by exact rfl) (pi_list (pe_revL (pe_ix ix_tup (pv 0) pe_int (fun _ _ => rfl)))) (pg_tup (by exact rfl) (pgs_cons (pg_name (i := 3) sc_lplain.nd rfl (Or.inl rfl)) (pgs_cons (pg_name (i := 4) sc_lplain.nd rfl (Or.inl rfl)) (pgs_cons (pg_name (i := 5) sc_lplain.nd rfl (Or.inl rfl)) (pgs_cons (pg_name (i := 6) sc_lplain.nd rfl (Or.inl rfl)) pgs_nil)))))
    (pss_one (ps_expr (U.pe_methN (pv 1) c_nline m_nline F_nline (hr.mono (by decide)) bk2_nline U.passN (pa_cons (pv 4) (pa_cons (pv 5) pa_nil)) (pk_cons (pv 3) (pk_cons (pv 6) pk_nil))))))
    (pss_one (ps_ret (pv 1)))))), ?_⟩
    have al := ra.len
    have few := pu.few
    walk_at "rq"
    with_reducible refine U.i_seq ?_
    walk_at "rq"
    refine U.i_make ?_
    walk_at "rd"
    intro x dx np ndx nep
    refine ⟨x, dx, rfl, upd_same, fun nd rd H1 hnd hrd kp na => ⟨rfl, ?_⟩⟩
    have s1 := Same.made np ndx kp
    clear kp
    have fnd : H nd = none := (upd_none (upd_none hnd).2).2
    have frd : H rd = none := (upd_none (upd_none hrd).2).2
    walk_at "rq"
    with_reducible refine U.i_seq ?_
    walk_at "rq"
    refine U.i_ixT (SqT.of (s1 _ _ hw)) (U.atI_of (j := 0) rfl rfl) ?_
    have hl1 := s1 _ _ hl
    walk_at "rq"
    refine for_it walk_list (fun i σ H' => ∃ v3 v4 v5 v6 v7, σ = [some (.ref w9), some (.ref x), v3, v4, v5, v6, v7] ∧ Same H H' ∧ NetA A H' x nd rd (ns.take i) [] []) ⟨_, _, _, _, _, rfl, s1, na⟩ (fun i σ H' _ h => by obtain ⟨_, _, _, _, _, _, h, _⟩ := h; exact SqL.of (h _ _ hl)) ?_ ?_
    · rintro i y σ H6 H7 hi ⟨v3, v4, v5, v6, v7, rfl, s6, na6⟩ ⟨rfl, hy⟩
      rw [List.getElem?_map] at hy
      obtain ⟨nm, en, rfl⟩ := Option.map_eq_some_iff.mp hy
      obtain ⟨dx6, hx6⟩ := na6.obj
      rw [List.length_map] at hi
      walk_at "nt"
      refine ⟨x, nd, rd, ns.take i, [], [], nm, rfl, na6, pu.good nm (List.mem_of_getElem? en), fun m => ?_, by rw [List.length_take]; omega, fun H8 bt8 na8 => ?_⟩
      · have hh := pu.nd
        rw [← List.take_append_drop i ns] at hh
        exact (List.nodup_append.mp hh).2.2 nm m nm (List.mem_of_getElem? (i := 0) (by rw [List.getElem?_drop]; exact en)) rfl
      walk_at "nt"
      exact ⟨_, _, _, _, _, rfl, fun b o e => bt8 _ _ (s6 _ _ e) (ne_of_none e fnd), by rw [U.take_succ_of en]; exact na8⟩
    rintro σ H6 ⟨v3, v4, v5, v6, v7, rfl, s6, na6⟩
    rw [List.length_map, List.take_length] at na6
    clear na s1 hnd hrd hl1
    walk_at "rq"
    with_reducible refine U.i_seq ?_
    walk_at "rq"
    refine i_revL ?_
    walk_at "rq"
    refine U.i_ixT (SqT.of (s6 _ _ hw)) (U.atI_of (j := 1) rfl rfl) ?_
    refine ⟨m, _, rfl, SqL.of (s6 _ _ hm), fun pr hpr => ?_⟩
    have s7 : Same H6 (upd H6 pr (.lst (as.map V.ref).reverse)) := same_new hpr
    have o7 : upd H6 pr (.lst (as.map V.ref).reverse) pr = some (.lst (as.reverse.map V.ref)) := by rw [upd_same, List.map_reverse]
    generalize upd H6 pr (.lst (as.map V.ref).reverse) = H7 at s7 o7 ⊢
    have rl : RoadsAt H7 as.reverse rs.reverse := All2_rev ((ra.same s6).same s7)
    have na7 := na6.same s7
    have s67 := s6.trans s7
    have bl := rl.len
    have pll : rs.reverse.length = rs.length := List.length_reverse
    have lnd : (rs.reverse.map fun r : Road => r.1).Nodup := ((List.reverse_perm rs).map fun r : Road => r.1).nodup_iff.mpr pu.rn
    have npn : pr ≠ nd := fun e => by rw [e, na6.nm] at hpr; cases hpr
    have npr : pr ≠ rd := fun e => by rw [e, na6.ro] at hpr; cases hpr
    clear s7 s6 na6 hpr
    walk_at "rq"
    refine for_it walk_list (fun i σ H' => ∃ v3 v4 v5 v6 v7, σ = [some (.ref w9), some (.ref x), v3, v4, v5, v6, v7] ∧ Same H H' ∧ H' pr = some (.lst (as.reverse.map V.ref)) ∧ RoadsAt H' as.reverse rs.reverse ∧ ∃ qs, NetA A H' x nd rd ns qs (rs.reverse.take i)) ⟨_, _, _, _, _, rfl, s67, o7, rl, [], na7⟩ (fun i σ H' _ h => by obtain ⟨_, _, _, _, _, _, _, h, _⟩ := h; exact SqL.of h) ?_ ?_
    rotate_left
    · rintro σ H8 ⟨v3, v4, v5, v6, v7, rfl, s8, _, _, qs, na8⟩
      rw [List.length_map, bl, List.take_length] at na8
      walk_at "rq"
      exact k x rs.reverse H8 s8 (List.reverse_perm rs) ⟨nd, rd, qs, na8⟩
    clear rl o7 na7 s67
    rintro i v σ H8 H9 hi ⟨v3, v4, v5, v6, v7, rfl, s8, opr, rl, qs, na8⟩ ⟨rfl, hy⟩
    rw [List.getElem?_map] at hy
    obtain ⟨a, ea, rfl⟩ := Option.map_eq_some_iff.mp hy
    obtain ⟨r, er, hr⟩ := rl.get i a ea
    have mr : r ∈ rs := (List.reverse_perm rs).mem_iff.mp (List.mem_of_getElem? er)
    obtain ⟨⟨o1, o2, o3, o4, o5, o6⟩, o99⟩ := pu.ok r mr
    have hr3 : H9 a = some (.tup [V.int r.1, .str r.2.1, .str r.2.2.1, .int r.2.2.2]) := hr
    obtain ⟨dx8, hx8⟩ := id na8.obj
    rw [List.length_map] at hi
    walk_at "rq"
    refine U.i_methN ?_
    walk_at "rq"
    walk_at "rq"
    refine ⟨x, nd, rd, ns, qs, rs.reverse.take i, r.2.1, r.2.2.1, r.2.2.2, r.1, .int r.1, rfl, na8, o2, o3, o4, o5, o6, o1, o99, fun m => ?_, by rw [List.length_take]; omega, .inl rfl, fun t He bte ne => ?_⟩
    · have hh := lnd
      rw [← List.take_append_drop i rs.reverse, List.map_append] at hh
      exact (List.nodup_append.mp hh).2.2 r.1 m r.1 (List.mem_map.mpr ⟨r, List.mem_of_getElem? (i := 0) (by rw [List.getElem?_drop]; exact er), rfl⟩) rfl
    have ro8 := na8.ro
    refine ⟨_, _, _, _, _, rfl, fun b o e => bte _ _ (s8 _ _ e) (ne_of_none e frd), bte _ _ opr npr, roads_dict rl ro8 bte, _, by rw [U.take_succ_of er]; exact ne⟩

end
end Lw
end

section
set_option Elab.async false
set_option linter.all false
set_option maxRecDepth 100000
set_option maxHeartbeats 4000000
/-! ### own steps (local) -/
local macro_rules | `(tactic| walk_at "hp") => `(tactic| first
  | assumption
  | exact L2.upd_same
  | ((with_reducible refine U.upd_new ?_ ?_); (focus (first | assumption | done)); walk_at "hp")
  | ((with_reducible refine U.upd_ne'' ?_ ?_); (focus (first | assumption | (apply Ne.symm; assumption))); walk_at "hp")
  | ((with_reducible refine' U.Same.get ?hx ?hy); (case hx => assumption); (case hy => walk_at "hp"))
  | ((with_reducible refine' U.ExtN.lst ?hx ?hy); (case hx => assumption); (case hy => walk_at "hp"))
  | ((with_reducible refine' U.ExtN.tup ?hx ?hy); (case hx => assumption); (case hy => walk_at "hp"))
  | ((with_reducible refine' U.ExtN.ins ?hx ?hy); (case hx => assumption); (case hy => walk_at "hp"))
  | fail "hp")
local macro_rules | `(tactic| walk_at "lay") => `(tactic| (intro p hn; generalize hg : L2.upd _ p _ = H'; have hs := U.same_of hg hn; have ho := U.at_of hg; clear hg))
local macro_rules | `(tactic| walk_at "sz") => `(tactic| first | decide | (show _ ≤ PySem.sizeLine; rw [PySem.sizeLine_eq]; (try simp only [List.length_cons, List.length_nil, List.length_map]); omega))
local macro_rules | `(tactic| walk_at "ref'") => `(tactic| skip)
local macro_rules | `(tactic| walk_at "rd1") => `(tactic| first
  | (with_reducible refine' U.i_seq ?_)
  | (with_reducible refine' U.i_asg ?_)
  | (with_reducible refine' U.i_ret ?_)
  | (with_reducible refine' U.i_ifS ?_)
  | (with_reducible refine' U.i_drop ?_)
  | ((with_reducible refine' U.i_var ?hx ?_); (case hx => rfl))
  | (with_reducible refine' U.i_c ?_)
  | (with_reducible refine' U.i_op ?_)
  | (with_reducible refine' U.i_un ?_)
  | (with_reducible refine' U.i_name ?_)
  | (with_reducible refine' U.i_gsub ?_)
  | (with_reducible refine' U.i_test ?_)
  | (with_reducible refine' U.i_tB ?_)
  | (with_reducible refine' U.i_bl ?_)
  | (with_reducible refine' U.i_not ?_)
  | (with_reducible refine' U.i_nil ?_)
  | (with_reducible refine' U.i_cons ?_)
  | (with_reducible refine' U.i_cb ?_)
  | (with_reducible refine' U.i_call ?_)
  | (with_reducible refine' U.i_fld ?_)
  | ((with_reducible refine' U.i_fld' ?hx ?hy ?hz ?hw ?_); (case hx => walk_at "hp"); (case hy => assumption); (case hz => assumption); (case hw => rfl))
  | (with_reducible refine' U.i_meth ?_)
  | ((with_reducible refine' U.i_meth' ?hx ?hy ?_); (case hx => walk_at "hp"); (case hy => rfl))
  | (with_reducible refine' U.i_add ?_)
  | (with_reducible refine' U.i_sub ?_)
  | ((with_reducible refine' U.i_mul ?hx ?_); (case hx => (first | (left; constructor <;> omega) | (right; constructor <;> omega))))
  | ((with_reducible refine' U.i_mod ?hx ?_); (case hx => omega))
  | ((with_reducible refine' U.i_fdiv ?hx ?_); (case hx => (constructor <;> omega)))
  | ((with_reducible refine' U.i_pow ?hx ?_); (case hx => (refine ⟨?_, ?_, ?_⟩ <;> decide)))
  | (with_reducible refine' U.i_lt ?_)
  | (with_reducible refine' U.i_le ?_)
  | (with_reducible refine' U.i_gt ?_)
  | (with_reducible refine' U.i_ge ?_)
  | (with_reducible refine' U.i_eqI ?_)
  | (with_reducible refine' U.i_neI ?_)
  | (with_reducible refine' U.i_rU ?_)
  | (with_reducible refine' U.i_abs ?_)
  | (with_reducible refine' U.i_callN ?_)
  | ((with_reducible refine' U.i_lens ?hx ?hy ?_); (case hx => rfl); (case hy => rfl))
  | ((with_reducible refine' U.i_ixL ?hx ?hy ?_); (case hx => exact L2.SqL.of (by walk_at "hp")); (case hy => rfl))
  | ((with_reducible refine' U.i_lenL ?hx ?_); (case hx => exact L2.SqL.of (by walk_at "hp")))
  | ((with_reducible refine' U.i_setL ?hx ?hy ?_); (case hx => walk_at "hp"); (case hy => rfl))
  | (with_reducible refine' U.i_augS ?_)
  | ((with_reducible refine' U.i_aug ?hx ?_); (case hx => rfl))
  | (with_reducible refine' U.i_ipI ?_)
  | ((with_reducible refine' U.i_ipMul ?hx ?_); (case hx => (first | (left; constructor <;> omega) | (right; constructor <;> omega))))
  | ((with_reducible refine' U.i_gtup ?hx ?hy ?_); (case hx => exact L2.SqT.of (by walk_at "hp")); (case hy => rfl))
  | (with_reducible refine' U.i_gcons ?_)
  | (with_reducible refine' U.i_gnil ?_)
  | ((with_reducible refine' U.i_divmod ?hx ?_); (case hx => (constructor <;> omega)); walk_at "lay")
  | (with_reducible refine' U.i_tup ?_)
  | (with_reducible refine' U.i_lst ?_)
  | ((with_reducible refine' U.lay_and ?hx ?_); (case hx => walk_at "sz"); walk_at "lay")
  | (with_reducible refine' U.i_sl ?_)
  | (with_reducible refine' U.i_part ?_)
  | (with_reducible refine' U.i_part' ?_)
  | (with_reducible refine' U.i_nopart ?_)
  | ((with_reducible refine' U.i_slL ?hx ?_); (case hx => exact L2.SqL.of (by walk_at "hp")); walk_at "lay")
  | (with_reducible refine' U.i_bm ?_)
  | ((with_reducible refine' U.i_bm' ?hx ?_); (case hx => walk_at "hp"))
  | ((with_reducible refine' U.i_append ?hx ?hy ?_); (case hx => walk_at "hp"); (case hy => walk_at "szl"))
  | ((with_reducible refine' U.i_chLL ?hx ?hy ?_); (case hx => rfl); (case hy => rfl))
  | (with_reducible refine' U.i_chain ?_)
  | (with_reducible refine' U.i_rng1 ?_)
  | ((with_reducible refine' U.i_rng1' ?hx ?hy ?_); (case hx => omega); (case hy => omega))
  | (with_reducible refine' U.i_rng2 ?_)
  | ((with_reducible refine' U.i_rng2' ?hx ?_); (case hx => (refine ⟨?_, ?_, ?_, ?_⟩ <;> omega)))
  | (with_reducible refine' U.i_rng3 ?_)
  | (with_reducible refine' U.i_enum ?_)
  | ((with_reducible refine' U.i_enum' ?hx ?_); (case hx => exact L2.SqL.of (by walk_at "hp")))
  | (with_reducible refine' U.i_enumT ?_)
  | ((with_reducible refine' U.i_enumT' ?hx ?_); (case hx => exact L2.SqT.of (by walk_at "hp")))
  | (with_reducible refine' U.i_rev ?_)
  | ((with_reducible refine' U.i_rev' ?hx ?_); (case hx => exact L2.SqL.of (by walk_at "hp")))
  | (with_reducible refine' U.i_plist ?_)
  | ((with_reducible refine' U.i_plist' ?hx ?_); (case hx => exact L2.SqL.of (by walk_at "hp")))
  | (with_reducible refine' U.i_for ?_)
  | (with_reducible refine' U.i_sfld ?_)
  | ((with_reducible refine' U.i_sfld' ?hx ?hy ?hz ?hw ?_); (case hx => walk_at "hp"); (case hy => assumption); (case hz => assumption); (case hw => exact Nat.le_of_ble_eq_true rfl))
  | (with_reducible refine' U.i_lc ?_)
  | (with_reducible refine' U.i_par3 ?_)
  | (with_reducible refine' U.i_par3' ?_)
  | (with_reducible refine' U.i_par ?_)
  | (with_reducible refine' U.i_par' ?_)
  | (with_reducible refine' U.i_lrg ?_)
  | (with_reducible refine' U.i_rg1 ?_)
  | (with_reducible refine' U.i_rg1' ?_)
  | (with_reducible refine' U.i_pl ?_)
  | ((with_reducible refine' U.i_pl' ?hx ?hy ?_); (case hx => walk_at "hp"); (case hy => exact Nat.le_of_ble_eq_true rfl))
  | (with_reducible refine' U.i_rAdd ?_)
  | ((with_reducible refine' U.i_listOf ?hx ?_); (case hx => exact L2.SqL.of (by walk_at "hp")); walk_at "lay")
  | (with_reducible refine' U.i_intB ?_)
  | (with_reducible refine' U.i_wget ?_)
  | ((with_reducible refine' U.i_tupleOf ?hx ?_); (case hx => walk_at "hp"); walk_at "lay")
  | ((with_reducible refine' U.i_repA ?hx ?hn ?h0 ?h1 ?h2 ?_); (case hx => walk_at "hp"); (case hn => simp); (case h0 => omega); (case h1 => omega); (case h2 => simp); intro p H' hs ho)
  | ((with_reducible refine' U.i_catA ?hx ?hy ?hz ?_); (case hx => walk_at "hp"); (case hy => walk_at "hp"); (case hz => walk_at "sz"); intro p H' hs ho)
  | ((with_reducible refine' U.i_slA ?hx ?_); (case hx => walk_at "hp"); intro p H' hs ho)
  | (with_reducible refine' U.i_zipS ?_)
  | ((with_reducible refine' U.i_zipTT ?hx ?hy ?_); (case hx => exact L2.SqT.of (by walk_at "hp")); (case hy => exact L2.SqT.of (by walk_at "hp")))
  | ((with_reducible refine' U.i_zipLL ?hx ?hy ?_); (case hx => exact L2.SqL.of (by walk_at "hp")); (case hy => exact L2.SqL.of (by walk_at "hp")))
  | (with_reducible refine' U.i_ptup ?_)
  | ((with_reducible refine' U.i_ptup' ?hx ?_); (case hx => exact L2.SqT.of (by walk_at "hp")))
  | ((with_reducible refine' U.i_lenT ?hx ?_); (case hx => exact L2.SqT.of (by walk_at "hp")))
  | (with_reducible refine' U.i_yes ?_)
  | (with_reducible refine' L2.iteT ?_)
  | (with_reducible refine' U.i_next ?_)
  | fail "rd1")
local macro_rules | `(tactic| walk_at "szl") => `(tactic| first | decide | (refine L2.small1000 ?_; (try simp only [List.length_cons, List.length_nil, List.length_map]); omega))
local macro_rules | `(tactic| walk_at "rd") => `(tactic| (repeat walk_at "rd1"))
local macro_rules | `(tactic| walk_at "ro") => `(tactic| (refine' U.i_or ?_; walk_at "rd"))
local macro_rules | `(tactic| walk_at "ra") => `(tactic| (refine' U.i_pt ?_; walk_at "rd"))
local macro_rules | `(tactic| walk_at "gd") => `(tactic| (repeat (first | walk_at "rd1" | (with_reducible refine' U.i_andV ?_))))

namespace Lw
open PySem L2 U LamX
local macro_rules | `(tactic| walk_at "fa") => `(tactic| first
  | assumption
  | ((with_reducible refine' Lw.FA.same ?hx ?hy); (case hy => assumption); (case hx => walk_at "fa"))
  | fail "fa")
local macro_rules | `(tactic| walk_at "bg") => `(tactic| first
  | assumption
  | ((with_reducible refine' Lw.Bag.same ?hx ?hy); (case hy => assumption); (case hx => walk_at "bg"))
  | fail "bg")
local macro_rules | `(tactic| walk_at "op2") => `(tactic| (refine' Lw.spOp.go ?fa ?ra ?rb ?q; (case fa => walk_at "fa"); (case ra => constructor <;> omega); (case rb => constructor <;> omega); intro H' s'; walk_at "rd"))

local macro_rules | `(tactic| walk_at "ty") => `(tactic| first | exact .base (.int _) | exact .base (.str _) | exact .base (.bl _) | exact .base .non | exact .base (.lst (by walk_at "hp")) | exact .base (.tup (by walk_at "hp")))
local macro_rules | `(tactic| walk_at "al") => `(tactic| (repeat (first
  | walk_at "rd1"
  | (with_reducible refine' U.i_andV ?_)
  | (with_reducible refine' U.i_notV ?_)
  | (with_reducible refine' U.i_truth ?_)
  | (with_reducible refine' U.i_or ?_)
  | (with_reducible refine' U.i_pt ?_)
  | ((with_reducible refine' U.i_isNT ?hx ?_); (case hx => rfl))
  | ((with_reducible refine' U.i_isNF ?hx ?_); (case hx => (intro z; cases z)))
  | ((with_reducible refine' U.i_isiT ?hx ?hy ?_); (case hx => walk_at "ty"); (case hy => decide +kernel))
  | ((with_reducible refine' U.i_isiF ?hx ?hy ?_); (case hx => walk_at "ty"); (case hy => decide +kernel))
  | (with_reducible refine' U.i_neBB ?_)
  | (with_reducible refine' U.i_eqBB ?_)
  | (with_reducible refine' U.i_eqSS ?_)
  | ((with_reducible refine' U.i_lenL ?hx ?_); (case hx => exact L2.SqL.of (by walk_at "hp")))
  | ((with_reducible refine' U.i_lenT ?hx ?_); (case hx => exact L2.SqT.of (by walk_at "hp")))
  | (with_reducible refine' U.iteT' ?_)
  | (with_reducible refine' U.iteF' ?_)
  | fail "al")))

local macro_rules | `(tactic| walk_at "gq") => `(tactic| (repeat (first | ((fail_if_success (with_reducible refine' U.i_seq ?_)); (first | walk_at "rd1" | (with_reducible refine' U.i_andV ?_))) | fail "gq")))
local macro_rules | `(tactic| walk_at "rq") => `(tactic| (repeat (first | ((fail_if_success (with_reducible refine' U.i_seq ?_)); walk_at "rd1") | fail "rq")))
local macro_rules | `(tactic| walk_at "nt") => `(tactic| (repeat (first
  | walk_at "rd1"
  | (with_reducible refine' U.i_dni ?_)
  | (with_reducible refine' U.i_din ?_)
  | (with_reducible refine' U.i_dgt ?_)
  | (with_reducible refine' U.i_dpt ?_)
  | (with_reducible refine' U.i_dnew ?_)
  | ((with_reducible refine' U.i_dniN ?hx ?_); (case hx => walk_at "hp"))
  | ((with_reducible refine' U.i_dinN ?hx ?_); (case hx => walk_at "hp"))
  | ((with_reducible refine' U.i_dniR ?hx ?_); (case hx => walk_at "hp"))
  | ((with_reducible refine' U.i_dinR ?hx ?_); (case hx => walk_at "hp"))
  | (with_reducible refine' U.i_or ?_)
  | (with_reducible refine' U.i_pt ?_)
  | fail "nt")))
local macro_rules | `(tactic| walk_at "wt") => `(tactic| (repeat (first
  | ((fail_if_success (with_reducible refine' U.i_seq ?_)); walk_at "rd1")
  | (with_reducible refine' U.i_dni ?_)
  | (with_reducible refine' U.i_din ?_)
  | (with_reducible refine' U.i_dgt ?_)
  | (with_reducible refine' U.i_dpt ?_)
  | (with_reducible refine' U.i_dnew ?_)
  | ((with_reducible refine' U.i_dniU ?hx ?_); (case hx => walk_at "hp"))
  | ((with_reducible refine' U.i_dinU ?hx ?_); (case hx => walk_at "hp"))
  | ((with_reducible refine' U.i_dniS ?hx ?_); (case hx => walk_at "hp"))
  | ((with_reducible refine' U.i_dinS ?hx ?_); (case hx => walk_at "hp"))
  | (with_reducible refine' U.i_pt ?_)
  | fail "wt")))
/-- the world and the other pair -/
structure W5 (b c w l m : Addr) (ns : List Str) (as : List Addr) (rs : List Road) (H : Hp) : Prop where
  bag : Bag H b c
  tp : H w = some (.tup [.ref l, .ref m])
  nlo : H l = some (.lst (ns.map V.str))
  rlo : H m = some (.lst (as.map V.ref))
  ro : RoadsAt H as rs
section
variable {b c w l m z : Addr} {ns : List Str} {as : List Addr} {rs : List Road} {H H' : Hp} {xs : List V} {kvs : List (Key × V)}
theorem W5.same (t : W5 b c w l m ns as rs H) (s : Same H H') : W5 b c w l m ns as rs H' := ⟨t.bag.same s, s _ _ t.tp, s _ _ t.nlo, s _ _ t.rlo, t.ro.same s⟩
theorem W5.pull (t : W5 b c w l m ns as rs H) (hb : Bag H' b c) (k : But b H H') : W5 b c w l m ns as rs H' := ⟨hb, k _ _ t.tp (bag_tup t.bag t.tp), k _ _ t.nlo (strs_ne_bag t.bag t.nlo), k _ _ t.rlo (refs_ne_bag t.bag t.rlo), roads_bag t.ro t.bag k⟩
theorem W5.list (t : W5 b c w l m ns as rs H) (o : H z = some (.lst xs)) (n1 : z ≠ b) (n2 : z ≠ c) (n3 : z ≠ l) (n4 : z ≠ m) (k : But z H H') : W5 b c w l m ns as rs H' := ⟨bag_but t.bag n1 n2 k, k _ _ t.tp (U.ne_of_get t.tp o nofun), k _ _ t.nlo n3.symm, k _ _ t.rlo n4.symm, t.ro.list o k⟩
theorem W5.dict (t : W5 b c w l m ns as rs H) (o : H z = some (.dK kvs)) (k : But z H H') : W5 b c w l m ns as rs H' := ⟨bag_dict t.bag o k, k _ _ t.tp (U.ne_of_get t.tp o nofun), k _ _ t.nlo (U.ne_of_get t.nlo o nofun), k _ _ t.rlo (U.ne_of_get t.rlo o nofun), roads_dict t.ro o k⟩
end

theorem room65 {k : Nat} {X : Around} (r : Room k X) : X.units + 65 < cLine := by have := r.un; omega
def lotD (l : List Int) : PyData := .tuple (l.map .int)
theorem lotD_eq (l m : List Int) : PyData.eqv (lotD l) (lotD m) = decide (l = m) := by
  have := U.eqv_ints l m
  simp only [PyData.eqv] at this
  simp only [lotD, PyData.eqv]
  exact this
theorem lotD_any (l : List Int) : ∀ ls : List (List Int), ((ls.map lotD).any fun z => PyData.eqv z (lotD l)) = decide (l ∈ ls)
  | [] => by simp
  | m :: ls => by
    rw [List.map_cons, List.any_cons, lotD_any l ls, lotD_eq]
    by_cases e : m = l
    · subst e; simp
    · have : ¬ l = m := fun z => e z.symm
      simp [e, this]
theorem dpLot {K : PySem.W.Frag} {H : Hp} {a : Addr} {l : List Int} (h : SqT K H a (l.map V.int)) : Dp K H (.ref a) (lotD l) := .tup h (U.dpAll_ints l)
theorem dpLots {K : PySem.W.Frag} {H : Hp} {as : List Addr} {ls : List (List Int)} (h : LotsAt K H as ls) : DpAll K H (as.map V.ref) (ls.map lotD) := by
  induction h with
  | nil => exact .nil
  | cons r _ ih => exact .cons (dpLot r) ih
theorem plLot (l : List Int) : U.Pl 1 (lotD l) := .tup fun d m => by
  obtain ⟨i, _, rfl⟩ := List.mem_map.mp m
  exact .int i
theorem plLots (ls : List (List Int)) : U.Pl 2 (.list (ls.map lotD)) := .lst fun d m => by
  obtain ⟨l, _, rfl⟩ := List.mem_map.mp m
  exact plLot l
theorem i_neLot0 {K : PySem.W.Frag} {H : Hp} {Q : VK} {a e : Addr} {l : List Int} (h : SqT K H a (l.map V.int)) (oe : SqT K H e ([] : List V)) (q : Q (.bl (!decide (l = []))) H) : rNeD K (.ref a) (.ref e) H Q :=
  ⟨lotD l, lotD [], dpLot h, .tup oe .nil, (plLot l).shaped (by decide), (plLot []).shaped (by decide), by rw [lotD_eq]; exact q⟩
theorem i_notInLots {K : PySem.W.Frag} {H : Hp} {Q : VK} {a p : Addr} {l : List Int} {as : List Addr} {ls : List (List Int)} (h : SqT K H a (l.map V.int)) (hp : H p = some (.lst (as.map V.ref))) (la : LotsAt K H as ls) (q : Q (.bl (!decide (l ∈ ls))) H) : rNotInD K (.ref a) (.ref p) H Q :=
  ⟨lotD l, ls.map lotD, dpLot h, .lst (SqL.of hp) (dpLots la), (plLot l).shaped (by decide), (plLots ls).shaped (by decide), by rw [lotD_any]; exact q⟩
theorem i_neS' {a b : Str} {H : Hp} {Q : VK} (q : Q (.bl (!decide (a = b))) H) : rNe (.str a) (.str b) H Q := U.i_neStr q
section
variable {P : Program} {w : World} {K : PySem.W.Frag} {mg : Str → Option Value} {base : Heap} {A : Ad}
theorem sc_lask : FnScope ["_law_bag_here", "_law_upto", "_law_lines", "_law_world_here", "_law_names_here", "_law_roads", "_law_root", "_law_some", "_law_ears", "_law_gone_here", "_law_turn", "_law_lot", "_law_name"] ["_law_bag_here", "_law_upto", "_law_lines"] (defScope (top 76)) := ⟨rfl, rfl, rfl, by decide +kernel, rfl, by decide +kernel, by decide +kernel⟩
theorem ok_lask (T : Txt P w K mg A) : U.Cl P w K mg base 4 "_law_ask" (spLAsk K) [] := by
  obtain ⟨_, _, _, F_pull, g_pull, k_pull, bd_pull⟩ := (ok_pull (P := P) (w := w) (base := base) T).ex
  obtain ⟨_, d_pull, b_pull⟩ := bd_pull 0 (by decide)
  obtain ⟨_, _, _, F_lworldR, g_lworldR, k_lworldR, bd_lworldR⟩ := (ok_lworldR (P := P) (w := w) (base := base) T).ex
  obtain ⟨_, d_lworldR, b_lworldR⟩ := bd_lworldR 0 (by decide)
  obtain ⟨_, _, _, F_lord, g_lord, k_lord, bd_lord⟩ := (ok_lord (P := P) (w := w) (base := base) T).ex
  obtain ⟨_, d_lord, b_lord⟩ := bd_lord 0 (by decide)
  obtain ⟨_, _, _, F_lgoneR, g_lgoneR, k_lgoneR, bd_lgoneR⟩ := (ok_lgoneR (P := P) (w := w) (base := base) T).ex
  obtain ⟨_, d_lgoneR, b_lgoneR⟩ := bd_lgoneR 0 (by decide)
  obtain ⟨_, _, _, F_size, g_size, k_size, bd_size⟩ := (ok_size (P := P) (w := w) (base := base) T).ex
  obtain ⟨_, d_size, b_size⟩ := bd_size 0 (by decide)
  refine T.d_law_ask.ok sc_lask (fun vs H Q E h => ?_) (fun f cdv Ar outer s H vs Q E hr h => ?_)
  · obtain ⟨b, c, t, u, rfl, bag, t2, t12, u30, k⟩ := h
    rfl
  · obtain ⟨b, c, t, u, rfl, bag, t2, t12, u30, k⟩ := h
    refine ⟨_, (pss_cons (ps_set (i := 3) sc_lask.nd rfl (Or.inl rfl) (pe_call F_lworldR (hr.mono (by decide)) rfl g_lworldR k_lworldR b_lworldR d_lworldR U.passN (pa_cons (pv 0) (pa_cons (pv 1) (pa_cons (pv 2) (pa_cons pe_bl pa_nil))))))
    (pss_cons (ps_asg (pv 3) (pg_tup (by exact rfl) (pgs_cons (pg_name (i := 4) sc_lask.nd rfl (Or.inl rfl)) (pgs_cons (pg_name (i := 5) sc_lask.nd rfl (Or.inl rfl)) pgs_nil))))
    (pss_cons (ps_set (i := 6) sc_lask.nd rfl (Or.inr rfl) (pe_ix ix_list (pv 4) (pe_ix ix_list (pe_lst (pa_cons pe_int (pa_cons pe_int (pa_cons (pe_call F_pull (hr.mono (by decide)) rfl g_pull k_pull b_pull d_pull U.passN (pa_cons (pv 0) (pa_cons (pe_op U.u_sub (pe_callB U.u_len (by rfl) T.len PySem.boot_len (pa_cons (pv 4) pa_nil)) pe_int) pa_nil))) pa_nil)))) (pe_call F_pull (hr.mono (by decide)) rfl g_pull k_pull b_pull d_pull U.passN (pa_cons (pv 0) (pa_cons pe_int pa_nil))) (fun _ _ => rfl)) (fun _ _ => rfl)))
    (pss_cons (ps_set (i := 7) sc_lask.nd rfl (Or.inl rfl) (pe_call F_lord (hr.mono (by decide)) rfl g_lord k_lord b_lord d_lord U.passN (pa_cons (pv 0) (pa_cons (pe_lc (own := [("_law_name", 12)]) (g := (gName 12)) (by exact rfl) sc_lask.nd (pi_list (pv 4)) (blkOk_by (own := [("_law_name", 12)]) (N := ["_law_bag_here", "_law_upto", "_law_lines", "_law_world_here", "_law_names_here", "_law_roads", "_law_root", "_law_some", "_law_ears", "_law_gone_here", "_law_turn", "_law_lot", "_law_name"]) (sc := defScope (top 76)) (by decide +kernel)) (fun _ _ _ _ _ => (pg_name (i := 12) sc_lask.nd rfl (Or.inl rfl))) (fun _ _ _ _ _ => pts_one (pt_cmpR op_ne (pv 12) (pv 6) (nomark _))) (fun _ _ _ _ _ => (pv 12))) pa_nil))))
    (pss_cons (ps_set (i := 8) sc_lask.nd rfl (Or.inl rfl) (pe_slice sl_list (pv 7) po_none (po_some (pe_op U.u_add pe_int (pe_call F_pull (hr.mono (by decide)) rfl g_pull k_pull b_pull d_pull U.passN (pa_cons (pv 0) (pa_cons (pe_callB (call_min2 (by rfl)) (by rfl) T.min (by decide +kernel) (pa_cons pe_int (pa_cons (pe_callB U.u_len (by rfl) T.len PySem.boot_len (pa_cons (pv 7) pa_nil)) pa_nil))) pa_nil)))))))
    (pss_cons (ps_set (i := 9) sc_lask.nd rfl (Or.inl rfl) (pe_lst pa_nil))
    (pss_cons (ps_for (passes_of (by exact rfl)) (by exact rfl) (pi_range1 (by rfl) T.range (pa_cons (pe_call F_pull (hr.mono (by decide)) rfl g_pull k_pull b_pull d_pull U.passN (pa_cons (pv 0) (pa_cons pe_int pa_nil))) pa_nil)) (pg_name (i := 10) sc_lask.nd rfl (Or.inl rfl))
    (pss_cons (ps_set (i := 11) sc_lask.nd rfl (Or.inl rfl) (pe_call F_lgoneR (hr.mono (by decide)) rfl g_lgoneR k_lgoneR b_lgoneR d_lgoneR U.passN (pa_cons (pv 0) (pa_cons (pv 5) (pa_cons pe_int pa_nil)))))
    (pss_one (ps_if (PW.pt (pw_and (pt_cmpR (op_neD hr.units) (pv 11) (pe_tup pa_nil) (nomark _)) (pw_and1 (pt_cmpR (op_notInD (room65 hr)) (pv 11) (pv 9) (by rfl)))))
    (pss_one (ps_expr (pe_bm PySem.F.plainAttrs_list PySem.F.slot_list_append PySem.F.type_list_append mt_append (pv 9) (pa_cons (pv 11) pa_nil))))
    pss_nil))))
    (pss_one (ps_ret (pe_tup (pa_cons (pv 3) (pa_cons (pv 6) (pa_cons (pv 8) (pa_cons (pe_ix ix_list (pe_lst (pa_cons pe_int (pa_cons pe_int (pa_cons pe_int (pa_cons pe_int (pa_cons pe_int pa_nil)))))) (pe_call F_pull (hr.mono (by decide)) rfl g_pull k_pull b_pull d_pull U.passN (pa_cons (pv 0) (pa_cons pe_int pa_nil))) (fun _ _ => rfl)) (pa_cons (pv 9) (pa_cons (pe_call F_size (hr.mono (by decide)) rfl g_size k_size b_size d_size U.passN (pa_cons (pv 0) pa_nil)) pa_nil)))))))))))))))), ?_⟩
    walk_at "wt"
    with_reducible refine U.i_seq ?_
    walk_at "wt"
    refine ⟨b, c, t, u, true, rfl, bag, t2, t12, u30, fun wd nl rl ns as rs H1 hwd hnl hrl hb1 bt1 wp ups owd onl orl ro nlr => ?_⟩
    have w5 : W5 b c wd nl rl ns as rs H1 := ⟨hb1, owd, onl, orl, ro⟩
    have k1 : But b H H1 := bt1
    have pu := wp.put t12 u30
    replace ups := ups rfl
    have few := wp.few
    clear owd onl orl ro hwd hnl hrl nlr
    walk_at "wt"
    with_reducible refine U.i_seq ?_
    walk_at "wt"
    refine U.i_gtup (SqT.of w5.tp) rfl ?_
    walk_at "wt"
    with_reducible refine U.i_seq ?_
    have onl := w5.nlo
    walk_at "wt"
    rw [List.length_map]
    refine spPull.go w5.bag (by omega) (by omega) (fun g1 H2 p0 p1 hb2 bt2 => ?_)
    have w52 := w5.pull hb2 bt2
    have k2 := but_tr k1 bt2
    walk_at "wt"
    rename_i lt hlt H3 s3 ot
    have w53 := w52.same s3
    have nlt := bag_new hb2 hlt
    refine spPull.go w53.bag (by decide) (by decide) (fun g2 H4 q0 q1 hb4 bt4 => ?_)
    have ot4 := bt4 _ _ ot nlt
    have w54 := w53.pull hb4 bt4
    have k4 := but_tr (but_sm k2 s3) bt4
    obtain ⟨gi, eg, gi0, gi1⟩ : ∃ gi : Int, atI [V.int 0, V.int 0, V.int g1] g2 = some (.int gi) ∧ 0 ≤ gi ∧ gi < ns.length := by
      have h3 : g2 = 0 ∨ g2 = 1 ∨ g2 = 2 := by omega
      rcases h3 with rfl | rfl | rfl
      · exact ⟨0, rfl, by omega, by omega⟩
      · exact ⟨0, rfl, by omega, by omega⟩
      · exact ⟨g1, rfl, p0, by omega⟩
    refine U.i_ixL (SqL.of ot4) eg ?_
    obtain ⟨rt, er⟩ : ∃ rt, ns[gi.toNat]? = some rt := ⟨_, List.getElem?_eq_getElem (by omega)⟩
    have mrt := List.mem_of_getElem? er
    refine U.i_ixL (SqL.of w54.nlo) (v := .str rt) (U.atI_of (j := gi.toNat) (by omega) (by rw [List.getElem?_map, er]; rfl)) ?_
    clear w5 bt1 k1 hb1 w52 w53 k2 s3 ot hlt bt2 hb2 onl ot4 nlt bt4 hb4 p0 p1 q0 q1
    walk_at "wt"
    with_reducible refine U.i_seq ?_
    have onl := w54.nlo
    walk_at "wt"
    intro D hD
    refine lc_it walk_list (fun j H' => Same H4 H' ∧ H' D = some (.lst (((ns.take j).filter fun x => decide (x ≠ rt)).map V.str))) ⟨same_new hD, upd_same⟩ (fun j H' _ h => SqL.of (h.1 _ _ onl)) ?_ ?_
    · rintro j v H13 H14 hj ⟨s13, oD2⟩ ⟨rfl, hy⟩
      rw [List.getElem?_map] at hy
      obtain ⟨nm, en, rfl⟩ := Option.map_eq_some_iff.mp hy
      have fl : ((ns.take j).filter fun x => decide (x ≠ rt)).length ≤ 12 := by
        refine Nat.le_trans (List.length_filter_le _ _) ?_
        rw [List.length_take]
        omega
      walk_at "wt"
      refine ⟨rfl, ?_⟩
      walk_at "wt"
      refine i_neS' ?_
      refine ⟨_, rfl, ?_⟩
      refine U.itedn (fun z => ?_) (fun z => ?_)
      rotate_left
      · refine ⟨s13, ?_⟩
        rw [U.take_succ_of en, List.filter_append, List.filter_cons_of_neg (by simpa using z), List.filter_nil, List.append_nil]
        exact oD2
      walk_at "wt"
      refine ⟨_, oD2, small1000 (by rw [List.length_map]; omega), same_own s13 hD, ?_⟩
      rw [U.take_succ_of en, List.filter_append, List.filter_cons_of_pos (by exact decide_eq_true z), List.filter_nil, List.map_append]
      exact upd_same
    rintro H5 ⟨s5, oD⟩
    rw [List.length_map, List.take_length] at oD
    have w55 := w54.same s5
    have k5 := but_sm k4 s5
    have f1 : (ns.filter fun x => decide (x ≠ rt)).length + 1 = ns.length := by
      have e : ns.filter (fun x => decide (x ≠ rt)) = ns.erase rt := by
        rw [List.Nodup.erase_eq_filter pu.nd]
        refine List.filter_congr fun x _ => ?_
        by_cases q : x = rt <;> simp [q]
      rw [e, List.length_erase_of_mem mrt]
      omega
    have fnd : (ns.filter fun x => decide (x ≠ rt)).Nodup := List.filter_sublist.nodup pu.nd
    have fin : ∀ x ∈ ns.filter (fun x => decide (x ≠ rt)), x ∈ ns ∧ x ≠ rt := fun x m => ⟨(List.mem_filter.mp m).1, of_decide_eq_true (List.mem_filter.mp m).2⟩
    generalize ns.filter (fun x => decide (x ≠ rt)) = oth at oD f1 fnd fin
    clear w54 k4 s5 hD onl
    walk_at "wt"
    refine ⟨b, c, D, _, rfl, w55.bag, oD, by rw [List.length_map]; omega, fun so ys H6 hso hb6 bt6 pys oso => ?_⟩
    obtain ⟨ms, rfl, pms⟩ := strs_perm pys
    have w56 := w55.pull hb6 bt6
    have k6 := but_tr k5 bt6
    have ml := pms.length_eq
    clear w55 k5 bt6 hb6 oD pys
    walk_at "wt"
    with_reducible refine U.i_seq ?_
    walk_at "wt"
    rw [List.length_map]
    obtain ⟨mn, emn, mn1, mn2, mn3⟩ : ∃ mn : Int, (if (ms.length : Int) < 3 then (ms.length : Int) else 3) = mn ∧ 1 ≤ mn ∧ mn ≤ 3 ∧ mn ≤ ms.length := by
      split
      · exact ⟨_, rfl, by omega, by omega, by omega⟩
      · exact ⟨_, rfl, by omega, by omega, by omega⟩
    refine ⟨3, (ms.length : Int), rfl, ?_⟩
    rw [emn]
    walk_at "wt"
    refine spPull.go w56.bag (by omega) (by omega) (fun g3 H7 p0 p1 hb7 bt7 => ?_)
    have nso : so ≠ b := strs_ne_bag w56.bag oso
    have oso7 := bt7 _ _ oso nso
    have w57 := w56.pull hb7 bt7
    have k7 := but_tr k6 bt7
    clear w56 k6 bt7 hb7 oso
    walk_at "wt"
    rename_i el hel H8 s8 oel
    obtain ⟨kk, ekk⟩ : ∃ kk : Nat, 1 + g3 = (kk : Int) := ⟨(1 + g3).toNat, by omega⟩
    rw [ekk, U.cut_take (by rw [List.length_map]; omega), ← List.map_take] at oel
    have w58 := w57.same s8
    have k8 := but_sm k7 s8
    have nel : el ≠ b := bag_new w57.bag hel
    have nel2 : el ≠ c := bag_new2 w57.bag hel
    have esub : (ms.take kk).Sublist ms := List.take_sublist _ _
    have ends1 : (ms.take kk).Nodup := esub.nodup (pms.nodup_iff.mpr fnd)
    have eins : ∀ e ∈ ms.take kk, e ∈ ns ∧ e ≠ rt := fun e m => fin e (pms.mem_iff.mp (List.mem_of_mem_take m))
    have elen : (ms.take kk).length = kk := by rw [List.length_take]; omega
    generalize ms.take kk = es at oel esub ends1 eins elen
    clear w57 k7 s8 hel oso7
    with_reducible refine U.i_seq ?_
    walk_at "wt"
    rename_i gl hgl H9 s9 ogl
    have w59 := w58.same s9
    have k9 := but_sm k8 s9
    have oel9 := s9 _ _ oel
    have ngb : gl ≠ b := bag_new w58.bag hgl
    have ngc : gl ≠ c := bag_new2 w58.bag hgl
    have ngel : gl ≠ el := fun e => by rw [e, oel] at hgl; cases hgl
    have ngnl : gl ≠ nl := fun e => by rw [e, w58.nlo] at hgl; cases hgl
    have ngrl : gl ≠ rl := fun e => by rw [e, w58.rlo] at hgl; cases hgl
    have fgl : H gl = none := but_free k8 ngb hgl
    clear w58 k8 s9 hgl oel
    with_reducible refine U.i_seq ?_
    walk_at "wt"
    refine spPull.go w59.bag (by decide) (by decide) (fun g4 Ha q0 q1 hba bta => ?_)
    have w5a := w59.pull hba bta
    have ka := but_tr k9 bta
    have oela := bta _ _ oel9 nel
    have ogla := bta _ _ ogl ngb
    clear w59 k9 bta hba oel9 ogl
    walk_at "wt"
    refine for_it (walk_range (n := g4.toNat)) (fun i σ H' => ∃ v10 v11 v12, σ = [some (.ref b), some (.int (t : Nat)), some (.int (u : Nat)), some (.ref wd), some (.ref nl), some (.ref rl), some (.str rt), some (.ref so), some (.ref el), some (.ref gl), v10, v11, v12] ∧ W5 b c wd nl rl ns as rs H' ∧ But b H H' ∧ H' el = some (.lst (es.map V.str)) ∧ ∃ gs ls, H' gl = some (.lst (gs.map V.ref)) ∧ LotsAt K H' gs ls ∧ ls.length ≤ i ∧ ls.Nodup ∧ ∀ l ∈ ls, Rises l ∧ ∀ n ∈ l, n ∈ rs.map (·.1)) ⟨_, _, _, rfl, w5a, ka, oela, [], [], ogla, .nil, by simp, .nil, nofun⟩ (fun _ _ _ _ _ => trivial) ?_ ?_
    · rintro i v σ Hb Hc hi ⟨v10, v11, v12, rfl, w5c, kc, oelc, gs, ls, oglc, la, lf, lnd, lall⟩ ⟨rfl, rfl⟩
      walk_at "wt"
      with_reducible refine U.i_seq ?_
      walk_at "wt"
      refine ⟨b, c, rl, as, rs, 2, rfl, w5c.bag, w5c.rlo, w5c.ro, by decide, fun lo l Hd hlo hbd btd olo sub ll => ?_⟩
      have w5d := w5c.pull hbd btd
      have kd := but_tr kc btd
      have oeld := btd _ _ oelc nel
      have ogld := btd _ _ oglc ngb
      obtain ⟨_, _, _, _, hbb, _⟩ := id w5c.bag
      have lad : LotsAt K Hd gs ls := la.but hbb (fun _ e => by cases e) (fun _ _ e => by cases e) btd
      walk_at "wt"
      rename_i p9 hp9 He se op9
      replace w5d := w5d.same se
      replace kd := but_sm kd se
      replace oeld := se _ _ oeld
      replace ogld := se _ _ ogld
      replace lad := lad.same se
      have oloe := se _ _ olo
      refine i_neLot0 (SqT.of oloe) (SqT.of op9) ?_
      refine ⟨_, rfl, ?_⟩
      by_cases z : l = []
      · rw [decide_eq_true z]
        refine U.iteF' ?_
        walk_at "wt"
        exact ⟨_, _, _, rfl, w5d, kd, oeld, gs, ls, ogld, lad, by omega, lnd, lall⟩
      rw [decide_eq_false z]
      refine U.iteT' ?_
      walk_at "wt"
      refine i_notInLots (SqT.of oloe) ogld lad ?_
      refine ⟨_, rfl, ?_⟩
      by_cases z2 : l ∈ ls
      · rw [decide_eq_true z2]
        refine U.iteF' ?_
        walk_at "wt"
        exact ⟨_, _, _, rfl, w5d, kd, oeld, gs, ls, ogld, lad, by omega, lnd, lall⟩
      rw [decide_eq_false z2]
      refine U.iteT' ?_
      have lal := lad.len
      walk_at "wt"
      have bt : But gl He (upd He gl (.lst (gs.map V.ref ++ [.ref lo]))) := But.of
      refine ⟨_, _, _, rfl, w5d.list ogld ngb ngc ngnl ngrl bt, but_new kd fgl bt, bt _ _ oeld ngel.symm, gs ++ [lo], ls ++ [l], by rw [List.map_append]; exact upd_same, ?_, by rw [List.length_append]; show _ + 1 ≤ _; omega, ?_, fun m mm => ?_⟩
      · exact (lad.but ogld (fun _ e => by cases e) (fun _ _ e => by cases e) bt).app (.cons (.inl (.inl (bt _ _ oloe (U.ne_of_get oloe ogld nofun)))) .nil)
      · exact List.nodup_append.mpr ⟨lnd, by simp, fun x mx y my e => z2 (by rw [List.mem_singleton.mp my] at e; exact e ▸ mx)⟩
      · rcases List.mem_append.mp mm with mm | mm
        · exact lall m mm
        · rw [List.mem_singleton.mp mm]
          exact sub_rises wp.up sub z
    rintro σ Hb ⟨v10, v11, v12, rfl, w5b, kb, oelb, gs, ls, oglb, la, lf, lnd, lall⟩
    clear w5a ka oela ogla
    walk_at "wt"
    rename_i z1 hz1 Hc sc oz1
    have w5c := w5b.same sc
    refine spPull.go w5c.bag (by decide) (by decide) (fun g5 Hd r0 r1 hbd btd => ?_)
    have nz1 := bag_new w5b.bag hz1
    have oz2 := btd _ _ oz1 nz1
    obtain ⟨mn9, eg9, mg1, mg4⟩ : ∃ mn9 : Int, atI [V.int 1, V.int 2, V.int 2, V.int 3, V.int 4] g5 = some (.int mn9) ∧ 1 ≤ mn9 ∧ mn9 ≤ 4 := by
      have h5 : g5 = 0 ∨ g5 = 1 ∨ g5 = 2 ∨ g5 = 3 ∨ g5 = 4 := by omega
      rcases h5 with rfl | rfl | rfl | rfl | rfl <;> exact ⟨_, rfl, by decide, by decide⟩
    refine U.i_ixL (SqL.of oz2) eg9 ?_
    have w5d := w5c.pull hbd btd
    have kd := but_tr (but_sm kb sc) btd
    have oeld := btd _ _ (sc _ _ oelb) nel
    have ogld := btd _ _ (sc _ _ oglb) ngb
    obtain ⟨_, _, _, _, hbb, _⟩ := id w5c.bag
    have lad : LotsAt K Hd gs ls := (la.same sc).but hbb (fun _ e => by cases e) (fun _ _ e => by cases e) btd
    clear w5b kb oelb oglb la w5c oz1 oz2 sc btd
    walk_at "wt"
    refine ⟨b, c, rfl, hbd, fun n9 He mn9' hbe bte => ?_⟩
    have w5e := w5d.pull hbe bte
    have ke := but_tr kd bte
    have oele := bte _ _ oeld nel
    have ogle := bte _ _ ogld ngb
    obtain ⟨_, _, _, _, hbb2, _⟩ := id hbd
    have lae : LotsAt K He gs ls := lad.but hbb2 (fun _ e => by cases e) (fun _ _ e => by cases e) bte
    walk_at "wt"
    rename_i q hq Hf sf oq
    have w5f := w5e.same sf
    have elf := elen
    refine k q wd nl rl el gl as gs ⟨ns, rs, rt, es, mn9, ls, n9⟩ Hf w5f.bag (but_sm ke sf) ⟨oq, w5f.tp, w5f.nlo, w5f.rlo, w5f.ro, sf _ _ oele, sf _ _ ogle, lae.same sf⟩ ⟨pu, wp.up, ups, mrt, ⟨ends1, fun e m => (eins e m).1, fun m => (eins rt m).2 rfl, by show 1 ≤ es.length; omega, by show es.length ≤ 4; omega⟩, ⟨mg1, mg4⟩, ⟨by show ls.length ≤ 3; omega, lnd, lall⟩, mn9'⟩ few.2.2

end
end Lw
end

section
set_option Elab.async false
set_option linter.all false
set_option maxRecDepth 100000
set_option maxHeartbeats 4000000
/-! ### own steps (local) -/
local macro_rules | `(tactic| walk_at "hp") => `(tactic| first
  | assumption
  | exact L2.upd_same
  | ((with_reducible refine U.upd_new ?_ ?_); (focus (first | assumption | done)); walk_at "hp")
  | ((with_reducible refine U.upd_ne'' ?_ ?_); (focus (first | assumption | (apply Ne.symm; assumption))); walk_at "hp")
  | ((with_reducible refine' U.Same.get ?hx ?hy); (case hx => assumption); (case hy => walk_at "hp"))
  | ((with_reducible refine' U.ExtN.lst ?hx ?hy); (case hx => assumption); (case hy => walk_at "hp"))
  | ((with_reducible refine' U.ExtN.tup ?hx ?hy); (case hx => assumption); (case hy => walk_at "hp"))
  | ((with_reducible refine' U.ExtN.ins ?hx ?hy); (case hx => assumption); (case hy => walk_at "hp"))
  | fail "hp")
local macro_rules | `(tactic| walk_at "lay") => `(tactic| (intro p hn; generalize hg : L2.upd _ p _ = H'; have hs := U.same_of hg hn; have ho := U.at_of hg; clear hg))
local macro_rules | `(tactic| walk_at "sz") => `(tactic| first | decide | (show _ ≤ PySem.sizeLine; rw [PySem.sizeLine_eq]; (try simp only [List.length_cons, List.length_nil, List.length_map]); omega))
local macro_rules | `(tactic| walk_at "ref'") => `(tactic| skip)
local macro_rules | `(tactic| walk_at "rd1") => `(tactic| first
  | (with_reducible refine' U.i_seq ?_)
  | (with_reducible refine' U.i_asg ?_)
  | (with_reducible refine' U.i_ret ?_)
  | (with_reducible refine' U.i_ifS ?_)
  | (with_reducible refine' U.i_drop ?_)
  | ((with_reducible refine' U.i_var ?hx ?_); (case hx => rfl))
  | (with_reducible refine' U.i_c ?_)
  | (with_reducible refine' U.i_op ?_)
  | (with_reducible refine' U.i_un ?_)
  | (with_reducible refine' U.i_name ?_)
  | (with_reducible refine' U.i_gsub ?_)
  | (with_reducible refine' U.i_test ?_)
  | (with_reducible refine' U.i_tB ?_)
  | (with_reducible refine' U.i_bl ?_)
  | (with_reducible refine' U.i_not ?_)
  | (with_reducible refine' U.i_nil ?_)
  | (with_reducible refine' U.i_cons ?_)
  | (with_reducible refine' U.i_cb ?_)
  | (with_reducible refine' U.i_call ?_)
  | (with_reducible refine' U.i_fld ?_)
  | ((with_reducible refine' U.i_fld' ?hx ?hy ?hz ?hw ?_); (case hx => walk_at "hp"); (case hy => assumption); (case hz => assumption); (case hw => rfl))
  | (with_reducible refine' U.i_meth ?_)
  | ((with_reducible refine' U.i_meth' ?hx ?hy ?_); (case hx => walk_at "hp"); (case hy => rfl))
  | (with_reducible refine' U.i_add ?_)
  | (with_reducible refine' U.i_sub ?_)
  | ((with_reducible refine' U.i_mul ?hx ?_); (case hx => (first | (left; constructor <;> omega) | (right; constructor <;> omega))))
  | ((with_reducible refine' U.i_mod ?hx ?_); (case hx => omega))
  | ((with_reducible refine' U.i_fdiv ?hx ?_); (case hx => (constructor <;> omega)))
  | ((with_reducible refine' U.i_pow ?hx ?_); (case hx => (refine ⟨?_, ?_, ?_⟩ <;> decide)))
  | (with_reducible refine' U.i_lt ?_)
  | (with_reducible refine' U.i_le ?_)
  | (with_reducible refine' U.i_gt ?_)
  | (with_reducible refine' U.i_ge ?_)
  | (with_reducible refine' U.i_eqI ?_)
  | (with_reducible refine' U.i_neI ?_)
  | (with_reducible refine' U.i_rU ?_)
  | (with_reducible refine' U.i_abs ?_)
  | (with_reducible refine' U.i_callN ?_)
  | ((with_reducible refine' U.i_lens ?hx ?hy ?_); (case hx => rfl); (case hy => rfl))
  | ((with_reducible refine' U.i_ixL ?hx ?hy ?_); (case hx => exact L2.SqL.of (by walk_at "hp")); (case hy => rfl))
  | ((with_reducible refine' U.i_lenL ?hx ?_); (case hx => exact L2.SqL.of (by walk_at "hp")))
  | ((with_reducible refine' U.i_setL ?hx ?hy ?_); (case hx => walk_at "hp"); (case hy => rfl))
  | (with_reducible refine' U.i_augS ?_)
  | ((with_reducible refine' U.i_aug ?hx ?_); (case hx => rfl))
  | (with_reducible refine' U.i_ipI ?_)
  | ((with_reducible refine' U.i_ipMul ?hx ?_); (case hx => (first | (left; constructor <;> omega) | (right; constructor <;> omega))))
  | ((with_reducible refine' U.i_gtup ?hx ?hy ?_); (case hx => exact L2.SqT.of (by walk_at "hp")); (case hy => rfl))
  | (with_reducible refine' U.i_gcons ?_)
  | (with_reducible refine' U.i_gnil ?_)
  | ((with_reducible refine' U.i_divmod ?hx ?_); (case hx => (constructor <;> omega)); walk_at "lay")
  | (with_reducible refine' U.i_tup ?_)
  | (with_reducible refine' U.i_lst ?_)
  | ((with_reducible refine' U.lay_and ?hx ?_); (case hx => walk_at "sz"); walk_at "lay")
  | (with_reducible refine' U.i_sl ?_)
  | (with_reducible refine' U.i_part ?_)
  | (with_reducible refine' U.i_part' ?_)
  | (with_reducible refine' U.i_nopart ?_)
  | ((with_reducible refine' U.i_slL ?hx ?_); (case hx => exact L2.SqL.of (by walk_at "hp")); walk_at "lay")
  | (with_reducible refine' U.i_bm ?_)
  | ((with_reducible refine' U.i_bm' ?hx ?_); (case hx => walk_at "hp"))
  | ((with_reducible refine' U.i_append ?hx ?hy ?_); (case hx => walk_at "hp"); (case hy => walk_at "szl"))
  | ((with_reducible refine' U.i_chLL ?hx ?hy ?_); (case hx => rfl); (case hy => rfl))
  | (with_reducible refine' U.i_chain ?_)
  | (with_reducible refine' U.i_rng1 ?_)
  | ((with_reducible refine' U.i_rng1' ?hx ?hy ?_); (case hx => omega); (case hy => omega))
  | (with_reducible refine' U.i_rng2 ?_)
  | ((with_reducible refine' U.i_rng2' ?hx ?_); (case hx => (refine ⟨?_, ?_, ?_, ?_⟩ <;> omega)))
  | (with_reducible refine' U.i_rng3 ?_)
  | (with_reducible refine' U.i_enum ?_)
  | ((with_reducible refine' U.i_enum' ?hx ?_); (case hx => exact L2.SqL.of (by walk_at "hp")))
  | (with_reducible refine' U.i_enumT ?_)
  | ((with_reducible refine' U.i_enumT' ?hx ?_); (case hx => exact L2.SqT.of (by walk_at "hp")))
  | (with_reducible refine' U.i_rev ?_)
  | ((with_reducible refine' U.i_rev' ?hx ?_); (case hx => exact L2.SqL.of (by walk_at "hp")))
  | (with_reducible refine' U.i_plist ?_)
  | ((with_reducible refine' U.i_plist' ?hx ?_); (case hx => exact L2.SqL.of (by walk_at "hp")))
  | (with_reducible refine' U.i_for ?_)
  | (with_reducible refine' U.i_sfld ?_)
  | ((with_reducible refine' U.i_sfld' ?hx ?hy ?hz ?hw ?_); (case hx => walk_at "hp"); (case hy => assumption); (case hz => assumption); (case hw => exact Nat.le_of_ble_eq_true rfl))
  | (with_reducible refine' U.i_lc ?_)
  | (with_reducible refine' U.i_par3 ?_)
  | (with_reducible refine' U.i_par3' ?_)
  | (with_reducible refine' U.i_par ?_)
  | (with_reducible refine' U.i_par' ?_)
  | (with_reducible refine' U.i_lrg ?_)
  | (with_reducible refine' U.i_rg1 ?_)
  | (with_reducible refine' U.i_rg1' ?_)
  | (with_reducible refine' U.i_pl ?_)
  | ((with_reducible refine' U.i_pl' ?hx ?hy ?_); (case hx => walk_at "hp"); (case hy => exact Nat.le_of_ble_eq_true rfl))
  | (with_reducible refine' U.i_rAdd ?_)
  | ((with_reducible refine' U.i_listOf ?hx ?_); (case hx => exact L2.SqL.of (by walk_at "hp")); walk_at "lay")
  | (with_reducible refine' U.i_intB ?_)
  | (with_reducible refine' U.i_wget ?_)
  | ((with_reducible refine' U.i_tupleOf ?hx ?_); (case hx => walk_at "hp"); walk_at "lay")
  | ((with_reducible refine' U.i_repA ?hx ?hn ?h0 ?h1 ?h2 ?_); (case hx => walk_at "hp"); (case hn => simp); (case h0 => omega); (case h1 => omega); (case h2 => simp); intro p H' hs ho)
  | ((with_reducible refine' U.i_catA ?hx ?hy ?hz ?_); (case hx => walk_at "hp"); (case hy => walk_at "hp"); (case hz => walk_at "sz"); intro p H' hs ho)
  | ((with_reducible refine' U.i_slA ?hx ?_); (case hx => walk_at "hp"); intro p H' hs ho)
  | (with_reducible refine' U.i_zipS ?_)
  | ((with_reducible refine' U.i_zipTT ?hx ?hy ?_); (case hx => exact L2.SqT.of (by walk_at "hp")); (case hy => exact L2.SqT.of (by walk_at "hp")))
  | ((with_reducible refine' U.i_zipLL ?hx ?hy ?_); (case hx => exact L2.SqL.of (by walk_at "hp")); (case hy => exact L2.SqL.of (by walk_at "hp")))
  | (with_reducible refine' U.i_ptup ?_)
  | ((with_reducible refine' U.i_ptup' ?hx ?_); (case hx => exact L2.SqT.of (by walk_at "hp")))
  | ((with_reducible refine' U.i_lenT ?hx ?_); (case hx => exact L2.SqT.of (by walk_at "hp")))
  | (with_reducible refine' U.i_yes ?_)
  | (with_reducible refine' L2.iteT ?_)
  | (with_reducible refine' U.i_next ?_)
  | fail "rd1")
local macro_rules | `(tactic| walk_at "szl") => `(tactic| first | decide | (refine L2.small1000 ?_; (try simp only [List.length_cons, List.length_nil, List.length_map]); omega))
local macro_rules | `(tactic| walk_at "rd") => `(tactic| (repeat walk_at "rd1"))
local macro_rules | `(tactic| walk_at "ro") => `(tactic| (refine' U.i_or ?_; walk_at "rd"))
local macro_rules | `(tactic| walk_at "ra") => `(tactic| (refine' U.i_pt ?_; walk_at "rd"))
local macro_rules | `(tactic| walk_at "gd") => `(tactic| (repeat (first | walk_at "rd1" | (with_reducible refine' U.i_andV ?_))))

namespace Lw
open PySem L2 U LamX
local macro_rules | `(tactic| walk_at "fa") => `(tactic| first
  | assumption
  | ((with_reducible refine' Lw.FA.same ?hx ?hy); (case hy => assumption); (case hx => walk_at "fa"))
  | fail "fa")
local macro_rules | `(tactic| walk_at "bg") => `(tactic| first
  | assumption
  | ((with_reducible refine' Lw.Bag.same ?hx ?hy); (case hy => assumption); (case hx => walk_at "bg"))
  | fail "bg")
local macro_rules | `(tactic| walk_at "op2") => `(tactic| (refine' Lw.spOp.go ?fa ?ra ?rb ?q; (case fa => walk_at "fa"); (case ra => constructor <;> omega); (case rb => constructor <;> omega); intro H' s'; walk_at "rd"))

local macro_rules | `(tactic| walk_at "ty") => `(tactic| first | exact .base (.int _) | exact .base (.str _) | exact .base (.bl _) | exact .base .non | exact .base (.lst (by walk_at "hp")) | exact .base (.tup (by walk_at "hp")))
local macro_rules | `(tactic| walk_at "al") => `(tactic| (repeat (first
  | walk_at "rd1"
  | (with_reducible refine' U.i_andV ?_)
  | (with_reducible refine' U.i_notV ?_)
  | (with_reducible refine' U.i_truth ?_)
  | (with_reducible refine' U.i_or ?_)
  | (with_reducible refine' U.i_pt ?_)
  | ((with_reducible refine' U.i_isNT ?hx ?_); (case hx => rfl))
  | ((with_reducible refine' U.i_isNF ?hx ?_); (case hx => (intro z; cases z)))
  | ((with_reducible refine' U.i_isiT ?hx ?hy ?_); (case hx => walk_at "ty"); (case hy => decide +kernel))
  | ((with_reducible refine' U.i_isiF ?hx ?hy ?_); (case hx => walk_at "ty"); (case hy => decide +kernel))
  | (with_reducible refine' U.i_neBB ?_)
  | (with_reducible refine' U.i_eqBB ?_)
  | (with_reducible refine' U.i_eqSS ?_)
  | ((with_reducible refine' U.i_lenL ?hx ?_); (case hx => exact L2.SqL.of (by walk_at "hp")))
  | ((with_reducible refine' U.i_lenT ?hx ?_); (case hx => exact L2.SqT.of (by walk_at "hp")))
  | (with_reducible refine' U.iteT' ?_)
  | (with_reducible refine' U.iteF' ?_)
  | fail "al")))

local macro_rules | `(tactic| walk_at "gq") => `(tactic| (repeat (first | ((fail_if_success (with_reducible refine' U.i_seq ?_)); (first | walk_at "rd1" | (with_reducible refine' U.i_andV ?_))) | fail "gq")))
local macro_rules | `(tactic| walk_at "rq") => `(tactic| (repeat (first | ((fail_if_success (with_reducible refine' U.i_seq ?_)); walk_at "rd1") | fail "rq")))
local macro_rules | `(tactic| walk_at "nt") => `(tactic| (repeat (first
  | walk_at "rd1"
  | (with_reducible refine' U.i_dni ?_)
  | (with_reducible refine' U.i_din ?_)
  | (with_reducible refine' U.i_dgt ?_)
  | (with_reducible refine' U.i_dpt ?_)
  | (with_reducible refine' U.i_dnew ?_)
  | ((with_reducible refine' U.i_dniN ?hx ?_); (case hx => walk_at "hp"))
  | ((with_reducible refine' U.i_dinN ?hx ?_); (case hx => walk_at "hp"))
  | ((with_reducible refine' U.i_dniR ?hx ?_); (case hx => walk_at "hp"))
  | ((with_reducible refine' U.i_dinR ?hx ?_); (case hx => walk_at "hp"))
  | (with_reducible refine' U.i_or ?_)
  | (with_reducible refine' U.i_pt ?_)
  | fail "nt")))
local macro_rules | `(tactic| walk_at "wt") => `(tactic| (repeat (first
  | ((fail_if_success (with_reducible refine' U.i_seq ?_)); walk_at "rd1")
  | (with_reducible refine' U.i_dni ?_)
  | (with_reducible refine' U.i_din ?_)
  | (with_reducible refine' U.i_dgt ?_)
  | (with_reducible refine' U.i_dpt ?_)
  | (with_reducible refine' U.i_dnew ?_)
  | ((with_reducible refine' U.i_dniU ?hx ?_); (case hx => walk_at "hp"))
  | ((with_reducible refine' U.i_dinU ?hx ?_); (case hx => walk_at "hp"))
  | ((with_reducible refine' U.i_dniS ?hx ?_); (case hx => walk_at "hp"))
  | ((with_reducible refine' U.i_dinS ?hx ?_); (case hx => walk_at "hp"))
  | (with_reducible refine' U.i_pt ?_)
  | fail "wt")))
theorem roadOne : ∀ {rs : List Road} {r : Road}, (rs.map (·.1)).Nodup → r ∈ rs → rs.filter (fun q => decide (q.1 = r.1)) = [r]
  | q :: rs, r, nd, m => by
    rw [List.map_cons] at nd
    obtain ⟨n1, n2⟩ := List.nodup_cons.mp nd
    rcases List.mem_cons.mp m with e | m
    · subst e
      rw [List.filter_cons_of_pos (by simp)]
      rw [List.filter_eq_nil_iff.mpr fun q mq => by
        rw [decide_eq_true_eq]
        exact fun e => n1 (e ▸ List.mem_map.mpr ⟨q, mq, rfl⟩)]
    · rw [List.filter_cons_of_neg (by
        rw [decide_eq_true_eq]
        exact fun e => n1 (e ▸ List.mem_map.mpr ⟨r, m, rfl⟩))]
      exact roadOne n2 m

theorem nodup_leI {l xs : List Int} (d : l.Nodup) (s : ∀ x ∈ l, x ∈ xs) : l.length ≤ xs.length := FO.pigeon _ _ d s
def spLFed (K : PySem.W.Frag) : Sp := fun vs H Q _ => ∃ (q wd nl rl el gl : Addr) (as gs : List Addr) (d : TaskD) (r : Road), vs = [.ref q, .int r.1] ∧ AskA K H q wd nl rl el gl as gs d ∧ (d.rs.map (·.1)).Nodup ∧ d.rs.length ≤ 30 ∧ r ∈ d.rs ∧ (r.2.1 = d.s → ∀ H', Same H H' → Q .non H') ∧ (r.2.1 ≠ d.s → ∀ (p : Addr) (H' : Hp), H p = none → Same H H' → H' p = some (.lst (((d.rs.filter fun x => decide (x.2.2.1 = r.2.1)).map (·.1)).map V.int)) → Q (.ref p) H')
def spLInputs (K : PySem.W.Frag) : Sp := fun vs H Q _ => ∃ (q wd nl rl el gl : Addr) (as gs : List Addr) (d : TaskD) (r : Road), vs = [.ref q, .int r.1] ∧ AskA K H q wd nl rl el gl as gs d ∧ (d.rs.map (·.1)).Nodup ∧ d.rs.length ≤ 30 ∧ r ∈ d.rs ∧ ∀ H', Same H H' → Q (.int (mixN d r)) H'
def spLCount (K : PySem.W.Frag) (f : TaskD → Int) : Sp := fun vs H Q _ => ∃ (q wd nl rl el gl : Addr) (as gs : List Addr) (d : TaskD), vs = [.ref q] ∧ AskA K H q wd nl rl el gl as gs d ∧ AskOk d ∧ ∀ H', Same H H' → Q (.int (f d)) H'
def spLTask (K : PySem.W.Frag) (A : Ad) : Sp := fun vs H Q _ => ∃ (q wd nl rl el gl : Addr) (as gs : List Addr) (d : TaskD), vs = [.ref q] ∧ AskA K H q wd nl rl el gl as gs d ∧ AskOk d ∧ ∀ (t : Addr) (ls : List Road) (H' : Hp), Same H H' → ls.Perm d.rs → TaskS K A H' t { d with rs := ls } → Q (.ref t) H'
section
variable {P : Program} {w : World} {K : PySem.W.Frag} {mg : Str → Option Value} {base : Heap} {A : Ad}
theorem sc_lfed : FnScope ["_law_ask_here", "_law_mark", "_law_roads", "_law_one", "_law_row"] ["_law_ask_here", "_law_mark"] (defScope (top 80)) := ⟨rfl, rfl, rfl, by decide +kernel, rfl, by decide +kernel, by decide +kernel⟩
theorem ok_lfed (T : Txt P w K mg A) : U.Cl P w K mg base 1 "_law_fed" (spLFed K) [] := by
  refine T.d_law_fed.ok sc_lfed (fun vs H Q E h => ?_) (fun f cdv Ar outer s H vs Q E hr h => ?_)
  · obtain ⟨q, wd, nl, rl, el, gl, as, gs, d, r, rfl, aa, nd, few, mr, kn, kr⟩ := h
    rfl
  · obtain ⟨q, wd, nl, rl, el, gl, as, gs, d, r, rfl, aa, nd, few, mr, kn, kr⟩ := h
    refine ⟨_, (pss_cons (ps_set (i := 2) sc_lfed.nd rfl (Or.inl rfl) (pe_ix ix_tup (pe_ix ix_tup (pv 0) pe_int (fun _ _ => rfl)) pe_int (fun _ _ => rfl)))
    (pss_cons (ps_set (i := 3) sc_lfed.nd rfl (Or.inr rfl) (pe_ix ix_list (pe_lc (own := [("_law_row", 4)]) (g := (gName 4)) (by exact rfl) sc_lfed.nd (pi_list (pv 2)) (blkOk_by (own := [("_law_row", 4)]) (N := ["_law_ask_here", "_law_mark", "_law_roads", "_law_one", "_law_row"]) (sc := defScope (top 80)) (by decide +kernel)) (fun _ _ _ _ _ => (pg_name (i := 4) sc_lfed.nd rfl (Or.inl rfl))) (fun _ _ _ _ _ => pts_one (pt_cmpR op_eq (pe_ix (U.ixT K rfl) (pv 4) pe_int (fun _ _ => rfl)) (pv 1) (nomark _))) (fun _ _ _ _ _ => (pe_ix (U.ixT K rfl) (pv 4) pe_int (fun _ _ => rfl)))) pe_int (fun _ _ => rfl)))
    (pss_one (ps_ret (pe_ifExp (pt_cmpR op_eq (pv 3) (pe_ix ix_tup (pv 0) pe_int (fun _ _ => rfl)) (nomark _)) pe_non (pe_lc (own := [("_law_row", 4)]) (g := (gName 4)) (by exact rfl) sc_lfed.nd (pi_list (pv 2)) (blkOk_by (own := [("_law_row", 4)]) (N := ["_law_ask_here", "_law_mark", "_law_roads", "_law_one", "_law_row"]) (sc := defScope (top 80)) (by decide +kernel)) (fun _ _ _ _ _ => (pg_name (i := 4) sc_lfed.nd rfl (Or.inl rfl))) (fun _ _ _ _ _ => pts_one (pt_cmpR op_eq (pe_ix (U.ixT K rfl) (pv 4) pe_int (fun _ _ => rfl)) (pv 3) (nomark _))) (fun _ _ _ _ _ => (pe_ix (U.ixT K rfl) (pv 4) pe_int (fun _ _ => rfl))))))))), ?_⟩
    have al := aa.ro.len
    walk_at "wt"
    with_reducible refine U.i_seq ?_
    walk_at "wt"
    refine U.i_ixT (SqT.of aa.tp) (v := .ref wd) (U.atI_of (j := 0) rfl rfl) ?_
    walk_at "wt"
    refine U.i_ixT (SqT.of aa.wtp) (v := .ref rl) (U.atI_of (j := 1) rfl rfl) ?_
    walk_at "wt"
    with_reducible refine U.i_seq ?_
    have orl := aa.rlo
    walk_at "wt"
    intro D hD
    refine lc_it walk_list (fun j H' => Same H H' ∧ H' D = some (.lst ((((d.rs.take j).filter fun x => decide (x.1 = r.1)).map (·.2.1)).map V.str))) ⟨same_new hD, upd_same⟩ (fun j H' _ h => SqL.of (h.1 _ _ orl)) ?_ ?_
    · rintro j v H6 H7 hj ⟨s7, oD⟩ ⟨rfl, hy⟩
      rw [List.getElem?_map] at hy
      obtain ⟨a, ea, rfl⟩ := Option.map_eq_some_iff.mp hy
      obtain ⟨x, ex, hx⟩ := aa.ro.get j a ea
      have hx7 : H7 a = some (.tup [V.int x.1, .str x.2.1, .str x.2.2.1, .int x.2.2.2]) := s7 _ _ hx
      have fl : ((d.rs.take j).filter fun x => decide (x.1 = r.1)).length ≤ 30 := by
        refine Nat.le_trans (List.length_filter_le _ _) ?_
        rw [List.length_take]
        omega
      walk_at "wt"
      refine ⟨rfl, ?_⟩
      walk_at "wt"
      refine U.i_ixT (SqT.of hx7) (U.atI_of (j := 0) rfl rfl) ?_
      walk_at "wt"
      refine U.ited (fun z => ?_) (fun z => ?_)
      rotate_left
      · refine ⟨s7, ?_⟩
        rw [U.take_succ_of ex, List.filter_append, List.filter_cons_of_neg (by simpa using z), List.filter_nil, List.append_nil]
        exact oD
      walk_at "wt"
      refine U.i_ixT (SqT.of hx7) (v := .str x.2.1) (U.atI_of (j := 1) rfl rfl) ?_
      refine ⟨_, oD, small1000 (by rw [List.length_map, List.length_map]; omega), same_own s7 hD, ?_⟩
      rw [U.take_succ_of ex, List.filter_append, List.filter_cons_of_pos (by exact decide_eq_true z), List.filter_nil, List.map_append, List.map_append]
      exact upd_same
    rintro H3 ⟨s3, oD⟩
    rw [List.length_map, al, List.take_length, roadOne nd mr] at oD
    have orl3 := s3 _ _ orl
    have htp3 := s3 _ _ aa.tp
    have ro3 := aa.ro.same s3
    walk_at "wt"
    refine U.i_ifE ?_
    walk_at "wt"
    refine U.i_ixT (SqT.of htp3) (v := .str d.s) (U.atI_of (j := 1) rfl rfl) ?_
    refine U.i_eqStr ?_
    refine ⟨_, rfl, ?_⟩
    refine U.ited (fun e => ?_) (fun e => ?_)
    · exact kn e H3 s3
    walk_at "wt"
    intro D2 hD2
    refine lc_it walk_list (fun j H' => Same H3 H' ∧ H' D2 = some (.lst ((((d.rs.take j).filter fun x => decide (x.2.2.1 = r.2.1)).map (·.1)).map V.int))) ⟨same_new hD2, upd_same⟩ (fun j H' _ h => SqL.of (h.1 _ _ orl3)) ?_ ?_
    · rintro j v H6 H7 hj ⟨s7, oD2⟩ ⟨rfl, hy⟩
      rw [List.getElem?_map] at hy
      obtain ⟨a, ea, rfl⟩ := Option.map_eq_some_iff.mp hy
      obtain ⟨x, ex, hx⟩ := ro3.get j a ea
      have hx7 : H7 a = some (.tup [V.int x.1, .str x.2.1, .str x.2.2.1, .int x.2.2.2]) := s7 _ _ hx
      have fl : ((d.rs.take j).filter fun x => decide (x.2.2.1 = r.2.1)).length ≤ 30 := by
        refine Nat.le_trans (List.length_filter_le _ _) ?_
        rw [List.length_take]
        omega
      walk_at "wt"
      refine ⟨rfl, ?_⟩
      walk_at "wt"
      refine U.i_ixT (SqT.of hx7) (U.atI_of (j := 2) rfl rfl) ?_
      walk_at "wt"
      refine U.i_eqStr ?_
      refine ⟨_, rfl, ?_⟩
      refine U.ited (fun z => ?_) (fun z => ?_)
      rotate_left
      · refine ⟨s7, ?_⟩
        rw [U.take_succ_of ex, List.filter_append, List.filter_cons_of_neg (by simpa using z), List.filter_nil, List.append_nil]
        exact oD2
      walk_at "wt"
      refine U.i_ixT (SqT.of hx7) (v := .int x.1) (U.atI_of (j := 0) rfl rfl) ?_
      refine ⟨_, oD2, small1000 (by rw [List.length_map, List.length_map]; omega), same_own s7 hD2, ?_⟩
      rw [U.take_succ_of ex, List.filter_append, List.filter_cons_of_pos (by exact decide_eq_true z), List.filter_nil, List.map_append, List.map_append]
      exact upd_same
    rintro H4 ⟨s4, oD2⟩
    rw [List.length_map, al, List.take_length] at oD2
    exact kr e D2 H4 (s3.free hD2) (s3.trans s4) oD2

theorem sc_linputs : FnScope ["_law_ask_here", "_law_mark", "_law_some"] ["_law_ask_here", "_law_mark"] (defScope (top 82)) := ⟨rfl, rfl, rfl, by decide +kernel, rfl, by decide +kernel, by decide +kernel⟩
theorem ok_linputs (T : Txt P w K mg A) : U.Cl P w K mg base 2 "_law_inputs" (spLInputs K) [] := by
  obtain ⟨_, _, _, F_lfed, g_lfed, k_lfed, bd_lfed⟩ := (ok_lfed (P := P) (w := w) (base := base) T).ex
  obtain ⟨_, d_lfed, b_lfed⟩ := bd_lfed 0 (by decide)
  refine T.d_law_inputs.ok sc_linputs (fun vs H Q E h => ?_) (fun f cdv Ar outer s H vs Q E hr h => ?_)
  · obtain ⟨q, wd, nl, rl, el, gl, as, gs, d, r, rfl, aa, nd, few, mr, k⟩ := h
    rfl
  · obtain ⟨q, wd, nl, rl, el, gl, as, gs, d, r, rfl, aa, nd, few, mr, k⟩ := h
    refine ⟨_, (pss_cons (ps_set (i := 2) sc_linputs.nd rfl (Or.inl rfl) (pe_call F_lfed (hr.mono (by decide)) rfl g_lfed k_lfed b_lfed d_lfed U.passN (pa_cons (pv 0) (pa_cons (pv 1) pa_nil))))
    (pss_one (ps_ret (pe_ifExp (pt_cmpR op_isN1 (pv 2) pe_non (nomark _)) (pe_ix ix_tup (pv 0) pe_int (fun _ _ => rfl)) (pe_callB U.u_len (by rfl) T.len PySem.boot_len (pa_cons (pv 2) pa_nil)))))), ?_⟩
    have aa0 := aa
    walk_at "wt"
    with_reducible refine U.i_seq ?_
    walk_at "wt"
    refine ⟨q, wd, nl, rl, el, gl, as, gs, d, r, rfl, aa0, nd, few, mr, fun e H' s => ?_, fun e p H' hp s op => ?_⟩
    · have htp := s _ _ aa.tp
      walk_at "wt"
      refine U.i_ifE ?_
      walk_at "wt"
      refine U.i_isNT rfl ?_
      refine ⟨true, rfl, U.iteT' ?_⟩
      walk_at "wt"
      refine U.i_ixT (SqT.of htp) (v := .int d.mn) (U.atI_of (j := 3) rfl rfl) ?_
      have := k H' s
      unfold mixN at this
      rw [if_pos e] at this
      exact this
    · walk_at "wt"
      refine U.i_ifE ?_
      walk_at "wt"
      refine U.i_isNF nofun ?_
      refine ⟨false, rfl, U.iteF' ?_⟩
      walk_at "wt"
      have := k H' s
      unfold mixN at this
      rw [if_neg e] at this
      rw [List.length_map, List.length_map]
      exact this

theorem sc_ltries : FnScope ["_law_ask_here", "_law_found", "_law_row", "_law_at"] ["_law_ask_here"] (defScope (top 90)) := ⟨rfl, rfl, rfl, by decide +kernel, rfl, by decide +kernel, by decide +kernel⟩
theorem ok_ltries (T : Txt P w K mg A) : U.Cl P w K mg base 3 "_law_tries" (spLCount K triesN) [] := by
  obtain ⟨_, _, _, F_linputs, g_linputs, k_linputs, bd_linputs⟩ := (ok_linputs (P := P) (w := w) (base := base) T).ex
  obtain ⟨_, d_linputs, b_linputs⟩ := bd_linputs 0 (by decide)
  refine T.d_law_tries.ok sc_ltries (fun vs H Q E h => ?_) (fun f cdv Ar outer s H vs Q E hr h => ?_)
  · obtain ⟨q, wd, nl, rl, el, gl, as, gs, d, rfl, aa, ok, k⟩ := h
    rfl
  · obtain ⟨q, wd, nl, rl, el, gl, as, gs, d, rfl, aa, ok, k⟩ := h
    refine ⟨_, (pss_cons (ps_set (i := 1) sc_ltries.nd rfl (Or.inl rfl) pe_int)
    (pss_cons (ps_for (passes_of (by exact rfl)) (by exact rfl) (pi_list (pe_ix ix_tup (pe_ix ix_tup (pv 0) pe_int (fun _ _ => rfl)) pe_int (fun _ _ => rfl))) (pg_name (i := 2) sc_ltries.nd rfl (Or.inl rfl))
    (pss_one (ps_for (passes_of (by exact rfl)) (by exact rfl) (pi_range1 (by rfl) T.range (pa_cons (pe_call F_linputs (hr.mono (by decide)) rfl g_linputs k_linputs b_linputs d_linputs U.passN (pa_cons (pv 0) (pa_cons (pe_ix ix_tup (pv 2) pe_int (fun _ _ => rfl)) pa_nil))) pa_nil)) (pg_name (i := 3) sc_ltries.nd rfl (Or.inl rfl))
    (pss_one (ps_set (i := 1) sc_ltries.nd rfl (Or.inl rfl) (pe_op U.u_mul (pv 1) (pe_ix ix_tup (pv 0) pe_int (fun _ _ => rfl))))))))
    (pss_one (ps_ret (pv 1))))), ?_⟩
    have al := aa.ro.len
    have rn := ok.put.rn
    have few := ok.put.few
    have rg := FM.size_rng ok.size
    obtain ⟨mn1, mn4⟩ := ok.many
    walk_at "wt"
    with_reducible refine U.i_seq ?_
    walk_at "wt"
    with_reducible refine U.i_seq ?_
    walk_at "wt"
    refine U.i_ixT (SqT.of aa.tp) (v := .ref wd) (U.atI_of (j := 0) rfl rfl) ?_
    walk_at "wt"
    refine U.i_ixT (SqT.of aa.wtp) (v := .ref rl) (U.atI_of (j := 1) rfl rfl) ?_
    have orl := aa.rlo
    walk_at "wt"
    have e0 : d.n ^ (((d.rs.take 0).map (mixN d)).sum).toNat = 1 := by simp
    refine for_it walk_list (fun i σ H' => ∃ v2 v3, σ = [some (.ref q), some (.int (d.n ^ (((d.rs.take i).map (mixN d)).sum).toNat)), v2, v3] ∧ Same H H') ⟨_, _, by rw [e0]; rfl, Same.refl _⟩ (fun i σ H' _ h => by obtain ⟨_, _, _, s⟩ := h; exact SqL.of (s _ _ orl)) ?_ ?_
    rotate_left
    · rintro σ H2 ⟨v2, v3, rfl, s2⟩
      rw [List.length_map, al, List.take_length]
      walk_at "wt"
      exact k _ s2
    rintro i v σ H2 H3 hi ⟨v2, v3, rfl, s2⟩ ⟨rfl, hy⟩
    rw [List.getElem?_map] at hy
    obtain ⟨a, ea, rfl⟩ := Option.map_eq_some_iff.mp hy
    obtain ⟨r, er, hr9⟩ := aa.ro.get i a ea
    have hr3 : H3 a = some (.tup [V.int r.1, .str r.2.1, .str r.2.2.1, .int r.2.2.2]) := s2 _ _ hr9
    have m0 := mixN_nn (d := d) (by omega) r
    have m30 := mixN_le (d := d) (by omega) few.2 r
    obtain ⟨s0, _⟩ := sum_bd ((d.rs.take i).map (mixN d)) (fun y my => by
      obtain ⟨x, _, rfl⟩ := List.mem_map.mp my
      exact ⟨mixN_nn (by omega) x, mixN_le (by omega) few.2 x⟩)
    have es : ((d.rs.take (i + 1)).map (mixN d)).sum = ((d.rs.take i).map (mixN d)).sum + mixN d r := by
      rw [U.take_succ_of er, List.map_append, List.sum_append]
      simp
    rw [es]
    generalize ((d.rs.take i).map (mixN d)).sum = S at s0 ⊢
    walk_at "wt"
    refine U.i_ixT (SqT.of hr3) (v := .int r.1) (U.atI_of (j := 0) rfl rfl) ?_
    walk_at "wt"
    refine ⟨q, wd, nl, rl, el, gl, as, gs, d, r, rfl, aa.same s2, rn, few.2, List.mem_of_getElem? er, fun H4 s4 => ?_⟩
    have s24 := s2.trans s4
    obtain ⟨m9, em9⟩ : ∃ m9 : Nat, mixN d r = (m9 : Int) := ⟨_, (Int.toNat_of_nonneg m0).symm⟩
    obtain ⟨S9, eS9⟩ : ∃ S9 : Nat, S = (S9 : Int) := ⟨_, (Int.toNat_of_nonneg s0).symm⟩
    rw [em9] at m30
    rw [em9, eS9]
    have htp4 := s24 _ _ aa.tp
    walk_at "wt"
    refine for_it (walk_range (n := m9)) (fun j σ H' => ∃ v3, σ = [some (.ref q), some (.int (d.n ^ (S9 + j))), some (.ref a), v3] ∧ H' = H4) ⟨_, by rw [Int.toNat_natCast]; rfl, rfl⟩ (fun _ _ _ _ _ => trivial) ?_ ?_
    · rintro j v σ H5 H6 hj ⟨v3, rfl, rfl⟩ ⟨rfl, rfl⟩
      generalize ep : d.n ^ (S9 + j) = pw
      have ep2 : d.n ^ (S9 + (j + 1)) = pw * d.n := by rw [← ep, ← Nat.add_assoc, Int.pow_succ]
      rw [ep2]
      walk_at "wt"
      refine U.i_ixT (SqT.of htp4) (v := .int d.n) (U.atI_of (j := 5) rfl rfl) ?_
      walk_at "wt"
      exact ⟨_, rfl, rfl⟩
    rintro σ H5 ⟨v3, rfl, rfl⟩
    walk_at "wt"
    exact ⟨_, _, by rw [show ((S9 : Int) + (m9 : Int)).toNat = S9 + m9 by omega], s24⟩

theorem sc_lcopy : FnScope ["_law_ask_here", "_law_found", "_law_row"] ["_law_ask_here"] (defScope (top 78)) := ⟨rfl, rfl, rfl, by decide +kernel, rfl, by decide +kernel, by decide +kernel⟩
theorem ok_lcopy (T : Txt P w K mg A) : U.Cl P w K mg base 3 "_law_copying_tries" (spLCount K copyN) [] := by
  obtain ⟨_, _, _, F_linputs, g_linputs, k_linputs, bd_linputs⟩ := (ok_linputs (P := P) (w := w) (base := base) T).ex
  obtain ⟨_, d_linputs, b_linputs⟩ := bd_linputs 0 (by decide)
  refine T.d_law_copying_tries.ok sc_lcopy (fun vs H Q E h => ?_) (fun f cdv Ar outer s H vs Q E hr h => ?_)
  · obtain ⟨q, wd, nl, rl, el, gl, as, gs, d, rfl, aa, ok, k⟩ := h
    rfl
  · obtain ⟨q, wd, nl, rl, el, gl, as, gs, d, rfl, aa, ok, k⟩ := h
    refine ⟨_, (pss_cons (ps_set (i := 1) sc_lcopy.nd rfl (Or.inl rfl) pe_int)
    (pss_cons (ps_for (passes_of (by exact rfl)) (by exact rfl) (pi_list (pe_ix ix_tup (pe_ix ix_tup (pv 0) pe_int (fun _ _ => rfl)) pe_int (fun _ _ => rfl))) (pg_name (i := 2) sc_lcopy.nd rfl (Or.inl rfl))
    (pss_one (ps_set (i := 1) sc_lcopy.nd rfl (Or.inl rfl) (pe_op U.u_mul (pv 1) (pe_op U.u_add pe_int (pe_call F_linputs (hr.mono (by decide)) rfl g_linputs k_linputs b_linputs d_linputs U.passN (pa_cons (pv 0) (pa_cons (pe_ix ix_tup (pv 2) pe_int (fun _ _ => rfl)) pa_nil))))))))
    (pss_one (ps_ret (pv 1))))), ?_⟩
    have al := aa.ro.len
    have rn := ok.put.rn
    have few := ok.put.few
    obtain ⟨mn1, mn4⟩ := ok.many
    walk_at "wt"
    with_reducible refine U.i_seq ?_
    walk_at "wt"
    with_reducible refine U.i_seq ?_
    walk_at "wt"
    refine U.i_ixT (SqT.of aa.tp) (v := .ref wd) (U.atI_of (j := 0) rfl rfl) ?_
    walk_at "wt"
    refine U.i_ixT (SqT.of aa.wtp) (v := .ref rl) (U.atI_of (j := 1) rfl rfl) ?_
    have orl := aa.rlo
    walk_at "wt"
    refine for_it walk_list (fun i σ H' => ∃ v2, σ = [some (.ref q), some (.int (((d.rs.take i).map fun r => mixN d r + 1).foldl (· * ·) 1)), v2] ∧ Same H H') ⟨_, rfl, Same.refl _⟩ (fun i σ H' _ h => by obtain ⟨_, _, s⟩ := h; exact SqL.of (s _ _ orl)) ?_ ?_
    rotate_left
    · rintro σ H2 ⟨v2, rfl, s2⟩
      rw [List.length_map, al, List.take_length]
      walk_at "wt"
      exact k _ s2
    rintro i v σ H2 H3 hi ⟨v2, rfl, s2⟩ ⟨rfl, hy⟩
    rw [List.getElem?_map] at hy
    obtain ⟨a, ea, rfl⟩ := Option.map_eq_some_iff.mp hy
    obtain ⟨r, er, hr9⟩ := aa.ro.get i a ea
    have hr3 : H3 a = some (.tup [V.int r.1, .str r.2.1, .str r.2.2.1, .int r.2.2.2]) := s2 _ _ hr9
    have m0 := mixN_nn (d := d) (by omega) r
    have m30 := mixN_le (d := d) (by omega) few.2 r
    have ef : ((d.rs.take (i + 1)).map fun r => mixN d r + 1).foldl (· * ·) 1 = ((d.rs.take i).map fun r => mixN d r + 1).foldl (· * ·) 1 * (1 + mixN d r) := by
      rw [U.take_succ_of er, List.map_append, List.foldl_append, Int.add_comm 1]
      rfl
    rw [ef]
    generalize ((d.rs.take i).map fun r => mixN d r + 1).foldl (· * ·) (1 : Int) = found
    walk_at "wt"
    refine U.i_ixT (SqT.of hr3) (v := .int r.1) (U.atI_of (j := 0) rfl rfl) ?_
    walk_at "wt"
    refine ⟨q, wd, nl, rl, el, gl, as, gs, d, r, rfl, aa.same s2, rn, few.2, List.mem_of_getElem? er, fun H4 s4 => ?_⟩
    have s24 := s2.trans s4
    walk_at "wt"
    exact ⟨_, rfl, s24⟩

theorem sc_ltask : FnScope ["_law_ask_here", "_law_world_here", "_law_root", "_law_ears", "_law_tally", "_law_gone_here", "_law_big"] ["_law_ask_here"] (defScope (top 89)) := ⟨rfl, rfl, rfl, by decide +kernel, rfl, by decide +kernel, by decide +kernel⟩
theorem ok_ltask (T : Txt P w K mg A) : U.Cl P w K mg base 8 "_law_task" (spLTask K A) [] := by
  obtain ⟨_, _, _, F_lplain, g_lplain, k_lplain, bd_lplain⟩ := (ok_lplain (P := P) (w := w) (base := base) T).ex
  obtain ⟨_, d_lplain, b_lplain⟩ := bd_lplain 0 (by decide)
  refine T.d_law_task.ok sc_ltask (fun vs H Q E h => ?_) (fun f cdv Ar outer s H vs Q E hr h => ?_)
  · obtain ⟨q, wd, nl, rl, el, gl, as, gs, d, rfl, aa, ok, k⟩ := h
    rfl
  · obtain ⟨q, wd, nl, rl, el, gl, as, gs, d, rfl, aa, ok, k⟩ := h
    obtain ⟨_, _, F_tinit, M_tinit, g_tinit, _, bk_tinit⟩ := (ok_tinit (P := P) (w := w) (base := base) T).ex
    refine ⟨_, (pss_cons (ps_asg (pv 0) (pg_tup (by exact rfl) (pgs_cons (pg_name (i := 1) sc_ltask.nd rfl (Or.inl rfl)) (pgs_cons (pg_name (i := 2) sc_ltask.nd rfl (Or.inl rfl)) (pgs_cons (pg_name (i := 3) sc_ltask.nd rfl (Or.inl rfl)) (pgs_cons (pg_name (i := 4) sc_ltask.nd rfl (Or.inl rfl)) (pgs_cons (pg_name (i := 5) sc_ltask.nd rfl (Or.inl rfl)) (pgs_cons (pg_name (i := 6) sc_ltask.nd rfl (Or.inl rfl)) pgs_nil))))))))
    (pss_one (ps_ret (pe_makeK M_tinit F_tinit (hr.mono (by decide)) rfl g_tinit bk_tinit U.passN (pa_cons (pe_call F_lplain (hr.mono (by decide)) rfl g_lplain k_lplain b_lplain d_lplain U.passN (pa_cons (pv 1) pa_nil)) (pa_cons (pv 2) (pa_cons (pe_callTy U.u_listOf (by rfl) T.list (by decide +kernel) (pa_cons (pv 3) pa_nil)) pa_nil))) (pk_cons (pv 4) (pk_cons (pe_callTy U.u_listOf (by rfl) T.list (by decide +kernel) (pa_cons (pv 5) pa_nil)) (pk_cons (pv 6) pk_nil))))))), ?_⟩
    have l60 : ∀ l ∈ d.ls, l.length ≤ 60 := fun l m => by
      obtain ⟨⟨_, r1⟩, r2⟩ := ok.lots.2.2 l m
      have nd : l.Nodup := r1.imp fun h e => by omega
      have := nodup_leI nd r2
      rw [List.length_map] at this
      have := ok.put.few
      omega
    walk_at "wt"
    with_reducible refine U.i_seq ?_
    walk_at "wt"
    refine U.i_gtup (SqT.of aa.tp) rfl ?_
    walk_at "wt"
    refine U.i_makeK ?_
    walk_at "wt"
    refine ⟨wd, nl, rl, d.ns, as, d.rs, rfl, aa.wtp, aa.nlo, aa.rlo, aa.ro, ok.put, fun x ls H1 s1 pl net => ?_⟩
    replace aa := aa.same s1
    have oel := aa.elo
    walk_at "wt"
    rename_i e2 he2 H2 s2 oe2
    have ogl := s2 _ _ aa.glo
    refine U.i_listOf (SqL.of ogl) fun g2 hg2 => ?_
    have s3 : Same H2 (upd H2 g2 (.lst (gs.map V.ref))) := same_new hg2
    have og3 : upd H2 g2 (.lst (gs.map V.ref)) g2 = some (.lst (gs.map V.ref)) := upd_same
    generalize upd H2 g2 (.lst (gs.map V.ref)) = H3 at s3 og3 ⊢
    have s13 := s2.trans s3
    have la := aa.lots.same s13
    have oe3 := s3 _ _ oe2
    replace net := net.same s13
    walk_at "wt"
    intro t dx np ndx nep
    have sm : Same H3 (upd (upd H3 dx (.own t)) t (.ins A.Task dx [])) := fun b o e => by
      have n1 : b ≠ t := fun z => by rw [z, np] at e; cases e
      have n2 : b ≠ dx := fun z => by rw [z, ndx] at e; cases e
      exact (upd_ne n1).trans ((upd_ne n2).trans e)
    have sz := ok.size
    refine ⟨t, dx, x, e2, g2, gs, { d with rs := ls }, rfl, upd_same, net.same sm, sm _ _ oe3, sm _ _ og3, la.same sm, ok.task pl, l60, fun _ ro fo wo nd rd eo go hs qs as' H' f1 f2 f3 f4 f5 bt ta => ⟨rfl, ?_⟩, fun h => absurd sz h⟩
    refine k t ls H' (fun b o e => ?_) pl ⟨ro, fo, wo, nd, rd, eo, go, hs, qs, as', ta⟩
    have e3 := s13 _ _ (s1 _ _ e)
    have n1 : b ≠ t := fun z => by rw [z, np] at e3; cases e3
    exact bt _ _ (sm _ _ e3) n1

end
end Lw
end

section
set_option Elab.async false
set_option linter.all false
set_option maxRecDepth 100000
set_option maxHeartbeats 4000000
/-! ### own steps (local) -/
local macro_rules | `(tactic| walk_at "hp") => `(tactic| first
  | assumption
  | exact L2.upd_same
  | ((with_reducible refine U.upd_new ?_ ?_); (focus (first | assumption | done)); walk_at "hp")
  | ((with_reducible refine U.upd_ne'' ?_ ?_); (focus (first | assumption | (apply Ne.symm; assumption))); walk_at "hp")
  | ((with_reducible refine' U.Same.get ?hx ?hy); (case hx => assumption); (case hy => walk_at "hp"))
  | ((with_reducible refine' U.ExtN.lst ?hx ?hy); (case hx => assumption); (case hy => walk_at "hp"))
  | ((with_reducible refine' U.ExtN.tup ?hx ?hy); (case hx => assumption); (case hy => walk_at "hp"))
  | ((with_reducible refine' U.ExtN.ins ?hx ?hy); (case hx => assumption); (case hy => walk_at "hp"))
  | fail "hp")
local macro_rules | `(tactic| walk_at "lay") => `(tactic| (intro p hn; generalize hg : L2.upd _ p _ = H'; have hs := U.same_of hg hn; have ho := U.at_of hg; clear hg))
local macro_rules | `(tactic| walk_at "sz") => `(tactic| first | decide | (show _ ≤ PySem.sizeLine; rw [PySem.sizeLine_eq]; (try simp only [List.length_cons, List.length_nil, List.length_map]); omega))
local macro_rules | `(tactic| walk_at "ref'") => `(tactic| skip)
local macro_rules | `(tactic| walk_at "rd1") => `(tactic| first
  | (with_reducible refine' U.i_seq ?_)
  | (with_reducible refine' U.i_asg ?_)
  | (with_reducible refine' U.i_ret ?_)
  | (with_reducible refine' U.i_ifS ?_)
  | (with_reducible refine' U.i_drop ?_)
  | ((with_reducible refine' U.i_var ?hx ?_); (case hx => rfl))
  | (with_reducible refine' U.i_c ?_)
  | (with_reducible refine' U.i_op ?_)
  | (with_reducible refine' U.i_un ?_)
  | (with_reducible refine' U.i_name ?_)
  | (with_reducible refine' U.i_gsub ?_)
  | (with_reducible refine' U.i_test ?_)
  | (with_reducible refine' U.i_tB ?_)
  | (with_reducible refine' U.i_bl ?_)
  | (with_reducible refine' U.i_not ?_)
  | (with_reducible refine' U.i_nil ?_)
  | (with_reducible refine' U.i_cons ?_)
  | (with_reducible refine' U.i_cb ?_)
  | (with_reducible refine' U.i_call ?_)
  | (with_reducible refine' U.i_fld ?_)
  | ((with_reducible refine' U.i_fld' ?hx ?hy ?hz ?hw ?_); (case hx => walk_at "hp"); (case hy => assumption); (case hz => assumption); (case hw => rfl))
  | (with_reducible refine' U.i_meth ?_)
  | ((with_reducible refine' U.i_meth' ?hx ?hy ?_); (case hx => walk_at "hp"); (case hy => rfl))
  | (with_reducible refine' U.i_add ?_)
  | (with_reducible refine' U.i_sub ?_)
  | ((with_reducible refine' U.i_mul ?hx ?_); (case hx => (first | (left; constructor <;> omega) | (right; constructor <;> omega))))
  | ((with_reducible refine' U.i_mod ?hx ?_); (case hx => omega))
  | ((with_reducible refine' U.i_fdiv ?hx ?_); (case hx => (constructor <;> omega)))
  | ((with_reducible refine' U.i_pow ?hx ?_); (case hx => (refine ⟨?_, ?_, ?_⟩ <;> decide)))
  | (with_reducible refine' U.i_lt ?_)
  | (with_reducible refine' U.i_le ?_)
  | (with_reducible refine' U.i_gt ?_)
  | (with_reducible refine' U.i_ge ?_)
  | (with_reducible refine' U.i_eqI ?_)
  | (with_reducible refine' U.i_neI ?_)
  | (with_reducible refine' U.i_rU ?_)
  | (with_reducible refine' U.i_abs ?_)
  | (with_reducible refine' U.i_callN ?_)
  | ((with_reducible refine' U.i_lens ?hx ?hy ?_); (case hx => rfl); (case hy => rfl))
  | ((with_reducible refine' U.i_ixL ?hx ?hy ?_); (case hx => exact L2.SqL.of (by walk_at "hp")); (case hy => rfl))
  | ((with_reducible refine' U.i_lenL ?hx ?_); (case hx => exact L2.SqL.of (by walk_at "hp")))
  | ((with_reducible refine' U.i_setL ?hx ?hy ?_); (case hx => walk_at "hp"); (case hy => rfl))
  | (with_reducible refine' U.i_augS ?_)
  | ((with_reducible refine' U.i_aug ?hx ?_); (case hx => rfl))
  | (with_reducible refine' U.i_ipI ?_)
  | ((with_reducible refine' U.i_ipMul ?hx ?_); (case hx => (first | (left; constructor <;> omega) | (right; constructor <;> omega))))
  | ((with_reducible refine' U.i_gtup ?hx ?hy ?_); (case hx => exact L2.SqT.of (by walk_at "hp")); (case hy => rfl))
  | (with_reducible refine' U.i_gcons ?_)
  | (with_reducible refine' U.i_gnil ?_)
  | ((with_reducible refine' U.i_divmod ?hx ?_); (case hx => (constructor <;> omega)); walk_at "lay")
  | (with_reducible refine' U.i_tup ?_)
  | (with_reducible refine' U.i_lst ?_)
  | ((with_reducible refine' U.lay_and ?hx ?_); (case hx => walk_at "sz"); walk_at "lay")
  | (with_reducible refine' U.i_sl ?_)
  | (with_reducible refine' U.i_part ?_)
  | (with_reducible refine' U.i_part' ?_)
  | (with_reducible refine' U.i_nopart ?_)
  | ((with_reducible refine' U.i_slL ?hx ?_); (case hx => exact L2.SqL.of (by walk_at "hp")); walk_at "lay")
  | (with_reducible refine' U.i_bm ?_)
  | ((with_reducible refine' U.i_bm' ?hx ?_); (case hx => walk_at "hp"))
  | ((with_reducible refine' U.i_append ?hx ?hy ?_); (case hx => walk_at "hp"); (case hy => walk_at "szl"))
  | ((with_reducible refine' U.i_chLL ?hx ?hy ?_); (case hx => rfl); (case hy => rfl))
  | (with_reducible refine' U.i_chain ?_)
  | (with_reducible refine' U.i_rng1 ?_)
  | ((with_reducible refine' U.i_rng1' ?hx ?hy ?_); (case hx => omega); (case hy => omega))
  | (with_reducible refine' U.i_rng2 ?_)
  | ((with_reducible refine' U.i_rng2' ?hx ?_); (case hx => (refine ⟨?_, ?_, ?_, ?_⟩ <;> omega)))
  | (with_reducible refine' U.i_rng3 ?_)
  | (with_reducible refine' U.i_enum ?_)
  | ((with_reducible refine' U.i_enum' ?hx ?_); (case hx => exact L2.SqL.of (by walk_at "hp")))
  | (with_reducible refine' U.i_enumT ?_)
  | ((with_reducible refine' U.i_enumT' ?hx ?_); (case hx => exact L2.SqT.of (by walk_at "hp")))
  | (with_reducible refine' U.i_rev ?_)
  | ((with_reducible refine' U.i_rev' ?hx ?_); (case hx => exact L2.SqL.of (by walk_at "hp")))
  | (with_reducible refine' U.i_plist ?_)
  | ((with_reducible refine' U.i_plist' ?hx ?_); (case hx => exact L2.SqL.of (by walk_at "hp")))
  | (with_reducible refine' U.i_for ?_)
  | (with_reducible refine' U.i_sfld ?_)
  | ((with_reducible refine' U.i_sfld' ?hx ?hy ?hz ?hw ?_); (case hx => walk_at "hp"); (case hy => assumption); (case hz => assumption); (case hw => exact Nat.le_of_ble_eq_true rfl))
  | (with_reducible refine' U.i_lc ?_)
  | (with_reducible refine' U.i_par3 ?_)
  | (with_reducible refine' U.i_par3' ?_)
  | (with_reducible refine' U.i_par ?_)
  | (with_reducible refine' U.i_par' ?_)
  | (with_reducible refine' U.i_lrg ?_)
  | (with_reducible refine' U.i_rg1 ?_)
  | (with_reducible refine' U.i_rg1' ?_)
  | (with_reducible refine' U.i_pl ?_)
  | ((with_reducible refine' U.i_pl' ?hx ?hy ?_); (case hx => walk_at "hp"); (case hy => exact Nat.le_of_ble_eq_true rfl))
  | (with_reducible refine' U.i_rAdd ?_)
  | ((with_reducible refine' U.i_listOf ?hx ?_); (case hx => exact L2.SqL.of (by walk_at "hp")); walk_at "lay")
  | (with_reducible refine' U.i_intB ?_)
  | (with_reducible refine' U.i_wget ?_)
  | ((with_reducible refine' U.i_tupleOf ?hx ?_); (case hx => walk_at "hp"); walk_at "lay")
  | ((with_reducible refine' U.i_repA ?hx ?hn ?h0 ?h1 ?h2 ?_); (case hx => walk_at "hp"); (case hn => simp); (case h0 => omega); (case h1 => omega); (case h2 => simp); intro p H' hs ho)
  | ((with_reducible refine' U.i_catA ?hx ?hy ?hz ?_); (case hx => walk_at "hp"); (case hy => walk_at "hp"); (case hz => walk_at "sz"); intro p H' hs ho)
  | ((with_reducible refine' U.i_slA ?hx ?_); (case hx => walk_at "hp"); intro p H' hs ho)
  | (with_reducible refine' U.i_zipS ?_)
  | ((with_reducible refine' U.i_zipTT ?hx ?hy ?_); (case hx => exact L2.SqT.of (by walk_at "hp")); (case hy => exact L2.SqT.of (by walk_at "hp")))
  | ((with_reducible refine' U.i_zipLL ?hx ?hy ?_); (case hx => exact L2.SqL.of (by walk_at "hp")); (case hy => exact L2.SqL.of (by walk_at "hp")))
  | (with_reducible refine' U.i_ptup ?_)
  | ((with_reducible refine' U.i_ptup' ?hx ?_); (case hx => exact L2.SqT.of (by walk_at "hp")))
  | ((with_reducible refine' U.i_lenT ?hx ?_); (case hx => exact L2.SqT.of (by walk_at "hp")))
  | (with_reducible refine' U.i_yes ?_)
  | (with_reducible refine' L2.iteT ?_)
  | (with_reducible refine' U.i_next ?_)
  | fail "rd1")
local macro_rules | `(tactic| walk_at "szl") => `(tactic| first | decide | (refine L2.small1000 ?_; (try simp only [List.length_cons, List.length_nil, List.length_map]); omega))
local macro_rules | `(tactic| walk_at "rd") => `(tactic| (repeat walk_at "rd1"))
local macro_rules | `(tactic| walk_at "ro") => `(tactic| (refine' U.i_or ?_; walk_at "rd"))
local macro_rules | `(tactic| walk_at "ra") => `(tactic| (refine' U.i_pt ?_; walk_at "rd"))
local macro_rules | `(tactic| walk_at "gd") => `(tactic| (repeat (first | walk_at "rd1" | (with_reducible refine' U.i_andV ?_))))

namespace Lw
open PySem L2 U LamX
local macro_rules | `(tactic| walk_at "fa") => `(tactic| first
  | assumption
  | ((with_reducible refine' Lw.FA.same ?hx ?hy); (case hy => assumption); (case hx => walk_at "fa"))
  | fail "fa")
local macro_rules | `(tactic| walk_at "bg") => `(tactic| first
  | assumption
  | ((with_reducible refine' Lw.Bag.same ?hx ?hy); (case hy => assumption); (case hx => walk_at "bg"))
  | fail "bg")
local macro_rules | `(tactic| walk_at "op2") => `(tactic| (refine' Lw.spOp.go ?fa ?ra ?rb ?q; (case fa => walk_at "fa"); (case ra => constructor <;> omega); (case rb => constructor <;> omega); intro H' s'; walk_at "rd"))

local macro_rules | `(tactic| walk_at "ty") => `(tactic| first | exact .base (.int _) | exact .base (.str _) | exact .base (.bl _) | exact .base .non | exact .base (.lst (by walk_at "hp")) | exact .base (.tup (by walk_at "hp")))
local macro_rules | `(tactic| walk_at "al") => `(tactic| (repeat (first
  | walk_at "rd1"
  | (with_reducible refine' U.i_andV ?_)
  | (with_reducible refine' U.i_notV ?_)
  | (with_reducible refine' U.i_truth ?_)
  | (with_reducible refine' U.i_or ?_)
  | (with_reducible refine' U.i_pt ?_)
  | ((with_reducible refine' U.i_isNT ?hx ?_); (case hx => rfl))
  | ((with_reducible refine' U.i_isNF ?hx ?_); (case hx => (intro z; cases z)))
  | ((with_reducible refine' U.i_isiT ?hx ?hy ?_); (case hx => walk_at "ty"); (case hy => decide +kernel))
  | ((with_reducible refine' U.i_isiF ?hx ?hy ?_); (case hx => walk_at "ty"); (case hy => decide +kernel))
  | (with_reducible refine' U.i_neBB ?_)
  | (with_reducible refine' U.i_eqBB ?_)
  | (with_reducible refine' U.i_eqSS ?_)
  | ((with_reducible refine' U.i_lenL ?hx ?_); (case hx => exact L2.SqL.of (by walk_at "hp")))
  | ((with_reducible refine' U.i_lenT ?hx ?_); (case hx => exact L2.SqT.of (by walk_at "hp")))
  | (with_reducible refine' U.iteT' ?_)
  | (with_reducible refine' U.iteF' ?_)
  | fail "al")))

local macro_rules | `(tactic| walk_at "gq") => `(tactic| (repeat (first | ((fail_if_success (with_reducible refine' U.i_seq ?_)); (first | walk_at "rd1" | (with_reducible refine' U.i_andV ?_))) | fail "gq")))
local macro_rules | `(tactic| walk_at "rq") => `(tactic| (repeat (first | ((fail_if_success (with_reducible refine' U.i_seq ?_)); walk_at "rd1") | fail "rq")))
local macro_rules | `(tactic| walk_at "nt") => `(tactic| (repeat (first
  | walk_at "rd1"
  | (with_reducible refine' U.i_dni ?_)
  | (with_reducible refine' U.i_din ?_)
  | (with_reducible refine' U.i_dgt ?_)
  | (with_reducible refine' U.i_dpt ?_)
  | (with_reducible refine' U.i_dnew ?_)
  | ((with_reducible refine' U.i_dniN ?hx ?_); (case hx => walk_at "hp"))
  | ((with_reducible refine' U.i_dinN ?hx ?_); (case hx => walk_at "hp"))
  | ((with_reducible refine' U.i_dniR ?hx ?_); (case hx => walk_at "hp"))
  | ((with_reducible refine' U.i_dinR ?hx ?_); (case hx => walk_at "hp"))
  | (with_reducible refine' U.i_or ?_)
  | (with_reducible refine' U.i_pt ?_)
  | fail "nt")))
local macro_rules | `(tactic| walk_at "wt") => `(tactic| (repeat (first
  | ((fail_if_success (with_reducible refine' U.i_seq ?_)); walk_at "rd1")
  | (with_reducible refine' U.i_dni ?_)
  | (with_reducible refine' U.i_din ?_)
  | (with_reducible refine' U.i_dgt ?_)
  | (with_reducible refine' U.i_dpt ?_)
  | (with_reducible refine' U.i_dnew ?_)
  | ((with_reducible refine' U.i_dniU ?hx ?_); (case hx => walk_at "hp"))
  | ((with_reducible refine' U.i_dinU ?hx ?_); (case hx => walk_at "hp"))
  | ((with_reducible refine' U.i_dniS ?hx ?_); (case hx => walk_at "hp"))
  | ((with_reducible refine' U.i_dinS ?hx ?_); (case hx => walk_at "hp"))
  | (with_reducible refine' U.i_pt ?_)
  | fail "wt")))

def spNeedMost (A : Ad) : Sp := fun vs H Q E => ∃ m : Int, vs = [.int m] ∧ ((1 ≤ m ∧ m ≤ 4096) → Q .non H) ∧ (¬ (1 ≤ m ∧ m ≤ 4096) → E (.ref A.BadNumber) none H)
/-- Heavy with that many tries -/
def RaisedH (A : Ad) (E : XK) (H : Hp) (n : Int) : Prop := ∀ (d : Addr) (H' : Hp), H d = none → Same H H' → H' d = some (.xd [("tries", .int n)]) → E (.ref A.Heavy) (some d) H'
def spNeedLight (A : Ad) : Sp := fun vs H Q E => ∃ n m : Int, vs = [.int n, .int m] ∧ (n ≤ m → Q .non H) ∧ (m < n → RaisedH A E H n)
/-- first_plan, first_copying where they refuse -/
def spFirst (K : PySem.W.Frag) (A : Ad) (f : TaskD → Int) : Sp := fun vs H _ E => ∃ (t : Addr) (d : TaskD) (m : Int), vs = [.ref t, .int m] ∧ TaskS K A H t d ∧ (∀ r ∈ d.rs, r.2.1 ∈ d.ns) ∧ 1 ≤ d.mn ∧ d.mn ≤ 4 ∧ (¬ (1 ≤ m ∧ m ≤ 4096) → E (.ref A.BadNumber) none H) ∧ ((1 ≤ m ∧ m ≤ 4096) → m < f d ∧ ∀ H1, Same H H1 → RaisedH A E H1 (f d))
section
variable {P : Program} {w : World} {K : PySem.W.Frag} {mg : Str → Option Value} {base : Heap} {A : Ad}
theorem sc_exHeavy : FnScope ["self", "tries"] ["self", "tries"] (defScope (inClass (top 16) 0)) := ⟨rfl, rfl, rfl, by decide +kernel, rfl, by decide +kernel, by decide +kernel⟩
theorem ok_exHeavy (T : Txt P w K mg A) : U.El P w K mg base "Heavy" A.Heavy "tries" :=
  T.xi_Heavy.ok sc_exHeavy fun _ _ _ _ _ _ _ => pss_one (U.ps_ostB (pv 0) (pv 1))
theorem sc_nmost : FnScope ["most"] ["most"] (defScope (top 47)) := ⟨rfl, rfl, rfl, by decide +kernel, rfl, by decide +kernel, by decide +kernel⟩
theorem ok_nmost (T : Txt P w K mg A) : U.Cl P w K mg base 1 "need_most" (spNeedMost A) [] := by
  refine T.d_need_most.ok sc_nmost (fun vs H Q E h => ?_) (fun f cdv Ar outer s H vs Q E hr h => ?_)
  · obtain ⟨m, rfl, kq, ke⟩ := h
    rfl
  · obtain ⟨m, rfl, kq, ke⟩ := h
    refine ⟨_, (pss_one (ps_if (pt_not (pt_chain U.u_le U.u_le pe_int (pv 0) (U.pe_gval rfl T.g_MOST_TRIES)))
    (pss_one (U.ps_raise0 rfl (L2N.takes_of rfl rfl rfl rfl) T.e_BadNumber))
    pss_nil)), ?_⟩
    walk_at "wt"
    refine U.ited (fun z => ?_) (fun z => ?_)
    · walk_at "wt"
      refine U.itedn (fun z2 => ?_) (fun z2 => ?_)
      · walk_at "wt"
        exact ke (by omega)
      · walk_at "wt"
        exact kq (by omega)
    · refine ⟨_, rfl, ?_⟩
      walk_at "wt"
      exact ke (by omega)

theorem sc_nlight : FnScope ["count", "most"] ["count", "most"] (defScope (top 48)) := ⟨rfl, rfl, rfl, by decide +kernel, rfl, by decide +kernel, by decide +kernel⟩
theorem ok_nlight (T : Txt P w K mg A) : U.Cl P w K mg base 3 "need_light" (spNeedLight A) [] := by
  refine T.d_need_light.ok sc_nlight (fun vs H Q E h => ?_) (fun f cdv Ar outer s H vs Q E hr h => ?_)
  · obtain ⟨n, m, rfl, kq, ke⟩ := h
    rfl
  · obtain ⟨n, m, rfl, kq, ke⟩ := h
    obtain ⟨_, _, _, F_Heavy, O_Heavy, i_Heavy, t_Heavy, g_Heavy, _, d_Heavy, b_Heavy⟩ := (ok_exHeavy (P := P) (w := w) (base := base) T).ex
    refine ⟨_, (pss_one (ps_if (pt_cmpR U.u_gt (pv 0) (pv 1) (nomark _))
    (pss_one (U.ps_raiseB rfl (L2N.takes_of rfl rfl rfl rfl) O_Heavy i_Heavy t_Heavy F_Heavy (hr.mono (by decide)) b_Heavy d_Heavy U.passN rfl g_Heavy (pa_cons (pv 0) pa_nil)))
    pss_nil)), ?_⟩
    walk_at "wt"
    refine U.ited (fun z => ?_) (fun z => ?_)
    · walk_at "wt"
      refine U.i_mkO ?_
      walk_at "wt"
      exact U.mkB fun d H' hd s o => ke (by omega) d H' hd s o
    · walk_at "wt"
      exact kq (by omega)

theorem sc_ftries : FnScope ["task", "most", "number", "many"] ["task", "most"] (defScope (top 55)) := ⟨rfl, rfl, rfl, by decide +kernel, rfl, by decide +kernel, by decide +kernel⟩
theorem ok_ftries (T : Txt P w K mg A) : U.ClK P w K mg base 9 "first_plan" ["task", "most"] (spFirst K A triesN) (fun fd => U.BN K fd ["task", "most"] 1 ["most"] (fun vs zs => vs ++ zs)) := by
  obtain ⟨_, _, _, F_nmost, g_nmost, k_nmost, bd_nmost⟩ := (ok_nmost (P := P) (w := w) (base := base) T).ex
  obtain ⟨_, d_nmost, b_nmost⟩ := bd_nmost 0 (by decide)
  obtain ⟨_, _, _, F_nlight, g_nlight, k_nlight, bd_nlight⟩ := (ok_nlight (P := P) (w := w) (base := base) T).ex
  obtain ⟨_, d_nlight, b_nlight⟩ := bd_nlight 0 (by decide)
  obtain ⟨_, _, _, F_tries, g_tries, k_tries, bd_tries⟩ := (ok_tries (P := P) (w := w) (base := base) T).ex
  obtain ⟨_, d_tries, b_tries⟩ := bd_tries 0 (by decide)
  refine T.d_first_plan.ok sc_ftries (fun vs H Q E h => ?_) (fun f cdv Ar outer s H vs Q E hr h => ?_)
  · obtain ⟨t, d, m, rfl, ts, mn, m1, m4, ke, kk⟩ := h
    rfl
  · obtain ⟨t, d, m, rfl, ts, mn, m1, m4, ke, kk⟩ := h
    refine ⟨_, (pss_cons (ps_expr (pe_call F_nmost (hr.mono (by decide)) rfl g_nmost k_nmost b_nmost d_nmost (passE (L2N.takes_of rfl rfl rfl rfl)) (pa_cons (pv 1) pa_nil)))
    (pss_cons (ps_expr (pe_call F_nlight (hr.mono (by decide)) rfl g_nlight k_nlight b_nlight d_nlight (passE (L2N.takes_of rfl rfl rfl rfl)) (pa_cons (pe_call F_tries (hr.mono (by decide)) rfl g_tries k_tries b_tries d_tries (passE (L2N.takes_of rfl rfl rfl rfl)) (pa_cons (pv 0) pa_nil)) (pa_cons (pv 1) pa_nil))))
    (pss_one ps_never))), ?_⟩
    walk_at "wt"
    with_reducible refine U.i_seq ?_
    walk_at "wt"
    refine ⟨m, rfl, fun g => ?_, fun g => ke g⟩
    obtain ⟨lt, kh⟩ := kk g
    with_reducible refine U.i_seq ?_
    walk_at "wt"
    refine ⟨t, d, rfl, ts, mn, m1, m4, fun H1 s1 => ?_⟩
    walk_at "wt"
    exact ⟨_, m, rfl, fun z => absurd lt (by omega), fun _ => kh H1 s1⟩

theorem sc_fcopyt : FnScope ["task", "most", "number", "many"] ["task", "most"] (defScope (top 56)) := ⟨rfl, rfl, rfl, by decide +kernel, rfl, by decide +kernel, by decide +kernel⟩
theorem ok_fcopyt (T : Txt P w K mg A) : U.ClK P w K mg base 9 "first_copying" ["task", "most"] (spFirst K A copyN) (fun fd => U.BN K fd ["task", "most"] 1 ["most"] (fun vs zs => vs ++ zs)) := by
  obtain ⟨_, _, _, F_nmost, g_nmost, k_nmost, bd_nmost⟩ := (ok_nmost (P := P) (w := w) (base := base) T).ex
  obtain ⟨_, d_nmost, b_nmost⟩ := bd_nmost 0 (by decide)
  obtain ⟨_, _, _, F_nlight, g_nlight, k_nlight, bd_nlight⟩ := (ok_nlight (P := P) (w := w) (base := base) T).ex
  obtain ⟨_, d_nlight, b_nlight⟩ := bd_nlight 0 (by decide)
  obtain ⟨_, _, _, F_copyt, g_copyt, k_copyt, bd_copyt⟩ := (ok_copyt (P := P) (w := w) (base := base) T).ex
  obtain ⟨_, d_copyt, b_copyt⟩ := bd_copyt 0 (by decide)
  refine T.d_first_copying.ok sc_fcopyt (fun vs H Q E h => ?_) (fun f cdv Ar outer s H vs Q E hr h => ?_)
  · obtain ⟨t, d, m, rfl, ts, mn, m1, m4, ke, kk⟩ := h
    rfl
  · obtain ⟨t, d, m, rfl, ts, mn, m1, m4, ke, kk⟩ := h
    refine ⟨_, (pss_cons (ps_expr (pe_call F_nmost (hr.mono (by decide)) rfl g_nmost k_nmost b_nmost d_nmost (passE (L2N.takes_of rfl rfl rfl rfl)) (pa_cons (pv 1) pa_nil)))
    (pss_cons (ps_expr (pe_call F_nlight (hr.mono (by decide)) rfl g_nlight k_nlight b_nlight d_nlight (passE (L2N.takes_of rfl rfl rfl rfl)) (pa_cons (pe_call F_copyt (hr.mono (by decide)) rfl g_copyt k_copyt b_copyt d_copyt (passE (L2N.takes_of rfl rfl rfl rfl)) (pa_cons (pv 0) pa_nil)) (pa_cons (pv 1) pa_nil))))
    (pss_one ps_never))), ?_⟩
    walk_at "wt"
    with_reducible refine U.i_seq ?_
    walk_at "wt"
    refine ⟨m, rfl, fun g => ?_, fun g => ke g⟩
    obtain ⟨lt, kh⟩ := kk g
    with_reducible refine U.i_seq ?_
    walk_at "wt"
    refine ⟨t, d, rfl, ts, mn, m1, m4, fun H1 s1 => ?_⟩
    walk_at "wt"
    exact ⟨_, m, rfl, fun z => absurd lt (by omega), fun _ => kh H1 s1⟩

end
end Lw
end

section
set_option Elab.async false
set_option linter.all false
set_option maxRecDepth 100000
set_option maxHeartbeats 4000000
/-! ### own steps (local) -/
local macro_rules | `(tactic| walk_at "hp") => `(tactic| first
  | assumption
  | exact L2.upd_same
  | ((with_reducible refine U.upd_new ?_ ?_); (focus (first | assumption | done)); walk_at "hp")
  | ((with_reducible refine U.upd_ne'' ?_ ?_); (focus (first | assumption | (apply Ne.symm; assumption))); walk_at "hp")
  | ((with_reducible refine' U.Same.get ?hx ?hy); (case hx => assumption); (case hy => walk_at "hp"))
  | ((with_reducible refine' U.ExtN.lst ?hx ?hy); (case hx => assumption); (case hy => walk_at "hp"))
  | ((with_reducible refine' U.ExtN.tup ?hx ?hy); (case hx => assumption); (case hy => walk_at "hp"))
  | ((with_reducible refine' U.ExtN.ins ?hx ?hy); (case hx => assumption); (case hy => walk_at "hp"))
  | fail "hp")
local macro_rules | `(tactic| walk_at "lay") => `(tactic| (intro p hn; generalize hg : L2.upd _ p _ = H'; have hs := U.same_of hg hn; have ho := U.at_of hg; clear hg))
local macro_rules | `(tactic| walk_at "sz") => `(tactic| first | decide | (show _ ≤ PySem.sizeLine; rw [PySem.sizeLine_eq]; (try simp only [List.length_cons, List.length_nil, List.length_map]); omega))
local macro_rules | `(tactic| walk_at "ref'") => `(tactic| skip)
local macro_rules | `(tactic| walk_at "rd1") => `(tactic| first
  | (with_reducible refine' U.i_seq ?_)
  | (with_reducible refine' U.i_asg ?_)
  | (with_reducible refine' U.i_ret ?_)
  | (with_reducible refine' U.i_ifS ?_)
  | (with_reducible refine' U.i_drop ?_)
  | ((with_reducible refine' U.i_var ?hx ?_); (case hx => rfl))
  | (with_reducible refine' U.i_c ?_)
  | (with_reducible refine' U.i_op ?_)
  | (with_reducible refine' U.i_un ?_)
  | (with_reducible refine' U.i_name ?_)
  | (with_reducible refine' U.i_gsub ?_)
  | (with_reducible refine' U.i_test ?_)
  | (with_reducible refine' U.i_tB ?_)
  | (with_reducible refine' U.i_bl ?_)
  | (with_reducible refine' U.i_not ?_)
  | (with_reducible refine' U.i_nil ?_)
  | (with_reducible refine' U.i_cons ?_)
  | (with_reducible refine' U.i_cb ?_)
  | (with_reducible refine' U.i_call ?_)
  | (with_reducible refine' U.i_fld ?_)
  | ((with_reducible refine' U.i_fld' ?hx ?hy ?hz ?hw ?_); (case hx => walk_at "hp"); (case hy => assumption); (case hz => assumption); (case hw => rfl))
  | (with_reducible refine' U.i_meth ?_)
  | ((with_reducible refine' U.i_meth' ?hx ?hy ?_); (case hx => walk_at "hp"); (case hy => rfl))
  | (with_reducible refine' U.i_add ?_)
  | (with_reducible refine' U.i_sub ?_)
  | ((with_reducible refine' U.i_mul ?hx ?_); (case hx => (first | (left; constructor <;> omega) | (right; constructor <;> omega))))
  | ((with_reducible refine' U.i_mod ?hx ?_); (case hx => omega))
  | ((with_reducible refine' U.i_fdiv ?hx ?_); (case hx => (constructor <;> omega)))
  | ((with_reducible refine' U.i_pow ?hx ?_); (case hx => (refine ⟨?_, ?_, ?_⟩ <;> decide)))
  | (with_reducible refine' U.i_lt ?_)
  | (with_reducible refine' U.i_le ?_)
  | (with_reducible refine' U.i_gt ?_)
  | (with_reducible refine' U.i_ge ?_)
  | (with_reducible refine' U.i_eqI ?_)
  | (with_reducible refine' U.i_neI ?_)
  | (with_reducible refine' U.i_rU ?_)
  | (with_reducible refine' U.i_abs ?_)
  | (with_reducible refine' U.i_callN ?_)
  | ((with_reducible refine' U.i_lens ?hx ?hy ?_); (case hx => rfl); (case hy => rfl))
  | ((with_reducible refine' U.i_ixL ?hx ?hy ?_); (case hx => exact L2.SqL.of (by walk_at "hp")); (case hy => rfl))
  | ((with_reducible refine' U.i_lenL ?hx ?_); (case hx => exact L2.SqL.of (by walk_at "hp")))
  | ((with_reducible refine' U.i_setL ?hx ?hy ?_); (case hx => walk_at "hp"); (case hy => rfl))
  | (with_reducible refine' U.i_augS ?_)
  | ((with_reducible refine' U.i_aug ?hx ?_); (case hx => rfl))
  | (with_reducible refine' U.i_ipI ?_)
  | ((with_reducible refine' U.i_ipMul ?hx ?_); (case hx => (first | (left; constructor <;> omega) | (right; constructor <;> omega))))
  | ((with_reducible refine' U.i_gtup ?hx ?hy ?_); (case hx => exact L2.SqT.of (by walk_at "hp")); (case hy => rfl))
  | (with_reducible refine' U.i_gcons ?_)
  | (with_reducible refine' U.i_gnil ?_)
  | ((with_reducible refine' U.i_divmod ?hx ?_); (case hx => (constructor <;> omega)); walk_at "lay")
  | (with_reducible refine' U.i_tup ?_)
  | (with_reducible refine' U.i_lst ?_)
  | ((with_reducible refine' U.lay_and ?hx ?_); (case hx => walk_at "sz"); walk_at "lay")
  | (with_reducible refine' U.i_sl ?_)
  | (with_reducible refine' U.i_part ?_)
  | (with_reducible refine' U.i_part' ?_)
  | (with_reducible refine' U.i_nopart ?_)
  | ((with_reducible refine' U.i_slL ?hx ?_); (case hx => exact L2.SqL.of (by walk_at "hp")); walk_at "lay")
  | (with_reducible refine' U.i_bm ?_)
  | ((with_reducible refine' U.i_bm' ?hx ?_); (case hx => walk_at "hp"))
  | ((with_reducible refine' U.i_append ?hx ?hy ?_); (case hx => walk_at "hp"); (case hy => walk_at "szl"))
  | ((with_reducible refine' U.i_chLL ?hx ?hy ?_); (case hx => rfl); (case hy => rfl))
  | (with_reducible refine' U.i_chain ?_)
  | (with_reducible refine' U.i_rng1 ?_)
  | ((with_reducible refine' U.i_rng1' ?hx ?hy ?_); (case hx => omega); (case hy => omega))
  | (with_reducible refine' U.i_rng2 ?_)
  | ((with_reducible refine' U.i_rng2' ?hx ?_); (case hx => (refine ⟨?_, ?_, ?_, ?_⟩ <;> omega)))
  | (with_reducible refine' U.i_rng3 ?_)
  | (with_reducible refine' U.i_enum ?_)
  | ((with_reducible refine' U.i_enum' ?hx ?_); (case hx => exact L2.SqL.of (by walk_at "hp")))
  | (with_reducible refine' U.i_enumT ?_)
  | ((with_reducible refine' U.i_enumT' ?hx ?_); (case hx => exact L2.SqT.of (by walk_at "hp")))
  | (with_reducible refine' U.i_rev ?_)
  | ((with_reducible refine' U.i_rev' ?hx ?_); (case hx => exact L2.SqL.of (by walk_at "hp")))
  | (with_reducible refine' U.i_plist ?_)
  | ((with_reducible refine' U.i_plist' ?hx ?_); (case hx => exact L2.SqL.of (by walk_at "hp")))
  | (with_reducible refine' U.i_for ?_)
  | (with_reducible refine' U.i_sfld ?_)
  | ((with_reducible refine' U.i_sfld' ?hx ?hy ?hz ?hw ?_); (case hx => walk_at "hp"); (case hy => assumption); (case hz => assumption); (case hw => exact Nat.le_of_ble_eq_true rfl))
  | (with_reducible refine' U.i_lc ?_)
  | (with_reducible refine' U.i_par3 ?_)
  | (with_reducible refine' U.i_par3' ?_)
  | (with_reducible refine' U.i_par ?_)
  | (with_reducible refine' U.i_par' ?_)
  | (with_reducible refine' U.i_lrg ?_)
  | (with_reducible refine' U.i_rg1 ?_)
  | (with_reducible refine' U.i_rg1' ?_)
  | (with_reducible refine' U.i_pl ?_)
  | ((with_reducible refine' U.i_pl' ?hx ?hy ?_); (case hx => walk_at "hp"); (case hy => exact Nat.le_of_ble_eq_true rfl))
  | (with_reducible refine' U.i_rAdd ?_)
  | ((with_reducible refine' U.i_listOf ?hx ?_); (case hx => exact L2.SqL.of (by walk_at "hp")); walk_at "lay")
  | (with_reducible refine' U.i_intB ?_)
  | (with_reducible refine' U.i_wget ?_)
  | ((with_reducible refine' U.i_tupleOf ?hx ?_); (case hx => walk_at "hp"); walk_at "lay")
  | ((with_reducible refine' U.i_repA ?hx ?hn ?h0 ?h1 ?h2 ?_); (case hx => walk_at "hp"); (case hn => simp); (case h0 => omega); (case h1 => omega); (case h2 => simp); intro p H' hs ho)
  | ((with_reducible refine' U.i_catA ?hx ?hy ?hz ?_); (case hx => walk_at "hp"); (case hy => walk_at "hp"); (case hz => walk_at "sz"); intro p H' hs ho)
  | ((with_reducible refine' U.i_slA ?hx ?_); (case hx => walk_at "hp"); intro p H' hs ho)
  | (with_reducible refine' U.i_zipS ?_)
  | ((with_reducible refine' U.i_zipTT ?hx ?hy ?_); (case hx => exact L2.SqT.of (by walk_at "hp")); (case hy => exact L2.SqT.of (by walk_at "hp")))
  | ((with_reducible refine' U.i_zipLL ?hx ?hy ?_); (case hx => exact L2.SqL.of (by walk_at "hp")); (case hy => exact L2.SqL.of (by walk_at "hp")))
  | (with_reducible refine' U.i_ptup ?_)
  | ((with_reducible refine' U.i_ptup' ?hx ?_); (case hx => exact L2.SqT.of (by walk_at "hp")))
  | ((with_reducible refine' U.i_lenT ?hx ?_); (case hx => exact L2.SqT.of (by walk_at "hp")))
  | (with_reducible refine' U.i_yes ?_)
  | (with_reducible refine' L2.iteT ?_)
  | (with_reducible refine' U.i_next ?_)
  | fail "rd1")
local macro_rules | `(tactic| walk_at "szl") => `(tactic| first | decide | (refine L2.small1000 ?_; (try simp only [List.length_cons, List.length_nil, List.length_map]); omega))
local macro_rules | `(tactic| walk_at "rd") => `(tactic| (repeat walk_at "rd1"))
local macro_rules | `(tactic| walk_at "ro") => `(tactic| (refine' U.i_or ?_; walk_at "rd"))
local macro_rules | `(tactic| walk_at "ra") => `(tactic| (refine' U.i_pt ?_; walk_at "rd"))
local macro_rules | `(tactic| walk_at "gd") => `(tactic| (repeat (first | walk_at "rd1" | (with_reducible refine' U.i_andV ?_))))

namespace Lw
open PySem L2 U LamX
local macro_rules | `(tactic| walk_at "fa") => `(tactic| first
  | assumption
  | ((with_reducible refine' Lw.FA.same ?hx ?hy); (case hy => assumption); (case hx => walk_at "fa"))
  | fail "fa")
local macro_rules | `(tactic| walk_at "bg") => `(tactic| first
  | assumption
  | ((with_reducible refine' Lw.Bag.same ?hx ?hy); (case hy => assumption); (case hx => walk_at "bg"))
  | fail "bg")
local macro_rules | `(tactic| walk_at "op2") => `(tactic| (refine' Lw.spOp.go ?fa ?ra ?rb ?q; (case fa => walk_at "fa"); (case ra => constructor <;> omega); (case rb => constructor <;> omega); intro H' s'; walk_at "rd"))

local macro_rules | `(tactic| walk_at "ty") => `(tactic| first | exact .base (.int _) | exact .base (.str _) | exact .base (.bl _) | exact .base .non | exact .base (.lst (by walk_at "hp")) | exact .base (.tup (by walk_at "hp")))
local macro_rules | `(tactic| walk_at "al") => `(tactic| (repeat (first
  | walk_at "rd1"
  | (with_reducible refine' U.i_andV ?_)
  | (with_reducible refine' U.i_notV ?_)
  | (with_reducible refine' U.i_truth ?_)
  | (with_reducible refine' U.i_or ?_)
  | (with_reducible refine' U.i_pt ?_)
  | ((with_reducible refine' U.i_isNT ?hx ?_); (case hx => rfl))
  | ((with_reducible refine' U.i_isNF ?hx ?_); (case hx => (intro z; cases z)))
  | ((with_reducible refine' U.i_isiT ?hx ?hy ?_); (case hx => walk_at "ty"); (case hy => decide +kernel))
  | ((with_reducible refine' U.i_isiF ?hx ?hy ?_); (case hx => walk_at "ty"); (case hy => decide +kernel))
  | (with_reducible refine' U.i_neBB ?_)
  | (with_reducible refine' U.i_eqBB ?_)
  | (with_reducible refine' U.i_eqSS ?_)
  | ((with_reducible refine' U.i_lenL ?hx ?_); (case hx => exact L2.SqL.of (by walk_at "hp")))
  | ((with_reducible refine' U.i_lenT ?hx ?_); (case hx => exact L2.SqT.of (by walk_at "hp")))
  | (with_reducible refine' U.iteT' ?_)
  | (with_reducible refine' U.iteF' ?_)
  | fail "al")))

local macro_rules | `(tactic| walk_at "gq") => `(tactic| (repeat (first | ((fail_if_success (with_reducible refine' U.i_seq ?_)); (first | walk_at "rd1" | (with_reducible refine' U.i_andV ?_))) | fail "gq")))
local macro_rules | `(tactic| walk_at "rq") => `(tactic| (repeat (first | ((fail_if_success (with_reducible refine' U.i_seq ?_)); walk_at "rd1") | fail "rq")))
local macro_rules | `(tactic| walk_at "nt") => `(tactic| (repeat (first
  | walk_at "rd1"
  | (with_reducible refine' U.i_dni ?_)
  | (with_reducible refine' U.i_din ?_)
  | (with_reducible refine' U.i_dgt ?_)
  | (with_reducible refine' U.i_dpt ?_)
  | (with_reducible refine' U.i_dnew ?_)
  | ((with_reducible refine' U.i_dniN ?hx ?_); (case hx => walk_at "hp"))
  | ((with_reducible refine' U.i_dinN ?hx ?_); (case hx => walk_at "hp"))
  | ((with_reducible refine' U.i_dniR ?hx ?_); (case hx => walk_at "hp"))
  | ((with_reducible refine' U.i_dinR ?hx ?_); (case hx => walk_at "hp"))
  | (with_reducible refine' U.i_or ?_)
  | (with_reducible refine' U.i_pt ?_)
  | fail "nt")))
local macro_rules | `(tactic| walk_at "wt") => `(tactic| (repeat (first
  | ((fail_if_success (with_reducible refine' U.i_seq ?_)); walk_at "rd1")
  | (with_reducible refine' U.i_dni ?_)
  | (with_reducible refine' U.i_din ?_)
  | (with_reducible refine' U.i_dgt ?_)
  | (with_reducible refine' U.i_dpt ?_)
  | (with_reducible refine' U.i_dnew ?_)
  | ((with_reducible refine' U.i_dniU ?hx ?_); (case hx => walk_at "hp"))
  | ((with_reducible refine' U.i_dinU ?hx ?_); (case hx => walk_at "hp"))
  | ((with_reducible refine' U.i_dniS ?hx ?_); (case hx => walk_at "hp"))
  | ((with_reducible refine' U.i_dinS ?hx ?_); (case hx => walk_at "hp"))
  | (with_reducible refine' U.i_pt ?_)
  | fail "wt")))

local macro_rules | `(tactic| walk_at "kd") => `(tactic| (repeat (first
  | walk_at "rd1"
  | ((with_reducible refine' U.i_isE ?hx ?_); (case hx => assumption))
  | ((with_reducible refine' U.i_cat ?hx ?hy ?hz ?_); (case hx => walk_at "hp"); (case hy => walk_at "hp"); (case hz => (show _ ≤ PySem.sizeLine; rw [PySem.sizeLine_eq]; simp only [List.length_append, List.length_cons, List.length_nil]; omega)); walk_at "lay")
  | fail "kd")))
local macro_rules | `(tactic| walk_at "sm") => `(tactic| first
  | assumption
  | ((with_reducible refine' L2.Same.trans ?hx ?hy); (case hy => assumption); (case hx => walk_at "sm"))
  | fail "sm")
local macro_rules | `(tactic| walk_at "prs") => `(tactic| (repeat (first
  | (with_reducible refine' U.Prs.append ?_ ?_)
  | ((with_reducible refine' U.Prs.con ?hx ?_); (case hx => walk_at "hp"))
  | (with_reducible exact U.Prs.nil)
  | fail "prs")))

theorem Bag.ext {H H' : Hp} {a c : Addr} (h : Bag H a c) (s : LamX.ExtN H H') : Bag H' a c := by
  obtain ⟨ns, i, l, z, h1, h2, h3⟩ := h
  exact ⟨ns, i, l, z, U.ExtN.lst s h1, U.ExtN.lst s h2, h3⟩
/-- something that is none of the bag's is written -/
theorem Bag.but {H H' : Hp} {a c l : Addr} (h : Bag H a c) (n1 : l ≠ a) (n2 : l ≠ c) (k : But l H H') : Bag H' a c := by
  obtain ⟨ns, i, j, z, h1, h2, h3⟩ := h
  exact ⟨ns, i, j, z, k _ _ h1 n1.symm, k _ _ h2 n2.symm, h3⟩
theorem tabs_lst {T : List (Addr × Str)} {H H' : Hp} {b : Addr} {xs : List V} (t : LamX.Tabs T H) (h1 : H b = some (.lst xs)) (k : But b H H') : LamX.Tabs T H' := by
  intro q m
  obtain ⟨ps, e, tr, cs⟩ := t q m
  refine ⟨ps, k _ _ e (fun y => by rw [y, h1] at e; cases e), tr, fun pos cv h => ?_⟩
  obtain ⟨cc, ec, hc⟩ := cs pos cv h
  exact ⟨cc, ec, k _ _ hc (fun y => by rw [y, h1] at hc; cases hc)⟩
/-- the bag's list is written: tables and code objects stay -/
theorem tabs_but {T : List (Addr × Str)} {H H' : Hp} {b c : Addr} (t : LamX.Tabs T H) (bag : Bag H b c) (k : But b H H') : LamX.Tabs T H' := by
  obtain ⟨ns, i, l, z, h1, _⟩ := bag
  exact tabs_lst t h1 k
section
variable {H : Hp} {b c l : Addr} {xs : List V}
/-- a list that begins otherwise than the bag's two -/
theorem Bag.neN (h : Bag H b c) (o : H l = none) : l ≠ b ∧ l ≠ c := by
  obtain ⟨ns, i, j, z, h1, h2, _⟩ := h
  exact ⟨fun e => (by rw [e, h1] at o; cases o), fun e => (by rw [e, h2] at o; cases o)⟩
theorem Bag.neT (h : Bag H b c) (o : H l = some (.tup xs)) : l ≠ b ∧ l ≠ c := by
  obtain ⟨ns, i, j, z, h1, h2, _⟩ := h
  exact ⟨fun e => (by rw [e, h1] at o; cases o), fun e => (by rw [e, h2] at o; cases o)⟩
end
/-- what a turn without a field keeps -/
structure Bd (Pt b c : Addr) (H : Hp) : Prop where
  bag : Bag H b c
  tab : LamX.Tabs [(Pt, PySem.Str.ofString "law.<locals>." ++ "<lambda>")] H
section
variable {Pt b c : Addr} {H H' : Hp}
theorem Bd.same (w : Bd Pt b c H) (s : Same H H') : Bd Pt b c H' := ⟨w.bag.same s, w.tab.ext s⟩
theorem Bd.ext (w : Bd Pt b c H) (s : LamX.ExtN H H') (t : LamX.Tabs [(Pt, PySem.Str.ofString "law.<locals>." ++ "<lambda>")] H') : Bd Pt b c H' := ⟨w.bag.ext s, t⟩
theorem Bd.but (w : Bd Pt b c H) (h : Bag H' b c) (k : But b H H') : Bd Pt b c H' := ⟨h, tabs_but w.tab w.bag k⟩
theorem Bd.lst {l : Addr} {xs : List V} (w : Bd Pt b c H) (o : H l = some (.lst xs)) (n : l ≠ b ∧ l ≠ c) (k : But l H H') : Bd Pt b c H' := ⟨w.bag.but n.1 n.2 k, tabs_lst w.tab o k⟩
end
local macro_rules | `(tactic| walk_at "bd") => `(tactic| first
  | assumption
  | ((with_reducible refine' Lw.Bd.same ?hx ?hy); (case hy => assumption); (case hx => walk_at "bd"))
  | ((with_reducible refine' Lw.Bd.but ?hx ?hy ?hz); (case hz => assumption); (case hy => assumption); (case hx => walk_at "bd"))
  | fail "bd")
/-- what is raised is told by that word -/
def WhyOf (K : PySem.W.Frag) (A : Ad) (D : Addr) (wd : Str) : Prop := ∃ b0 b1 b2 b3 b4 b5 b6 b7 b8 b9 b10 b11 b12 b13 b14 b15 b16 b17 b18 b19 b20 b21 b22 : Bool, Kinds K A D b0 b1 b2 b3 b4 b5 b6 b7 b8 b9 b10 b11 b12 b13 b14 b15 b16 b17 b18 b19 b20 b21 b22 ∧ Told K A D ∧ Txt.join (PySem.Str.ofString " ") (U.words (marks b0 b1 b2 b3 b4 b5 b6 b7 b8 b9 b10 b11 b12 b13 b14 b15 b16 b17 b18 b19 b20 b21 b22)) = wd
theorem WhyOf.go {K : PySem.W.Frag} {A : Ad} {D : Addr} {wd : Str} {H' : Hp} {R : Addr → Hp → Prop} (h : WhyOf K A D wd) (q : ∀ p H'', Same H' H'' → H'' p = some (.tup [.non, .str wd]) → R p H'') :
    ∃ (D' : Addr) (b0 b1 b2 b3 b4 b5 b6 b7 b8 b9 b10 b11 b12 b13 b14 b15 b16 b17 b18 b19 b20 b21 b22 : Bool), Kinds K A D' b0 b1 b2 b3 b4 b5 b6 b7 b8 b9 b10 b11 b12 b13 b14 b15 b16 b17 b18 b19 b20 b21 b22 ∧ Told K A D' ∧ (Value.ref D) = .ref D' ∧ (none : Option Addr) = none ∧ ∀ p H'', Same H' H'' → H'' p = some (.tup [.non, .str (Txt.join (PySem.Str.ofString " ") (U.words (marks b0 b1 b2 b3 b4 b5 b6 b7 b8 b9 b10 b11 b12 b13 b14 b15 b16 b17 b18 b19 b20 b21 b22)))]) → R p H'' := by
  obtain ⟨b0, b1, b2, b3, b4, b5, b6, b7, b8, b9, b10, b11, b12, b13, b14, b15, b16, b17, b18, b19, b20, b21, b22, h1, h2, h3⟩ := h
  rw [← h3] at q
  exact ⟨D, b0, b1, b2, b3, b4, b5, b6, b7, b8, b9, b10, b11, b12, b13, b14, b15, b16, b17, b18, b19, b20, b21, b22, h1, h2, rfl, rfl, q⟩

theorem mix7_le {d : TaskD} (h : d.mn ≤ 7) (f : d.rs.length ≤ 7) (r : Road) : mixN d r ≤ 7 := by
  unfold mixN
  split
  · exact h
  · have := List.length_filter_le (fun q : Road => decide (q.2.2.1 = r.2.1)) d.rs
    omega
theorem sum_bd7 : ∀ (l : List Int), (∀ x ∈ l, 0 ≤ x ∧ x ≤ 7) → 0 ≤ l.sum ∧ l.sum ≤ 7 * l.length
  | [], _ => ⟨by simp, by simp⟩
  | x :: l, h => by
    obtain ⟨a, b⟩ := sum_bd7 l fun y m => h y (List.mem_cons_of_mem _ m)
    obtain ⟨c, e⟩ := h x List.mem_cons_self
    rw [List.sum_cons, List.length_cons]
    constructor
    · omega
    · push_cast
      omega
theorem prod_bd8 : ∀ (l : List Int), (∀ x ∈ l, 1 ≤ x ∧ x ≤ 8) → 1 ≤ l.foldl (· * ·) 1 ∧ l.foldl (· * ·) 1 ≤ ((8 ^ l.length : Nat) : Int)
  | [], _ => ⟨by simp, by simp⟩
  | x :: l, h => by
    obtain ⟨a, b⟩ := prod_bd8 l fun y m => h y (List.mem_cons_of_mem _ m)
    obtain ⟨c, e⟩ := h x List.mem_cons_self
    rw [List.foldl_cons, foldl_mul, List.length_cons, Int.one_mul]
    constructor
    · exact Int.le_trans (by decide) (Int.mul_le_mul c a (by decide) (by omega))
    · refine Int.le_trans (Int.mul_le_mul e b (by omega) (by decide)) ?_
      rw [Nat.pow_succ, Nat.mul_comm]
      push_cast
      exact Int.le_refl _
theorem tries_rng {d : TaskD} (n2 : 2 ≤ d.n) (n16 : d.n ≤ 16) (m1 : 1 ≤ d.mn) (m4 : d.mn ≤ 4) (f : d.rs.length ≤ 7) : 1 ≤ triesN d ∧ (triesN d).natAbs < 10 ^ 60 := by
  obtain ⟨n, en⟩ : ∃ n : Nat, d.n = (n : Int) := ⟨_, (Int.toNat_of_nonneg (by omega)).symm⟩
  obtain ⟨_, b⟩ := sum_bd7 (d.rs.map (mixN d)) (fun x m => by
    obtain ⟨r, _, rfl⟩ := List.mem_map.mp m
    exact ⟨mixN_nn (by omega) r, mix7_le (by omega) f r⟩)
  rw [List.length_map] at b
  have e : triesN d = ((n ^ ((d.rs.map (mixN d)).sum).toNat : Nat) : Int) := by
    unfold triesN
    rw [en]
    push_cast
    rfl
  have k : ((d.rs.map (mixN d)).sum).toNat ≤ 49 := by omega
  generalize ((d.rs.map (mixN d)).sum).toNat = j at e k
  have h1 : n ^ j ≤ 16 ^ 49 := Nat.le_trans (Nat.pow_le_pow_left (by omega) j) (Nat.pow_le_pow_right (by decide) k)
  have h0 : 0 < n ^ j := Nat.pow_pos (by omega)
  rw [e, Int.natAbs_natCast]
  refine ⟨by exact_mod_cast h0, Nat.lt_of_le_of_lt h1 (by decide +kernel)⟩
theorem copy_rng {d : TaskD} (m1 : 1 ≤ d.mn) (m4 : d.mn ≤ 4) (f : d.rs.length ≤ 7) : 1 ≤ copyN d ∧ (copyN d).natAbs < 10 ^ 60 := by
  obtain ⟨a, b⟩ := prod_bd8 (d.rs.map fun r => mixN d r + 1) (fun x m => by
    obtain ⟨r, _, rfl⟩ := List.mem_map.mp m
    have h1 := mixN_nn (d := d) (by omega) r
    have h2 := mix7_le (d := d) (by omega) f r
    omega)
  rw [List.length_map] at b
  have h1 : (8 ^ d.rs.length : Nat) ≤ 8 ^ 7 := Nat.pow_le_pow_right (by decide) f
  have e : copyN d = (d.rs.map fun r => mixN d r + 1).foldl (· * ·) 1 := rfl
  rw [← e] at a b
  refine ⟨a, ?_⟩
  have h2 : (copyN d).natAbs ≤ 8 ^ 7 := by omega
  exact Nat.lt_of_le_of_lt h2 (by decide +kernel)
theorem mixN_perm {d : TaskD} {ls : List Road} (p : ls.Perm d.rs) (r : Road) : mixN { d with rs := ls } r = mixN d r := by
  show (if r.2.1 = d.s then d.mn else ((ls.filter fun q => decide (q.2.2.1 = r.2.1)).length : Nat)) = mixN d r
  rw [(p.filter _).length_eq]
  rfl
theorem tries_perm {d : TaskD} {ls : List Road} (p : ls.Perm d.rs) : triesN { d with rs := ls } = triesN d := by
  show d.n ^ ((ls.map (mixN { d with rs := ls })).sum).toNat = triesN d
  rw [show ls.map (mixN { d with rs := ls }) = ls.map (mixN d) from List.map_congr_left fun r _ => mixN_perm p r, sum_perm (p.map _)]
  rfl
theorem copy_perm {d : TaskD} {ls : List Road} (p : ls.Perm d.rs) : copyN { d with rs := ls } = copyN d := by
  show (ls.map fun r => mixN { d with rs := ls } r + 1).foldl (· * ·) 1 = copyN d
  rw [show (ls.map fun r => mixN { d with rs := ls } r + 1) = ls.map (fun r => mixN d r + 1) from List.map_congr_left fun r _ => by rw [mixN_perm p r], foldl_perm (p.map _)]
  rfl
/-- the word of a bound z where there are x tries -/
def wordL (z x : Int) : Str := if 1 ≤ z ∧ z ≤ 4096 then (if z < x then PySem.Str.ofString "Heavy " ++ toString x else "") else "BadNumber"
theorem wordL_in {z x : Int} (h : 1 ≤ z ∧ z ≤ 4096) : wordL z x = if z < x then PySem.Str.ofString "Heavy " ++ toString x else "" := if_pos h
theorem heavyLay (x : Int) : PyData.canLay0 (.str (PySem.Str.ofString "Heavy " ++ toString x)) = true := by
  have hb : ∀ z ∈ (PySem.Str.ofString (toString x)).cps, z < 0x110000 := fun z m => by
    apply Classical.byContradiction
    intro n
    exact PyProof.Rows.int_text_free' z ⟨by omega, by omega⟩ x (Array.mem_toList_iff.mpr m)
  have ha : ∀ z ∈ (PySem.Str.ofString "Heavy ").cps, z < 0x110000 := by decide +kernel
  show Array.all ((PySem.Str.ofString "Heavy ").cps ++ (PySem.Str.ofString (toString x)).cps) (fun c => decide (c < 0x110000)) = true
  rw [Array.all_eq_true_iff_forall_mem]
  intro z m
  rcases Array.mem_append.mp m with m | m
  · exact decide_eq_true (ha z m)
  · exact decide_eq_true (hb z m)
theorem wordL_lay (z x : Int) : PyData.canLay0 (.str (wordL z x)) = true := by
  unfold wordL
  split
  · split
    · exact heavyLay x
    · decide +kernel
  · decide +kernel
def WOutH (K : PySem.W.Frag) (A : Ad) (R : Str → Hp → Prop) (cls : Value) (d : Option Addr) (H' : Hp) : Prop :=
  (∃ (D : Addr) (wd : Str), WhyOf K A D wd ∧ cls = .ref D ∧ d = none ∧ R wd H') ∨
  (∃ (dd : Addr) (n : Int), cls = .ref A.Heavy ∧ d = some dd ∧ H' dd = some (.xd [("tries", .int n)]) ∧ n.natAbs < 10 ^ 60 ∧ R (PySem.Str.ofString "Heavy " ++ toString n) H')
theorem why_lamH {K : PySem.W.Frag} {A : Ad} {T : List (Addr × Str)} {t : XK → TE} {σ : L2.St} {H : Hp} {Q : VK} (tb : LamX.Tabs T H) (R : V → Str → Hp → Prop) (st : ∀ v wd H1 H2, R v wd H1 → Same H1 H2 → R v wd H2)
    (q : ∀ H1 E Qv, LamX.ExtN H H1 → LamX.Tabs T H1 → (∀ cls d H2, WOutH K A (R .non) cls d H2 → E cls d H2) → (∀ v H2, R v "" H2 → Qv v H2) → t E σ H1 Qv)
    (rest : ∀ p v wd H2, R v wd H2 → H2 p = some (.tup [v, .str wd]) → Q (.ref p) H2) : LamX.tLam T (TTwhy K A) t σ H Q := by
  refine U.i_lam tb (fun H1 e1 t1 => ?_)
  refine q H1 _ _ e1 t1 (fun cls d H2 h => ?_) (fun v H2 r p H3 s o => rest p _ _ H3 (st _ _ _ _ r s) o)
  rcases h with ⟨D, wd, h, rfl, rfl, r⟩ | ⟨dd, n, rfl, rfl, hd, sl, r⟩
  · exact .inl (WhyOf.go h (fun p H3 s o => rest p _ _ H3 (st _ _ _ _ r s) o))
  · exact .inr (.inr (.inr (.inr (.inr ⟨dd, n, rfl, rfl, hd, sl, fun p H3 s' o => rest p _ _ H3 (st _ _ _ _ r s') o⟩))))
theorem sqT_ext {K : PySem.W.Frag} {H H' : Hp} {a : Addr} {xs : List V} (h : SqT K H a xs) (s : LamX.ExtN H H') : SqT K H' a xs := by
  rcases h with (h | ⟨o', h⟩) | h
  · exact .inl (.inl (U.ExtN.tup s h))
  · exact .inl (.inr ⟨o', s _ _ h fun _ z => by cases z⟩)
  · exact .inr h
theorem TaskA.ext {K : PySem.W.Frag} {A : Ad} {H H' : Hp} {t ro fo wo nd rd eo go : Addr} {hs : List Str} {qs : List (Int × Addr)} {as : List Addr} {d : TaskD} (h : TaskA K A H t ro fo wo nd rd eo go hs qs as d) (s : LamX.ExtN H H') : TaskA K A H' t ro fo wo nd rd eo go hs qs as d := by
  have dk : ∀ {a : Addr} {kvs : List (Key × V)}, H a = some (.dK kvs) → H' a = some (.dK kvs) := fun h => s _ _ h fun _ z => nomatch z
  have na := h.web
  refine ⟨h.obj.elim fun dx o => ⟨dx, U.ExtN.ins s o⟩, U.ExtN.lst s h.rank, h.hs, ?_, ?_, U.ExtN.lst s h.ears, U.ExtN.lst s h.gone, h.lots.imp fun _ _ e => sqT_ext e s⟩
  · obtain ⟨h1, dx, h2⟩ := h.fld
    exact ⟨h1, dx, U.ExtN.ins s h2⟩
  · exact ⟨na.obj.elim fun d o => ⟨d, U.ExtN.ins s o⟩, dk na.nm, dk na.ro, na.ts.imp fun _ _ e => ⟨e.1, U.ExtN.tup s e.2⟩, na.few, na.nn, na.rn, na.ne⟩
/-- what a bound's turn keeps -/
structure S31 (K : PySem.W.Frag) (A : Ad) (Pt b c t ro fo wo nd rd eo go e p : Addr) (hs : List Str) (qs : List (Int × Addr)) (as : List Addr) (d : TaskD) (x y : Int) (zs : List Int) (H : Hp) : Prop where
  bd : Bd Pt b c H
  ta : TaskA K A H t ro fo wo nd rd eo go hs qs as d
  due : H e = some (.lst [.int x, .int y])
  tp : H p = some (.tup (zs.map V.int))
section
variable {K : PySem.W.Frag} {A : Ad} {Pt b c t ro fo wo nd rd eo go e p : Addr} {hs : List Str} {qs : List (Int × Addr)} {as : List Addr} {d : TaskD} {x y : Int} {zs : List Int} {H H' : Hp}
theorem S31.same (w : S31 K A Pt b c t ro fo wo nd rd eo go e p hs qs as d x y zs H) (s : Same H H') : S31 K A Pt b c t ro fo wo nd rd eo go e p hs qs as d x y zs H' := ⟨w.bd.same s, w.ta.same s, s _ _ w.due, s _ _ w.tp⟩
theorem S31.ext (w : S31 K A Pt b c t ro fo wo nd rd eo go e p hs qs as d x y zs H) (s : LamX.ExtN H H') (tb : LamX.Tabs [(Pt, PySem.Str.ofString "law.<locals>." ++ "<lambda>")] H') : S31 K A Pt b c t ro fo wo nd rd eo go e p hs qs as d x y zs H' := ⟨w.bd.ext s tb, w.ta.ext s, U.ExtN.lst s w.due, U.ExtN.tup s w.tp⟩
theorem S31.lst {z : Addr} {xs : List V} (w : S31 K A Pt b c t ro fo wo nd rd eo go e p hs qs as d x y zs H) (o : H z = some (.lst xs)) (n0 : z ≠ b ∧ z ≠ c) (n1 : ro ≠ z) (n2 : eo ≠ z) (n3 : go ≠ z) (n4 : e ≠ z) (k : But z H H') : S31 K A Pt b c t ro fo wo nd rd eo go e p hs qs as d x y zs H' := ⟨w.bd.lst o n0 k, w.ta.list o n1 n2 n3 k, k _ _ w.due n4, k _ _ w.tp (U.ne_of_get w.tp o nofun)⟩
theorem S31.neN {z : Addr} (w : S31 K A Pt b c t ro fo wo nd rd eo go e p hs qs as d x y zs H) (hz : H z = none) : (z ≠ b ∧ z ≠ c) ∧ ro ≠ z ∧ eo ≠ z ∧ go ≠ z ∧ e ≠ z := ⟨w.bd.bag.neN hz, (fun q => by rw [← q, w.ta.rank] at hz; cases hz), (fun q => by rw [← q, w.ta.ears] at hz; cases hz), (fun q => by rw [← q, w.ta.gone] at hz; cases hz), (fun q => by rw [← q, w.due] at hz; cases hz)⟩
theorem S31.ts (w : S31 K A Pt b c t ro fo wo nd rd eo go e p hs qs as d x y zs H) : TaskS K A H t d := ⟨ro, fo, wo, nd, rd, eo, go, hs, qs, as, w.ta⟩
end
section
variable {P : Program} {w : World} {K : PySem.W.Frag} {mg : Str → Option Value} {base : Heap} {A : Ad}
theorem sc_law : FnScope ["_law_script", "_law_bag_here", "_law_turn", "_law_ask_here", "_law_due", "_law_words", "_law_late", "_law_bound", "_law_job", "_law_one"] ["_law_script"] (defScope (top 94)) := ⟨rfl, rfl, rfl, by decide +kernel, rfl, by decide +kernel, by decide +kernel⟩
def spLaw (K : PySem.W.Frag) (Pt : Addr) : Sp := fun vs H Q _ => ∃ (a : Addr) (ns : List Int), vs = [.ref a] ∧ SqL K H a (ns.map V.int) ∧ ns.length ≤ 63 ∧ LamX.Tabs [(Pt, PySem.Str.ofString "law.<locals>." ++ "<lambda>")] H ∧ ∀ H', Q (.bl true) H'
theorem ok_law (T : Txt P w K mg A) {f c Pt : Addr} {oc dV kV dc pm ct : Value} {od an : Option Addr} {sl : Array (Option Value)} (lk : K.lookup f = some ⟨oc, od, .func (PySem.W.fnOf "law" "law" (defArgs (top 94)) (defBody (top 94)) (defScope (top 94)) dV kV dc pm an (.ref c) ct), sl⟩) (cd : PySem.W.codeIn K (.ref c) "law" = true) (TB : LamX.TabB base mg c Pt) (kBS : WhyOf K A A.BadSize "BadSize") (kBN : WhyOf K A A.BadNumber "BadNumber") :
    FnOk P w K mg base (L2N.CX P w) 12 f (PySem.W.fnOf "law" "law" (defArgs (top 94)) (defBody (top 94)) (defScope (top 94)) dV kV dc pm an (.ref c) ct) ["_law_script"] (spLaw K Pt) := by
  obtain ⟨_, _, _, F_bag, g_bag, k_bag, bd_bag⟩ := (ok_bag (P := P) (w := w) (base := base) T).ex
  obtain ⟨_, d_bag, b_bag⟩ := bd_bag 0 (by decide)
  obtain ⟨_, _, _, F_lask, g_lask, k_lask, bd_lask⟩ := (ok_lask (P := P) (w := w) (base := base) T).ex
  obtain ⟨_, d_lask, b_lask⟩ := bd_lask 0 (by decide)
  obtain ⟨_, _, _, F_ltask, g_ltask, k_ltask, bd_ltask⟩ := (ok_ltask (P := P) (w := w) (base := base) T).ex
  obtain ⟨_, d_ltask, b_ltask⟩ := bd_ltask 0 (by decide)
  obtain ⟨_, _, _, F_ltries, g_ltries, k_ltries, bd_ltries⟩ := (ok_ltries (P := P) (w := w) (base := base) T).ex
  obtain ⟨_, d_ltries, b_ltries⟩ := bd_ltries 0 (by decide)
  obtain ⟨_, _, _, F_lcopy, g_lcopy, k_lcopy, bd_lcopy⟩ := (ok_lcopy (P := P) (w := w) (base := base) T).ex
  obtain ⟨_, d_lcopy, b_lcopy⟩ := bd_lcopy 0 (by decide)
  obtain ⟨_, _, _, F_tries, g_tries, k_tries, bd_tries⟩ := (ok_tries (P := P) (w := w) (base := base) T).ex
  obtain ⟨_, d_tries, b_tries⟩ := bd_tries 0 (by decide)
  obtain ⟨_, _, _, F_copyt, g_copyt, k_copyt, bd_copyt⟩ := (ok_copyt (P := P) (w := w) (base := base) T).ex
  obtain ⟨_, d_copyt, b_copyt⟩ := bd_copyt 0 (by decide)
  obtain ⟨_, _, _, F_far, g_far, k_far, bd_far⟩ := (ok_far (P := P) (w := w) (base := base) T).ex
  obtain ⟨_, d_far, b_far⟩ := bd_far 0 (by decide)
  obtain ⟨_, _, _, F_al, g_al, k_al, bd_al⟩ := (ok_alike (P := P) (w := w) (base := base) T 2).ex
  obtain ⟨_, d_al, b_al⟩ := bd_al 0 (by decide)
  obtain ⟨fw, fdw, Fw, g_why, bw⟩ := T.d_law_why.ex
  obtain ⟨_, _, _, _, _, _, _, _, _, _, rfl, lk_why, cd_why, _, _⟩ := id Fw.ex
  obtain ⟨_, vd_why, bd_why⟩ := bw 0 (by decide)
  cases vd_why
  obtain ⟨_, _, F_ftries, g_ftries, k_ftries, _, bk_ftries⟩ := (ok_ftries (P := P) (w := w) (base := base) T).ex
  obtain ⟨_, _, F_fcopyt, g_fcopyt, k_fcopyt, _, bk_fcopyt⟩ := (ok_fcopyt (P := P) (w := w) (base := base) T).ex
  refine fn_of lk cd sc_law (fun vs H Q E h => ?_) (fun Ar outer s H vs Q E hr h => ?_)
  · obtain ⟨a, ns, rfl, _⟩ := h
    rfl
  obtain ⟨a, ns, rfl, hS, hl, hT, k⟩ := h
  refine ⟨_, (pss_cons (ps_set (i := 1) sc_law.nd rfl (Or.inl rfl) (pe_call F_bag (hr.mono (by decide)) rfl g_bag k_bag b_bag d_bag U.passN (pa_cons (pv 0) pa_nil)))
    (pss_cons (ps_if (pt_cmpR op_ne (U.pe_gval rfl T.g_MOST_TRIES) pe_int (nomark _))
    (pss_one (ps_ret pe_bl))
    pss_nil)
    (pss_cons (ps_for (passes_of (by exact rfl)) (by exact rfl) (pi_range1 (by rfl) T.range (pa_cons pe_int pa_nil)) (pg_name (i := 2) sc_law.nd rfl (Or.inl rfl))
    (pss_cons (ps_set (i := 3) sc_law.nd rfl (Or.inl rfl) (pe_call F_lask (hr.mono (by decide)) rfl g_lask k_lask b_lask d_lask U.passN (pa_cons (pv 1) (pa_cons pe_int (pa_cons pe_int pa_nil)))))
    (pss_cons (ps_set (i := 8) sc_law.nd rfl (Or.inr rfl) (pe_call F_ltask (hr.mono (by decide)) rfl g_ltask k_ltask b_ltask d_ltask U.passN (pa_cons (pv 3) pa_nil)))
    (pss_cons (ps_set (i := 4) sc_law.nd rfl (Or.inl rfl) (pe_lst (pa_cons (pe_call F_ltries (hr.mono (by decide)) rfl g_ltries k_ltries b_ltries d_ltries U.passN (pa_cons (pv 3) pa_nil)) (pa_cons (pe_call F_lcopy (hr.mono (by decide)) rfl g_lcopy k_lcopy b_lcopy d_lcopy U.passN (pa_cons (pv 3) pa_nil)) pa_nil))))
    (pss_cons (ps_if (pt_not (pt_val (pe_call F_al (hr.mono (by decide)) rfl g_al k_al b_al d_al U.passN (pa_cons (pe_lst (pa_cons (pe_call F_tries (hr.mono (by decide)) rfl g_tries k_tries b_tries d_tries U.passN (pa_cons (pv 8) pa_nil)) (pa_cons (pe_call F_copyt (hr.mono (by decide)) rfl g_copyt k_copyt b_copyt d_copyt U.passN (pa_cons (pv 8) pa_nil)) pa_nil))) (pa_cons (pv 4) pa_nil)))))
    (pss_one (ps_ret pe_bl))
    pss_nil)
    (pss_one (ps_for (passes_of (by exact rfl)) (by exact rfl) (pi_tup (pe_tup (pa_cons (pe_callB (call_min2 (by rfl)) (by rfl) T.min (by decide +kernel) (pa_cons (pe_op U.u_sub (pe_ix ix_list (pv 4) pe_int (fun _ _ => rfl)) pe_int) (pa_cons (pe_op U.u_pow pe_int pe_int) pa_nil))) (pa_cons (pe_callB (call_min2 (by rfl)) (by rfl) T.min (by decide +kernel) (pa_cons (pe_op U.u_sub (pe_ix ix_list (pv 4) pe_int (fun _ _ => rfl)) pe_int) (pa_cons (pe_op U.u_pow pe_int pe_int) pa_nil))) (pa_cons pe_int (pa_cons (pe_un un_neg pe_int) (pa_cons pe_int (pa_cons (pe_call F_far (hr.mono (by decide)) rfl g_far k_far b_far d_far U.passN (pa_cons (pv 1) pa_nil)) pa_nil)))))))) (pg_name (i := 7) sc_law.nd rfl (Or.inr rfl))
    (pss_cons (ps_set (i := 5) sc_law.nd rfl (Or.inl rfl) (pe_lst (pa_cons (pe_ifExp (PW.pt (pw_or (pt_cmpR U.u_lt (pv 7) (pe_ix ix_list (pv 4) pe_int (fun _ _ => rfl)) (nomark _)) (pw_or1 (pt_cmpR U.u_gt (pv 7) pe_int (nomark _))))) (pe_ix ix_tup (U.pe_lamto (k := 9) (T := [(Pt, PySem.Str.ofString "law.<locals>." ++ "<lambda>")]) rfl g_why Fw.kp lk_why cd_why bd_why sc_why rfl (Or.inl rfl) (why_taker T) TB rfl List.mem_cons_self (fun p m _ => by cases List.mem_singleton.mp m; rfl) hr (LamX.lamS_by (by rfl)) rfl (fun _ _ _ _ _ => rfl) (fun A outer s H E f c' r => (pe_callN F_ftries (r.mono (by decide)) rfl g_ftries k_ftries bk_ftries (U.passE (L2N.takes_of rfl rfl rfl rfl)) (pa_cons (pv 8) pa_nil) (pk_cons (pv 7) pk_nil)))) pe_int (fun _ _ => rfl)) pe_str) pa_nil)))
    (pss_cons (ps_if (PW.pt (pw_or (pt_cmpR U.u_lt (pv 7) (pe_ix ix_list (pv 4) pe_int (fun _ _ => rfl)) (nomark _)) (pw_or1 (pt_cmpR U.u_gt (pv 7) pe_int (nomark _)))))
    (pss_one (ps_expr (pe_bm PySem.F.plainAttrs_list PySem.F.slot_list_append PySem.F.type_list_append mt_append (pv 5) (pa_cons (pe_ix ix_tup (U.pe_lamto (k := 9) (T := [(Pt, PySem.Str.ofString "law.<locals>." ++ "<lambda>")]) rfl g_why Fw.kp lk_why cd_why bd_why sc_why rfl (Or.inl rfl) (why_taker T) TB rfl List.mem_cons_self (fun p m _ => by cases List.mem_singleton.mp m; rfl) hr (LamX.lamS_by (by rfl)) rfl (fun _ _ _ _ _ => rfl) (fun A outer s H E f c' r => (pe_callN F_fcopyt (r.mono (by decide)) rfl g_fcopyt k_fcopyt bk_fcopyt (U.passE (L2N.takes_of rfl rfl rfl rfl)) (pa_cons (pv 8) pa_nil) (pk_cons (pv 7) pk_nil)))) pe_int (fun _ _ => rfl)) pa_nil))))
    pss_nil)
    (pss_cons (ps_setLc (i := 6) (own := [("_law_one", 9)]) (g := (gName 9)) (tt := tYes) (by exact rfl) sc_law.nd rfl rfl (sw_true rfl rfl rfl (by decide +kernel)) (pi_list (pv 4)) (blkOk_by (own := [("_law_one", 9)]) (N := ["_law_script", "_law_bag_here", "_law_turn", "_law_ask_here", "_law_due", "_law_words", "_law_late", "_law_bound", "_law_job", "_law_one"]) (sc := defScope (top 94)) (by decide +kernel)) (fun _ _ _ _ _ => (pg_name (i := 9) sc_law.nd rfl (Or.inl rfl))) (fun _ _ _ _ _ => pts_nil) (fun _ _ _ _ _ => (pe_ifExp (pt_cmpR U.u_lt (pv 7) (pv 9) (nomark _)) (pe_op op_add_str pe_str (pe_callTy call_str_int (by rfl) T.str (by decide +kernel) (pa_cons (pv 9) pa_nil))) pe_str)))
    (pss_cons (ps_if (pt_not (pt_chain U.u_le U.u_le pe_int (pv 7) pe_int))
    (pss_one (ps_set (i := 6) sc_law.nd rfl (Or.inl rfl) (pe_lst (pa_cons pe_str (pa_cons pe_str pa_nil)))))
    pss_nil)
    (pss_one (ps_if (pt_cmpR (op_neD hr.units) (pv 5) (pe_slice sl_list (pv 6) po_none (po_some (pe_callB U.u_len (by rfl) T.len PySem.boot_len (pa_cons (pv 5) pa_nil)))) (nomark _))
    (pss_one (ps_ret pe_bl))
    pss_nil)))))))))))))
    (pss_one (ps_ret pe_bl))))), ?_⟩
  walk_at "rq"
  with_reducible refine U.i_seq ?_
  walk_at "rq"
  refine ⟨a, ns, rfl, hS, hl, fun b cb H1 hb0 hc0 s1 hbag => ?_⟩
  have bd1 : Bd Pt b cb H1 := ⟨hbag, hT.ext s1⟩
  clear hS hl hT s1 hb0 hc0 hbag
  walk_at "rq"
  with_reducible refine U.i_seq ?_
  refine U.i_ifS ?_
  walk_at "rq"
  refine U.itedn (fun z => absurd rfl z) (fun _ => ?_)
  walk_at "rq"
  with_reducible refine U.i_seq ?_
  walk_at "rq"
  refine for_it walk_range (fun i σ H' => ∃ v2 v3 v4 v5 v6 v7 v8 v9, σ = [some (.ref a), some (.ref b), v2, v3, v4, v5, v6, v7, v8, v9] ∧ Bd Pt b cb H') ⟨_, _, _, _, _, _, _, _, rfl, bd1⟩ (fun _ _ _ _ _ => trivial) ?_ ?_
  rotate_left
  · rintro σ H2 ⟨v2, v3, v4, v5, v6, v7, v8, v9, rfl, s2⟩
    walk_at "rd"
    exact k _
  clear bd1
  rintro i xx σ H2 H3 hi ⟨v2, v3, v4, v5, v6, v7, v8, v9, rfl, bd2⟩ ⟨rfl, rfl⟩
  walk_at "rq"
  with_reducible refine U.i_seq ?_
  walk_at "rq"
  refine ⟨b, cb, 5, 7, rfl, bd2.bag, by omega, by omega, by omega, fun q wd nl rl el gl as0 gs d H4 hb4 bt4 aa ok few => ?_⟩
  replace bd2 := bd2.but hb4 bt4
  clear hb4 bt4
  walk_at "rq"
  with_reducible refine U.i_seq ?_
  walk_at "rq"
  refine ⟨q, wd, nl, rl, el, gl, as0, gs, d, rfl, aa, ok, fun t ls H5 s5 pm ts => ?_⟩
  replace bd2 := bd2.same s5
  replace aa := aa.same s5
  have et := tries_perm (d := d) pm
  have ec := copy_perm (d := d) pm
  have sr := FM.size_rng ok.size
  obtain ⟨m1, m4⟩ := ok.many
  obtain ⟨x1, x60⟩ := tries_rng (d := d) (by omega) (by omega) m1 m4 few
  obtain ⟨y1, y60⟩ := copy_rng (d := d) m1 m4 few
  have ends : ∀ r ∈ ls, r.2.1 ∈ d.ns := fun r m => (ok.put.ok r (pm.mem_iff.mp m)).1.2.1
  walk_at "rq"
  with_reducible refine U.i_seq ?_
  walk_at "rq"
  refine ⟨q, wd, nl, rl, el, gl, as0, gs, d, rfl, aa, ok, fun H6 s6 => ?_⟩
  replace bd2 := bd2.same s6
  replace ts := ts.same s6
  replace aa := aa.same s6
  clear s5 s6
  walk_at "rq"
  refine ⟨q, wd, nl, rl, el, gl, as0, gs, d, rfl, aa, ok, fun H7 s7 => ?_⟩
  replace bd2 := bd2.same s7
  replace ts := ts.same s7
  clear s7 aa ok
  walk_at "rq"
  rename_i e he H8 s8 oe
  replace bd2 := bd2.same s8
  replace ts := ts.same s8
  clear s8 he
  with_reducible refine U.i_seq ?_
  refine U.i_ifS ?_
  walk_at "rq"
  refine ⟨t, _, rfl, ts, ends, m1, m4, fun H9 s9 => ?_⟩
  replace bd2 := bd2.same s9
  replace ts := ts.same s9
  replace oe := s9 _ _ oe
  clear s9
  walk_at "rq"
  refine ⟨t, _, rfl, ts, ends, m1, m4, fun H10 s10 => ?_⟩
  replace bd2 := bd2.same s10
  replace ts := ts.same s10
  replace oe := s10 _ _ oe
  clear s10
  rw [et, ec]
  walk_at "rq"
  rename_i e2 he2 H11 s11 oe2
  replace bd2 := bd2.same s11
  replace ts := ts.same s11
  replace oe := s11 _ _ oe
  clear s11 he2
  refine ⟨_, _, rfl, U.Dts.lst oe2 oe (.cons (.int _) (.cons (.int _) .nil)) (by show 2 < 1000; decide), fun H12 s12 => ⟨true, rfl, U.iteF' ?_⟩⟩
  replace bd2 := bd2.same s12
  replace ts := ts.same s12
  replace oe := s12 _ _ oe
  clear s12 oe2
  obtain ⟨d', ed⟩ : ∃ d' : TaskD, d' = { d with rs := ls } := ⟨_, rfl⟩
  have ends' : ∀ r ∈ d'.rs, r.2.1 ∈ d'.ns := by rw [ed]; exact ends
  have m1' : 1 ≤ d'.mn := by rw [ed]; exact m1
  have m4' : d'.mn ≤ 4 := by rw [ed]; exact m4
  rw [← ed] at ts et ec
  obtain ⟨x, ex⟩ : ∃ x : Int, x = triesN d := ⟨_, rfl⟩
  obtain ⟨y, ey⟩ : ∃ y : Int, y = copyN d := ⟨_, rfl⟩
  rw [← ex] at et x1 x60 oe
  rw [← ey] at ec y1 y60 oe
  clear ends m1 m4 ed ex ey
  obtain ⟨ro, fo, wo, nd, rd, eo, go, hs, qs, as1, ta⟩ := ts
  have odue := oe
  walk_at "rq"
  refine ⟨_, _, rfl, ?_⟩
  walk_at "rq"
  refine ⟨_, _, rfl, ?_⟩
  walk_at "rq"
  refine ⟨b, cb, rfl, bd2.bag, fun r H13 hr9 hb13 bt13 => ?_⟩
  replace ta := ta.bag bd2.bag bt13
  replace oe := bt13 _ _ oe (fun z => by
    obtain ⟨_, _, _, _, h1, _⟩ := bd2.bag
    rw [← z, oe] at h1
    cases h1)
  replace bd2 := bd2.but hb13 bt13
  clear hr9 hb13 bt13 odue
  walk_at "rq"
  rename_i p hp H14 s14 op
  obtain ⟨zs, ozs⟩ : ∃ zs : List Int, H14 p = some (.tup (zs.map V.int)) := ⟨[_, _, _, _, _, _], op⟩
  have el : zs.length = 6 := by
    rw [op] at ozs
    have := congrArg (fun o => match o with | some (HO.tup l) => l.length | _ => 0) ozs
    have h2 : 6 = (zs.map V.int).length := this
    rw [List.length_map] at h2
    exact h2.symm
  have sa : S31 K A Pt b cb t ro fo wo nd rd eo go e p hs qs as1 d' x y zs H14 := ⟨bd2.same s14, ta.same s14, s14 _ _ oe, ozs⟩
  clear bd2 ta oe s14 op hp ozs
  refine for_it walk_tup (fun j σ H' => ∃ v5 v6 v7 v9, σ = [some (.ref a), some (.ref b), some (.int (0 + (i : Nat))), some (.ref q), some (.ref e), v5, v6, v7, some (.ref t), v9] ∧ S31 K A Pt b cb t ro fo wo nd rd eo go e p hs qs as1 d' x y zs H') ⟨_, _, _, _, rfl, sa⟩ (fun j σ H' _ h => by obtain ⟨_, _, _, _, _, h⟩ := h; exact SqT.of h.tp) ?_ ?_
  rotate_left
  · rintro σ H2 ⟨v5, v6, v7, v9, rfl, s2⟩
    exact ⟨_, _, _, _, _, _, _, _, rfl, s2.bd⟩
  clear sa
  rintro j zz σ H15 H16 hj ⟨v5, v6, v7, v9, rfl, sa⟩ ⟨rfl, hy⟩
  rw [List.getElem?_map] at hy
  obtain ⟨z, ez, rfl⟩ := Option.map_eq_some_iff.mp hy
  clear hy ez
  walk_at "rq"
  with_reducible refine U.i_seqG (fun σ' H' => ∃ v6 v9 zw, σ' = [some (.ref a), some (.ref b), some (.int (0 + (i : Nat))), some (.ref q), some (.ref e), some (.ref zw), v6, some (.int z), some (.ref t), v9] ∧ S31 K A Pt b cb t ro fo wo nd rd eo go e p hs qs as1 d' x y zs H' ∧ H' zw = some (.lst ([if z < x ∨ 4096 < z then wordL z x else ""].map V.str)) ∧ (zw ≠ b ∧ zw ≠ cb) ∧ ro ≠ zw ∧ eo ≠ zw ∧ go ≠ zw ∧ e ≠ zw) ?rest2 (fun _ rest2 => ?first2)
  case first2 =>
    walk_at "rq"
    refine U.i_ifE ?_
    refine U.i_or ?_
    walk_at "rq"
    have odue := sa.due
    refine U.i_ixL (SqL.of odue) (v := .int x) (U.atI_of (j := 0) rfl rfl) ?_
    walk_at "rq"
    refine U.ited (fun z1 => ?_) (fun z1 => ?_)
    · walk_at "rq"
      refine why_lamH sa.bd.tab (fun v wq G => wq = wordL z x ∧ S31 K A Pt b cb t ro fo wo nd rd eo go e p hs qs as1 d' x y zs G) (fun v wd G1 G2 h s => ⟨h.1, h.2.same s⟩) (fun G E1 Q1 e1 t1 hE hQ => ?_) (fun q1 v1 w1 G1 h oq => ?_)
      · have s1 := sa.ext e1 t1
        skip
        walk_at "rq"
        refine ⟨t, d', z, rfl, s1.ts, ends', m1', m4', fun g => hE _ _ _ (.inl ⟨_, _, kBN, rfl, rfl, by unfold wordL; rw [if_neg g], s1⟩), fun g => ⟨by rw [et]; omega, fun H1 sm dd H' hd sm' o => hE _ _ _ (.inr ⟨dd, _, rfl, rfl, o, by rw [et]; exact x60, by rw [et]; unfold wordL; rw [if_pos g, if_pos (by omega)], (s1.same sm).same sm'⟩)⟩⟩
      obtain ⟨rfl, sa'⟩ := h
      walk_at "rq"
      refine U.i_ixT (SqT.of oq) (U.atI_of (j := 1) rfl rfl) ?_
      walk_at "rq"
      rename_i zw hzw Hn sn ozw
      exact rest2 _ _ ⟨_, _, zw, rfl, sa'.same sn, by rw [if_pos (.inl z1)]; exact ozw, sa'.neN hzw⟩
    · walk_at "rq"
      refine U.ited (fun z2 => ?_) (fun z2 => ?_)
      · walk_at "rq"
        refine why_lamH sa.bd.tab (fun v wq G => wq = wordL z x ∧ S31 K A Pt b cb t ro fo wo nd rd eo go e p hs qs as1 d' x y zs G) (fun v wd G1 G2 h s => ⟨h.1, h.2.same s⟩) (fun G E1 Q1 e1 t1 hE hQ => ?_) (fun q1 v1 w1 G1 h oq => ?_)
        · have s1 := sa.ext e1 t1
          skip
          walk_at "rq"
          refine ⟨t, d', z, rfl, s1.ts, ends', m1', m4', fun g => hE _ _ _ (.inl ⟨_, _, kBN, rfl, rfl, by unfold wordL; rw [if_neg g], s1⟩), fun g => ⟨by rw [et]; omega, fun H1 sm dd H' hd sm' o => hE _ _ _ (.inr ⟨dd, _, rfl, rfl, o, by rw [et]; exact x60, by rw [et]; unfold wordL; rw [if_pos g, if_pos (by omega)], (s1.same sm).same sm'⟩)⟩⟩
        obtain ⟨rfl, sa'⟩ := h
        walk_at "rq"
        refine U.i_ixT (SqT.of oq) (U.atI_of (j := 1) rfl rfl) ?_
        walk_at "rq"
        rename_i zw hzw Hn sn ozw
        exact rest2 _ _ ⟨_, _, zw, rfl, sa'.same sn, by rw [if_pos (.inr z2)]; exact ozw, sa'.neN hzw⟩
      · walk_at "rq"
        rename_i zw hzw Hn sn ozw
        exact rest2 _ _ ⟨_, _, zw, rfl, sa.same sn, by rw [if_neg (by omega)]; exact ozw, sa.neN hzw⟩
  case rest2 =>
  clear sa
  rintro σ' H17 ⟨v6, v9, zw, rfl, sa, oz, nz, nr, neo, ng, nde⟩
  obtain ⟨w1, ew1⟩ : ∃ w1 : Str, w1 = (if z < x ∨ 4096 < z then wordL z x else "") := ⟨_, rfl⟩
  rw [← ew1] at oz
  with_reducible refine U.i_seqG (fun σ' H' => ∃ v6 v9 wl, σ' = [some (.ref a), some (.ref b), some (.int (0 + (i : Nat))), some (.ref q), some (.ref e), some (.ref zw), v6, some (.int z), some (.ref t), v9] ∧ S31 K A Pt b cb t ro fo wo nd rd eo go e p hs qs as1 d' x y zs H' ∧ H' zw = some (.lst (wl.map V.str)) ∧ wl = (if z < y ∨ 4096 < z then [w1, wordL z y] else [w1])) ?rest3 (fun _ rest3 => ?first3)
  case first3 =>
    refine U.i_ifS ?_
    refine U.i_or ?_
    walk_at "rq"
    have odue := sa.due
    refine U.i_ixL (SqL.of odue) (v := .int y) (U.atI_of (j := 1) rfl rfl) ?_
    walk_at "rq"
    refine U.ited (fun z1 => ?_) (fun z1 => ?_)
    · walk_at "rq"
      refine why_lamH sa.bd.tab (fun v wq G => wq = wordL z y ∧ S31 K A Pt b cb t ro fo wo nd rd eo go e p hs qs as1 d' x y zs G ∧ G zw = some (.lst ([w1].map V.str))) (fun v wd G1 G2 h s => ⟨h.1, h.2.1.same s, s _ _ h.2.2⟩) (fun G E1 Q1 e1 t1 hE hQ => ?_) (fun q1 v1 w1 G1 h oq => ?_)
      · have s1 := sa.ext e1 t1
        have oz1 := U.ExtN.lst e1 oz
        walk_at "rq"
        refine ⟨t, d', z, rfl, s1.ts, ends', m1', m4', fun g => hE _ _ _ (.inl ⟨_, _, kBN, rfl, rfl, by unfold wordL; rw [if_neg g], s1, oz1⟩), fun g => ⟨by rw [ec]; omega, fun H1 sm dd H' hd sm' o => hE _ _ _ (.inr ⟨dd, _, rfl, rfl, o, by rw [ec]; exact y60, by rw [ec]; unfold wordL; rw [if_pos g, if_pos (by omega)], (s1.same sm).same sm', sm' _ _ (sm _ _ oz1)⟩)⟩⟩
      obtain ⟨rfl, sa', oz1⟩ := h
      walk_at "rq"
      refine U.i_ixT (SqT.of oq) (U.atI_of (j := 1) rfl rfl) ?_
      walk_at "rq"
      exact rest3 _ _ ⟨_, _, [w1, wordL z y], rfl, sa'.lst oz1 nz nr neo ng nde But.of, upd_same, by rw [if_pos (.inl z1)]⟩
    · walk_at "rq"
      refine U.ited (fun z2 => ?_) (fun z2 => ?_)
      · walk_at "rq"
        refine why_lamH sa.bd.tab (fun v wq G => wq = wordL z y ∧ S31 K A Pt b cb t ro fo wo nd rd eo go e p hs qs as1 d' x y zs G ∧ G zw = some (.lst ([w1].map V.str))) (fun v wd G1 G2 h s => ⟨h.1, h.2.1.same s, s _ _ h.2.2⟩) (fun G E1 Q1 e1 t1 hE hQ => ?_) (fun q1 v1 w1 G1 h oq => ?_)
        · have s1 := sa.ext e1 t1
          have oz1 := U.ExtN.lst e1 oz
          walk_at "rq"
          refine ⟨t, d', z, rfl, s1.ts, ends', m1', m4', fun g => hE _ _ _ (.inl ⟨_, _, kBN, rfl, rfl, by unfold wordL; rw [if_neg g], s1, oz1⟩), fun g => ⟨by rw [ec]; omega, fun H1 sm dd H' hd sm' o => hE _ _ _ (.inr ⟨dd, _, rfl, rfl, o, by rw [ec]; exact y60, by rw [ec]; unfold wordL; rw [if_pos g, if_pos (by omega)], (s1.same sm).same sm', sm' _ _ (sm _ _ oz1)⟩)⟩⟩
        obtain ⟨rfl, sa', oz1⟩ := h
        walk_at "rq"
        refine U.i_ixT (SqT.of oq) (U.atI_of (j := 1) rfl rfl) ?_
        walk_at "rq"
        exact rest3 _ _ ⟨_, _, [w1, wordL z y], rfl, sa'.lst oz1 nz nr neo ng nde But.of, upd_same, by rw [if_pos (.inr z2)]⟩
      · walk_at "rq"
        exact rest3 _ _ ⟨_, _, [w1], rfl, sa, oz, by rw [if_neg (by omega)]⟩
  case rest3 =>
  clear sa oz
  rintro σ' H18 ⟨v6, v9, wl, rfl, sa, oz, ewl⟩
  with_reducible refine U.i_seqG (fun σ' H' => ∃ v9 zl, σ' = [some (.ref a), some (.ref b), some (.int (0 + (i : Nat))), some (.ref q), some (.ref e), some (.ref zw), some (.ref zl), some (.int z), some (.ref t), v9] ∧ S31 K A Pt b cb t ro fo wo nd rd eo go e p hs qs as1 d' x y zs H' ∧ H' zw = some (.lst (wl.map V.str)) ∧ H' zl = some (.lst ([if z < x then PySem.Str.ofString "Heavy " ++ toString x else "", if z < y then PySem.Str.ofString "Heavy " ++ toString y else ""].map V.str))) ?rest4 (fun _ rest4 => ?first4)
  case first4 =>
    have odue := sa.due
    walk_at "rq"
    intro D hD
    obtain ⟨lf, elf⟩ : ∃ lf : Int → Str, lf = fun u => if z < u then PySem.Str.ofString "Heavy " ++ toString u else "" := ⟨_, rfl⟩
    refine lc_it walk_list (fun k H' => Same H18 H' ∧ H' D = some (.lst ((([x, y].take k).map lf).map V.str))) ⟨same_new hD, upd_same⟩ (fun k H' _ h => SqL.of (h.1 _ _ odue)) ?_ ?_
    · rintro k9 v H19 H20 hk ⟨s19, oD⟩ ⟨rfl, hy⟩
      have hk2 : k9 < ([x, y].map V.int).length := hk
      have hy2 : ([x, y].map V.int)[k9]? = some v := hy
      rw [List.getElem?_map] at hy2
      obtain ⟨u, eu, rfl⟩ := Option.map_eq_some_iff.mp hy2
      have u60 : u.natAbs < 10 ^ 60 := by
        have k2 : k9 = 0 ∨ k9 = 1 := by have : k9 < 2 := hk2; omega
        rcases k2 with rfl | rfl
        · cases eu; exact x60
        · cases eu; exact y60
      clear hy hk
      walk_at "rq"
      refine ⟨rfl, ?_⟩
      walk_at "rq"
      refine U.i_ifE ?_
      walk_at "rq"
      have k2 : k9 < 2 := hk2
      have elem : ∀ s : Str, s = lf u → ∃ acc, H20 D = some (HO.lst acc) ∧ acc.length < PySem.sizeLine ∧ Same H18 (upd H20 D (.lst (acc ++ [.str s]))) ∧ upd H20 D (.lst (acc ++ [.str s])) D = some (.lst ((([x, y].take (k9 + 1)).map lf).map V.str)) := fun s es => ⟨_, oD, small1000 (by rw [List.length_map, List.length_map, List.length_take]; omega), same_own s19 hD, by rw [upd_same, U.take_succ_of eu, List.map_append, List.map_append, es]; rfl⟩
      refine U.ited (fun z1 => ?_) (fun z1 => ?_)
      · walk_at "rq"
        refine ⟨u, rfl, log_small u60, ?_⟩
        refine ⟨_, _, rfl, rfl, short_num u60, ?_⟩
        exact elem _ (by rw [elf]; exact (if_pos z1).symm)
      · walk_at "rq"
        exact elem _ (by rw [elf]; exact (if_neg z1).symm)
    rintro H19 ⟨s19, oD⟩
    walk_at "rq"
    exact rest4 _ _ ⟨_, D, rfl, sa.same s19, s19 _ _ oz, by rw [oD, elf]; rfl⟩
  case rest4 =>
  clear sa oz
  rintro σ' H21 ⟨v9, zl, rfl, sa, oz, ol⟩
  with_reducible refine U.i_seqG (fun σ' H' => ∃ v9 zl, σ' = [some (.ref a), some (.ref b), some (.int (0 + (i : Nat))), some (.ref q), some (.ref e), some (.ref zw), some (.ref zl), some (.int z), some (.ref t), v9] ∧ S31 K A Pt b cb t ro fo wo nd rd eo go e p hs qs as1 d' x y zs H' ∧ H' zw = some (.lst (wl.map V.str)) ∧ H' zl = some (.lst ([wordL z x, wordL z y].map V.str))) ?rest5 (fun _ rest5 => ?first5)
  case first5 =>
    refine U.i_ifS ?_
    walk_at "rq"
    refine U.ited (fun z1 => ?_) (fun z1 => ?_)
    · walk_at "rq"
      refine U.itedn (fun z2 => ?_) (fun z2 => ?_)
      · walk_at "rq"
        rename_i zl2 hzl Hn sn ozl
        exact rest5 _ _ ⟨_, zl2, rfl, sa.same sn, sn _ _ oz, by rw [ozl]; unfold wordL; rw [if_neg (by omega), if_neg (by omega)]; rfl⟩
      · walk_at "rq"
        exact rest5 _ _ ⟨_, zl, rfl, sa, oz, by rw [ol, wordL_in (z := z) (x := x) ⟨z1, z2⟩, wordL_in (z := z) (x := y) ⟨z1, z2⟩]⟩
    · refine ⟨false, rfl, if_pos rfl ▸ ?_⟩
      walk_at "rq"
      rename_i zl2 hzl Hn sn ozl
      exact rest5 _ _ ⟨_, zl2, rfl, sa.same sn, sn _ _ oz, by rw [ozl]; unfold wordL; rw [if_neg (by omega), if_neg (by omega)]; rfl⟩
  case rest5 =>
  clear sa oz ol
  rintro σ' H22 ⟨v9, zl, rfl, sa, oz, ol⟩
  refine U.i_ifS ?_
  walk_at "rq"
  rename_i zc hzc H23 s23 ozc
  have e1 : w1 = wordL z x := by
    rw [ew1]
    by_cases c1 : z < x ∨ 4096 < z
    · rw [if_pos c1]
    · rw [if_neg c1]
      have c2 : 1 ≤ z ∧ z ≤ 4096 := by omega
      rw [wordL_in c2, if_neg (by omega)]
  have ozc2 : H23 zc = some (.lst (wl.map V.str)) := by
    rw [ozc]
    by_cases c1 : z < y ∨ 4096 < z
    · rw [ewl, if_pos c1, e1]; rfl
    · rw [ewl, if_neg c1, e1]; rfl
  have lay : ∀ s ∈ wl, PyData.canLay0 (.str s) = true := fun s m => by
    have : s = wordL z x ∨ s = wordL z y := by
      by_cases c1 : z < y ∨ 4096 < z
      · rw [ewl, if_pos c1, e1] at m
        rcases List.mem_cons.mp m with h | m
        · exact .inl h
        · exact .inr (List.mem_singleton.mp m)
      · rw [ewl, if_neg c1, e1] at m
        exact .inl (List.mem_singleton.mp m)
    rcases this with rfl | rfl
    · exact wordL_lay _ _
    · exact wordL_lay _ _
  refine U.i_neSame (n := 1) (d := .list (wl.map .str)) (.lst (SqL.of (s23 _ _ oz)) (dpStrs wl)) (.lst (SqL.of ozc2) (dpStrs wl)) (.lst fun d m => by obtain ⟨s, ms, rfl⟩ := List.mem_map.mp m; exact .str s (lay s ms)) (by decide) ?_
  refine ⟨false, rfl, U.iteF' ?_⟩
  walk_at "rq"
  exact ⟨_, _, _, _, rfl, sa.same s23⟩
end
end Lw
end

section
set_option Elab.async false
set_option linter.all false
set_option maxRecDepth 100000
set_option maxHeartbeats 4000000
/-! ### own steps (local) -/
local macro_rules | `(tactic| walk_at "hp") => `(tactic| first
  | assumption
  | exact L2.upd_same
  | ((with_reducible refine U.upd_new ?_ ?_); (focus (first | assumption | done)); walk_at "hp")
  | ((with_reducible refine U.upd_ne'' ?_ ?_); (focus (first | assumption | (apply Ne.symm; assumption))); walk_at "hp")
  | ((with_reducible refine' U.Same.get ?hx ?hy); (case hx => assumption); (case hy => walk_at "hp"))
  | ((with_reducible refine' U.ExtN.lst ?hx ?hy); (case hx => assumption); (case hy => walk_at "hp"))
  | ((with_reducible refine' U.ExtN.tup ?hx ?hy); (case hx => assumption); (case hy => walk_at "hp"))
  | ((with_reducible refine' U.ExtN.ins ?hx ?hy); (case hx => assumption); (case hy => walk_at "hp"))
  | fail "hp")
local macro_rules | `(tactic| walk_at "lay") => `(tactic| (intro p hn; generalize hg : L2.upd _ p _ = H'; have hs := U.same_of hg hn; have ho := U.at_of hg; clear hg))
local macro_rules | `(tactic| walk_at "sz") => `(tactic| first | decide | (show _ ≤ PySem.sizeLine; rw [PySem.sizeLine_eq]; (try simp only [List.length_cons, List.length_nil, List.length_map]); omega))
local macro_rules | `(tactic| walk_at "ref'") => `(tactic| skip)
local macro_rules | `(tactic| walk_at "rd1") => `(tactic| first
  | (with_reducible refine' U.i_seq ?_)
  | (with_reducible refine' U.i_asg ?_)
  | (with_reducible refine' U.i_ret ?_)
  | (with_reducible refine' U.i_ifS ?_)
  | (with_reducible refine' U.i_drop ?_)
  | ((with_reducible refine' U.i_var ?hx ?_); (case hx => rfl))
  | (with_reducible refine' U.i_c ?_)
  | (with_reducible refine' U.i_op ?_)
  | (with_reducible refine' U.i_un ?_)
  | (with_reducible refine' U.i_name ?_)
  | (with_reducible refine' U.i_gsub ?_)
  | (with_reducible refine' U.i_test ?_)
  | (with_reducible refine' U.i_tB ?_)
  | (with_reducible refine' U.i_bl ?_)
  | (with_reducible refine' U.i_not ?_)
  | (with_reducible refine' U.i_nil ?_)
  | (with_reducible refine' U.i_cons ?_)
  | (with_reducible refine' U.i_cb ?_)
  | (with_reducible refine' U.i_call ?_)
  | (with_reducible refine' U.i_fld ?_)
  | ((with_reducible refine' U.i_fld' ?hx ?hy ?hz ?hw ?_); (case hx => walk_at "hp"); (case hy => assumption); (case hz => assumption); (case hw => rfl))
  | (with_reducible refine' U.i_meth ?_)
  | ((with_reducible refine' U.i_meth' ?hx ?hy ?_); (case hx => walk_at "hp"); (case hy => rfl))
  | (with_reducible refine' U.i_add ?_)
  | (with_reducible refine' U.i_sub ?_)
  | ((with_reducible refine' U.i_mul ?hx ?_); (case hx => (first | (left; constructor <;> omega) | (right; constructor <;> omega))))
  | ((with_reducible refine' U.i_mod ?hx ?_); (case hx => omega))
  | ((with_reducible refine' U.i_fdiv ?hx ?_); (case hx => (constructor <;> omega)))
  | ((with_reducible refine' U.i_pow ?hx ?_); (case hx => (refine ⟨?_, ?_, ?_⟩ <;> decide)))
  | (with_reducible refine' U.i_lt ?_)
  | (with_reducible refine' U.i_le ?_)
  | (with_reducible refine' U.i_gt ?_)
  | (with_reducible refine' U.i_ge ?_)
  | (with_reducible refine' U.i_eqI ?_)
  | (with_reducible refine' U.i_neI ?_)
  | (with_reducible refine' U.i_rU ?_)
  | (with_reducible refine' U.i_abs ?_)
  | (with_reducible refine' U.i_callN ?_)
  | ((with_reducible refine' U.i_lens ?hx ?hy ?_); (case hx => rfl); (case hy => rfl))
  | ((with_reducible refine' U.i_ixL ?hx ?hy ?_); (case hx => exact L2.SqL.of (by walk_at "hp")); (case hy => rfl))
  | ((with_reducible refine' U.i_lenL ?hx ?_); (case hx => exact L2.SqL.of (by walk_at "hp")))
  | ((with_reducible refine' U.i_setL ?hx ?hy ?_); (case hx => walk_at "hp"); (case hy => rfl))
  | (with_reducible refine' U.i_augS ?_)
  | ((with_reducible refine' U.i_aug ?hx ?_); (case hx => rfl))
  | (with_reducible refine' U.i_ipI ?_)
  | ((with_reducible refine' U.i_ipMul ?hx ?_); (case hx => (first | (left; constructor <;> omega) | (right; constructor <;> omega))))
  | ((with_reducible refine' U.i_gtup ?hx ?hy ?_); (case hx => exact L2.SqT.of (by walk_at "hp")); (case hy => rfl))
  | (with_reducible refine' U.i_gcons ?_)
  | (with_reducible refine' U.i_gnil ?_)
  | ((with_reducible refine' U.i_divmod ?hx ?_); (case hx => (constructor <;> omega)); walk_at "lay")
  | (with_reducible refine' U.i_tup ?_)
  | (with_reducible refine' U.i_lst ?_)
  | ((with_reducible refine' U.lay_and ?hx ?_); (case hx => walk_at "sz"); walk_at "lay")
  | (with_reducible refine' U.i_sl ?_)
  | (with_reducible refine' U.i_part ?_)
  | (with_reducible refine' U.i_part' ?_)
  | (with_reducible refine' U.i_nopart ?_)
  | ((with_reducible refine' U.i_slL ?hx ?_); (case hx => exact L2.SqL.of (by walk_at "hp")); walk_at "lay")
  | (with_reducible refine' U.i_bm ?_)
  | ((with_reducible refine' U.i_bm' ?hx ?_); (case hx => walk_at "hp"))
  | ((with_reducible refine' U.i_append ?hx ?hy ?_); (case hx => walk_at "hp"); (case hy => walk_at "szl"))
  | ((with_reducible refine' U.i_chLL ?hx ?hy ?_); (case hx => rfl); (case hy => rfl))
  | (with_reducible refine' U.i_chain ?_)
  | (with_reducible refine' U.i_rng1 ?_)
  | ((with_reducible refine' U.i_rng1' ?hx ?hy ?_); (case hx => omega); (case hy => omega))
  | (with_reducible refine' U.i_rng2 ?_)
  | ((with_reducible refine' U.i_rng2' ?hx ?_); (case hx => (refine ⟨?_, ?_, ?_, ?_⟩ <;> omega)))
  | (with_reducible refine' U.i_rng3 ?_)
  | (with_reducible refine' U.i_enum ?_)
  | ((with_reducible refine' U.i_enum' ?hx ?_); (case hx => exact L2.SqL.of (by walk_at "hp")))
  | (with_reducible refine' U.i_enumT ?_)
  | ((with_reducible refine' U.i_enumT' ?hx ?_); (case hx => exact L2.SqT.of (by walk_at "hp")))
  | (with_reducible refine' U.i_rev ?_)
  | ((with_reducible refine' U.i_rev' ?hx ?_); (case hx => exact L2.SqL.of (by walk_at "hp")))
  | (with_reducible refine' U.i_plist ?_)
  | ((with_reducible refine' U.i_plist' ?hx ?_); (case hx => exact L2.SqL.of (by walk_at "hp")))
  | (with_reducible refine' U.i_for ?_)
  | (with_reducible refine' U.i_sfld ?_)
  | ((with_reducible refine' U.i_sfld' ?hx ?hy ?hz ?hw ?_); (case hx => walk_at "hp"); (case hy => assumption); (case hz => assumption); (case hw => exact Nat.le_of_ble_eq_true rfl))
  | (with_reducible refine' U.i_lc ?_)
  | (with_reducible refine' U.i_par3 ?_)
  | (with_reducible refine' U.i_par3' ?_)
  | (with_reducible refine' U.i_par ?_)
  | (with_reducible refine' U.i_par' ?_)
  | (with_reducible refine' U.i_lrg ?_)
  | (with_reducible refine' U.i_rg1 ?_)
  | (with_reducible refine' U.i_rg1' ?_)
  | (with_reducible refine' U.i_pl ?_)
  | ((with_reducible refine' U.i_pl' ?hx ?hy ?_); (case hx => walk_at "hp"); (case hy => exact Nat.le_of_ble_eq_true rfl))
  | (with_reducible refine' U.i_rAdd ?_)
  | ((with_reducible refine' U.i_listOf ?hx ?_); (case hx => exact L2.SqL.of (by walk_at "hp")); walk_at "lay")
  | (with_reducible refine' U.i_intB ?_)
  | (with_reducible refine' U.i_wget ?_)
  | ((with_reducible refine' U.i_tupleOf ?hx ?_); (case hx => walk_at "hp"); walk_at "lay")
  | ((with_reducible refine' U.i_repA ?hx ?hn ?h0 ?h1 ?h2 ?_); (case hx => walk_at "hp"); (case hn => simp); (case h0 => omega); (case h1 => omega); (case h2 => simp); intro p H' hs ho)
  | ((with_reducible refine' U.i_catA ?hx ?hy ?hz ?_); (case hx => walk_at "hp"); (case hy => walk_at "hp"); (case hz => walk_at "sz"); intro p H' hs ho)
  | ((with_reducible refine' U.i_slA ?hx ?_); (case hx => walk_at "hp"); intro p H' hs ho)
  | (with_reducible refine' U.i_zipS ?_)
  | ((with_reducible refine' U.i_zipTT ?hx ?hy ?_); (case hx => exact L2.SqT.of (by walk_at "hp")); (case hy => exact L2.SqT.of (by walk_at "hp")))
  | ((with_reducible refine' U.i_zipLL ?hx ?hy ?_); (case hx => exact L2.SqL.of (by walk_at "hp")); (case hy => exact L2.SqL.of (by walk_at "hp")))
  | (with_reducible refine' U.i_ptup ?_)
  | ((with_reducible refine' U.i_ptup' ?hx ?_); (case hx => exact L2.SqT.of (by walk_at "hp")))
  | ((with_reducible refine' U.i_lenT ?hx ?_); (case hx => exact L2.SqT.of (by walk_at "hp")))
  | (with_reducible refine' U.i_yes ?_)
  | (with_reducible refine' L2.iteT ?_)
  | (with_reducible refine' U.i_next ?_)
  | fail "rd1")
local macro_rules | `(tactic| walk_at "szl") => `(tactic| first | decide | (refine L2.small1000 ?_; (try simp only [List.length_cons, List.length_nil, List.length_map]); omega))
local macro_rules | `(tactic| walk_at "rd") => `(tactic| (repeat walk_at "rd1"))
local macro_rules | `(tactic| walk_at "ro") => `(tactic| (refine' U.i_or ?_; walk_at "rd"))
local macro_rules | `(tactic| walk_at "ra") => `(tactic| (refine' U.i_pt ?_; walk_at "rd"))
local macro_rules | `(tactic| walk_at "gd") => `(tactic| (repeat (first | walk_at "rd1" | (with_reducible refine' U.i_andV ?_))))

namespace Hd
open PySem L2 U LamX Lw
def fn : List Hk.Df := (fn0 ++ fn1)
def ex : Hk.Bits := fun K => (ex0 K ++ ex1 K)
abbrev hk : PySem.W.Hook := Hk.hook LL fn ex [1249]
def ob (s : PySem.W.SharedT) : hk.α := Hk.look LL fn ex [1249] (HandSHeadRun.getT s)
theorem run0 (w : World) : HandSHeadRun.RunEq R view hk ob 60000 nms (w.withFollow "special-get-raises" false) := by
  intro os
  obtain ⟨s0, e0, h0, h1⟩ := Hk.join (run0_0 w os) (run0_1 w os)
  obtain ⟨z0, l0⟩ := Prod.mk.inj h0
  obtain ⟨z1, z2⟩ := Prod.mk.inj z0
  have z3 := (Hk.look_app l0 h1)
  exact (congrArg (Option.map _) e0).trans (congrArg some (Prod.ext z1 (Prod.ext z2 z3)))
theorem run1 (w : World) : HandSHeadRun.RunEq R view hk ob 60000 nms (w.withFollow "special-get-raises" true) := by
  intro os
  obtain ⟨s0, e0, h0, h1⟩ := Hk.join (run1_0 w os) (run1_1 w os)
  obtain ⟨z0, l0⟩ := Prod.mk.inj h0
  obtain ⟨z1, z2⟩ := Prod.mk.inj z0
  have z3 := (Hk.look_app l0 h1)
  exact (congrArg (Option.map _) e0).trans (congrArg some (Prod.ext z1 (Prod.ext z2 z3)))
end Hd
namespace Lw
open PySem L2 U LamX Hd
abbrev AA : Ad := ⟨44, 56, 388, 389, 391, 392, 393, 394, 390, 569, 988, 1120, 1017, 68, 80, 92, 104, 116, 128, 140, 160, 179, 198, 210, 229, 241, 273, 292, 317, 329, 348, 360, 372, 384, 31, 253, 304⟩
section
variable {P : Program} {w : World} {K : PySem.W.Frag} {h : Heap} {mg : Str → Option Value}
theorem mkT (c : Hk.Says fn ex [1249] h K) (G : h.Ns mainGlobals mg) : Txt P w K mg AA := by
  have X := c.ins
  have z1 : PySem.W.nsIn K mainGlobals "len" = some none := (show PySem.W.nsIn K mainGlobals "len" = some none from of_decide_eq_true (c.bit 3 38 rfl rfl))
  have z2 : PySem.W.nsIn K mainGlobals "abs" = some none := (show PySem.W.nsIn K mainGlobals "abs" = some none from of_decide_eq_true (c.bit 3 39 rfl rfl))
  have z3 : PySem.W.nsIn K mainGlobals "list" = some none := (show PySem.W.nsIn K mainGlobals "list" = some none from of_decide_eq_true (c.bit 4 0 rfl rfl))
  have z4 : PySem.W.nsIn K mainGlobals "int" = some none := (show PySem.W.nsIn K mainGlobals "int" = some none from of_decide_eq_true (c.bit 4 1 rfl rfl))
  have z5 : PySem.W.nsIn K mainGlobals "isinstance" = some none := (show PySem.W.nsIn K mainGlobals "isinstance" = some none from of_decide_eq_true (c.bit 4 2 rfl rfl))
  have z6 : PySem.W.nsIn K mainGlobals "str" = some none := (show PySem.W.nsIn K mainGlobals "str" = some none from of_decide_eq_true (c.bit 4 3 rfl rfl))
  have g7 : PySem.W.nsIn K mainGlobals "BadSize" = some (some (.ref 44)) := (show PySem.W.nsIn K mainGlobals "BadSize" = some (some (.ref 44)) from of_decide_eq_true (c.bit 4 4 rfl rfl))
  have k7 : PySem.W.keepIn K (.ref 44) = true := (show PySem.W.keepIn K (.ref 44) = true from (c.bit 4 5 rfl rfl))
  have q7 : PySem.W.excIn K 44 [.type "ValueError", .type "Exception", .type "BaseException", .type "object"] "ValueError.__new__" = true := (show PySem.W.excIn K 44 [.type "ValueError", .type "Exception", .type "BaseException", .type "object"] "ValueError.__new__" = true from (c.bit 4 6 rfl rfl))
  have b7 : PySem.W.subIn K (.ref 44) (.type "BaseException") = some true := (show PySem.W.subIn K (.ref 44) (.type "BaseException") = some true from of_decide_eq_true (c.bit 4 7 rfl rfl))
  have t7 : PySem.W.typeIn K (.ref 44) = some (.type "type") := (show PySem.W.typeIn K (.ref 44) = some (.type "type") from of_decide_eq_true (c.bit 4 8 rfl rfl))
  have g8 : PySem.W.nsIn K mainGlobals "BadNumber" = some (some (.ref 56)) := (show PySem.W.nsIn K mainGlobals "BadNumber" = some (some (.ref 56)) from of_decide_eq_true (c.bit 4 9 rfl rfl))
  have k8 : PySem.W.keepIn K (.ref 56) = true := (show PySem.W.keepIn K (.ref 56) = true from (c.bit 4 10 rfl rfl))
  have q8 : PySem.W.excIn K 56 [.type "ValueError", .type "Exception", .type "BaseException", .type "object"] "ValueError.__new__" = true := (show PySem.W.excIn K 56 [.type "ValueError", .type "Exception", .type "BaseException", .type "object"] "ValueError.__new__" = true from (c.bit 4 11 rfl rfl))
  have b8 : PySem.W.subIn K (.ref 56) (.type "BaseException") = some true := (show PySem.W.subIn K (.ref 56) (.type "BaseException") = some true from of_decide_eq_true (c.bit 4 12 rfl rfl))
  have t8 : PySem.W.typeIn K (.ref 56) = some (.type "type") := (show PySem.W.typeIn K (.ref 56) = some (.type "type") from of_decide_eq_true (c.bit 4 13 rfl rfl))
  have z9 : PySem.W.nsIn K mainGlobals "range" = some none := (show PySem.W.nsIn K mainGlobals "range" = some none from of_decide_eq_true (c.bit 4 14 rfl rfl))
  have z10 : PySem.W.nsIn K mainGlobals "bool" = some none := (show PySem.W.nsIn K mainGlobals "bool" = some none from of_decide_eq_true (c.bit 4 15 rfl rfl))
  have g11 : PySem.W.nsIn K mainGlobals "Field" = some (some (.ref 569)) := (show PySem.W.nsIn K mainGlobals "Field" = some (some (.ref 569)) from of_decide_eq_true (c.bit 0 18 rfl rfl))
  have pg12 : PySem.W.plainGet K 569 Str.empty = true := (show PySem.W.plainGet K 569 Str.empty = true from (c.bit 4 16 rfl rfl))
  have hd13 : PySem.W.hasDictIn K 569 = true := (show PySem.W.hasDictIn K 569 = true from (c.bit 4 17 rfl rfl))
  have po14 : PySem.W.plainOver K 569 = true := (show PySem.W.plainOver K 569 = true from (c.bit 4 18 rfl rfl))
  have sa15 : PySem.W.findIn K (.ref 569) "__setattr__" = some (some (.builtin "object.__setattr__")) := (show PySem.W.findIn K (.ref 569) "__setattr__" = some (some (.builtin "object.__setattr__")) from of_decide_eq_true (c.bit 4 19 rfl rfl))
  have na16 : PySem.W.findIn K (.ref 569) "many" = some none := (show PySem.W.findIn K (.ref 569) "many" = some none from of_decide_eq_true (c.bit 4 20 rfl rfl))
  have na17 : PySem.W.findIn K (.ref 569) "prime" = some none := (show PySem.W.findIn K (.ref 569) "prime" = some none from of_decide_eq_true (c.bit 4 21 rfl rfl))
  have na18 : PySem.W.findIn K (.ref 569) "places" = some none := (show PySem.W.findIn K (.ref 569) "places" = some none from of_decide_eq_true (c.bit 4 22 rfl rfl))
  have z19 : PySem.W.nsIn K mainGlobals "all" = some none := (show PySem.W.nsIn K mainGlobals "all" = some none from of_decide_eq_true (c.bit 4 23 rfl rfl))
  have z20 : PySem.W.nsIn K mainGlobals "sorted" = some none := (show PySem.W.nsIn K mainGlobals "sorted" = some none from of_decide_eq_true (c.bit 4 24 rfl rfl))
  have z21 : PySem.W.nsIn K mainGlobals "max" = some none := (show PySem.W.nsIn K mainGlobals "max" = some none from of_decide_eq_true (c.bit 4 25 rfl rfl))
  have g22 : PySem.W.nsIn K mainGlobals "Net" = some (some (.ref 988)) := (show PySem.W.nsIn K mainGlobals "Net" = some (some (.ref 988)) from of_decide_eq_true (c.bit 0 32 rfl rfl))
  have pg23 : PySem.W.plainGet K 988 Str.empty = true := (show PySem.W.plainGet K 988 Str.empty = true from (c.bit 4 26 rfl rfl))
  have hd24 : PySem.W.hasDictIn K 988 = true := (show PySem.W.hasDictIn K 988 = true from (c.bit 4 27 rfl rfl))
  have po25 : PySem.W.plainOver K 988 = true := (show PySem.W.plainOver K 988 = true from (c.bit 4 28 rfl rfl))
  have sa26 : PySem.W.findIn K (.ref 988) "__setattr__" = some (some (.builtin "object.__setattr__")) := (show PySem.W.findIn K (.ref 988) "__setattr__" = some (some (.builtin "object.__setattr__")) from of_decide_eq_true (c.bit 4 29 rfl rfl))
  have na27 : PySem.W.findIn K (.ref 988) "named" = some none := (show PySem.W.findIn K (.ref 988) "named" = some none from of_decide_eq_true (c.bit 4 30 rfl rfl))
  have na28 : PySem.W.findIn K (.ref 988) "roads" = some none := (show PySem.W.findIn K (.ref 988) "roads" = some none from of_decide_eq_true (c.bit 4 31 rfl rfl))
  have z29 : PySem.W.nsIn K mainGlobals "min" = some none := (show PySem.W.nsIn K mainGlobals "min" = some none from of_decide_eq_true (c.bit 4 32 rfl rfl))
  have z30 : PySem.W.nsIn K mainGlobals "tuple" = some none := (show PySem.W.nsIn K mainGlobals "tuple" = some none from of_decide_eq_true (c.bit 4 33 rfl rfl))
  have z31 : PySem.W.nsIn K mainGlobals "dict" = some none := (show PySem.W.nsIn K mainGlobals "dict" = some none from of_decide_eq_true (c.bit 4 34 rfl rfl))
  have z32 : PySem.W.nsIn K mainGlobals "sum" = some none := (show PySem.W.nsIn K mainGlobals "sum" = some none from of_decide_eq_true (c.bit 4 35 rfl rfl))
  have z33 : PySem.W.nsIn K mainGlobals "set" = some none := (show PySem.W.nsIn K mainGlobals "set" = some none from of_decide_eq_true (c.bit 4 36 rfl rfl))
  have g34 : PySem.W.nsIn K mainGlobals "Task" = some (some (.ref 1120)) := (show PySem.W.nsIn K mainGlobals "Task" = some (some (.ref 1120)) from of_decide_eq_true (c.bit 2 6 rfl rfl))
  have pg35 : PySem.W.plainGet K 1120 Str.empty = true := (show PySem.W.plainGet K 1120 Str.empty = true from (c.bit 4 37 rfl rfl))
  have hd36 : PySem.W.hasDictIn K 1120 = true := (show PySem.W.hasDictIn K 1120 = true from (c.bit 4 38 rfl rfl))
  have po37 : PySem.W.plainOver K 1120 = true := (show PySem.W.plainOver K 1120 = true from (c.bit 4 39 rfl rfl))
  have sa38 : PySem.W.findIn K (.ref 1120) "__setattr__" = some (some (.builtin "object.__setattr__")) := (show PySem.W.findIn K (.ref 1120) "__setattr__" = some (some (.builtin "object.__setattr__")) from of_decide_eq_true (c.bit 5 0 rfl rfl))
  have na39 : PySem.W.findIn K (.ref 1120) "rank_of" = some none := (show PySem.W.findIn K (.ref 1120) "rank_of" = some none from of_decide_eq_true (c.bit 5 1 rfl rfl))
  have na40 : PySem.W.findIn K (.ref 1120) "field_of" = some none := (show PySem.W.findIn K (.ref 1120) "field_of" = some none from of_decide_eq_true (c.bit 5 2 rfl rfl))
  have na41 : PySem.W.findIn K (.ref 1120) "web" = some none := (show PySem.W.findIn K (.ref 1120) "web" = some none from of_decide_eq_true (c.bit 5 3 rfl rfl))
  have na42 : PySem.W.findIn K (.ref 1120) "start" = some none := (show PySem.W.findIn K (.ref 1120) "start" = some none from of_decide_eq_true (c.bit 5 4 rfl rfl))
  have na43 : PySem.W.findIn K (.ref 1120) "ears" = some none := (show PySem.W.findIn K (.ref 1120) "ears" = some none from of_decide_eq_true (c.bit 5 5 rfl rfl))
  have na44 : PySem.W.findIn K (.ref 1120) "many" = some none := (show PySem.W.findIn K (.ref 1120) "many" = some none from of_decide_eq_true (c.bit 5 6 rfl rfl))
  have na45 : PySem.W.findIn K (.ref 1120) "gone" = some none := (show PySem.W.findIn K (.ref 1120) "gone" = some none from of_decide_eq_true (c.bit 5 7 rfl rfl))
  have g46 : PySem.W.nsIn K mainGlobals "BadSize" = some (some (.ref 44)) := (show PySem.W.nsIn K mainGlobals "BadSize" = some (some (.ref 44)) from of_decide_eq_true (c.bit 4 4 rfl rfl))
  have g47 : PySem.W.nsIn K mainGlobals "BadNumber" = some (some (.ref 56)) := (show PySem.W.nsIn K mainGlobals "BadNumber" = some (some (.ref 56)) from of_decide_eq_true (c.bit 4 9 rfl rfl))
  have g48 : PySem.W.nsIn K mainGlobals "BadRow" = some (some (.ref 68)) := (show PySem.W.nsIn K mainGlobals "BadRow" = some (some (.ref 68)) from of_decide_eq_true (c.bit 5 8 rfl rfl))
  have g49 : PySem.W.nsIn K mainGlobals "BadName" = some (some (.ref 80)) := (show PySem.W.nsIn K mainGlobals "BadName" = some (some (.ref 80)) from of_decide_eq_true (c.bit 5 9 rfl rfl))
  have g50 : PySem.W.nsIn K mainGlobals "BadLine" = some (some (.ref 92)) := (show PySem.W.nsIn K mainGlobals "BadLine" = some (some (.ref 92)) from of_decide_eq_true (c.bit 5 10 rfl rfl))
  have g51 : PySem.W.nsIn K mainGlobals "BadHearers" = some (some (.ref 104)) := (show PySem.W.nsIn K mainGlobals "BadHearers" = some (some (.ref 104)) from of_decide_eq_true (c.bit 5 11 rfl rfl))
  have g52 : PySem.W.nsIn K mainGlobals "BadLoss" = some (some (.ref 116)) := (show PySem.W.nsIn K mainGlobals "BadLoss" = some (some (.ref 116)) from of_decide_eq_true (c.bit 5 12 rfl rfl))
  have g53 : PySem.W.nsIn K mainGlobals "BadPlan" = some (some (.ref 128)) := (show PySem.W.nsIn K mainGlobals "BadPlan" = some (some (.ref 128)) from of_decide_eq_true (c.bit 5 13 rfl rfl))
  have g54 : PySem.W.nsIn K mainGlobals "BadDeed" = some (some (.ref 140)) := (show PySem.W.nsIn K mainGlobals "BadDeed" = some (some (.ref 140)) from of_decide_eq_true (c.bit 5 14 rfl rfl))
  have g55 : PySem.W.nsIn K mainGlobals "BadText" = some (some (.ref 160)) := (show PySem.W.nsIn K mainGlobals "BadText" = some (some (.ref 160)) from of_decide_eq_true (c.bit 5 15 rfl rfl))
  have g56 : PySem.W.nsIn K mainGlobals "Ringed" = some (some (.ref 179)) := (show PySem.W.nsIn K mainGlobals "Ringed" = some (some (.ref 179)) from of_decide_eq_true (c.bit 5 16 rfl rfl))
  have g57 : PySem.W.nsIn K mainGlobals "Short" = some (some (.ref 198)) := (show PySem.W.nsIn K mainGlobals "Short" = some (some (.ref 198)) from of_decide_eq_true (c.bit 5 17 rfl rfl))
  have g58 : PySem.W.nsIn K mainGlobals "Narrow" = some (some (.ref 210)) := (show PySem.W.nsIn K mainGlobals "Narrow" = some (some (.ref 210)) from of_decide_eq_true (c.bit 5 18 rfl rfl))
  have g59 : PySem.W.nsIn K mainGlobals "Heavy" = some (some (.ref 229)) := (show PySem.W.nsIn K mainGlobals "Heavy" = some (some (.ref 229)) from of_decide_eq_true (c.bit 2 31 rfl rfl))
  have g60 : PySem.W.nsIn K mainGlobals "Unsolved" = some (some (.ref 241)) := (show PySem.W.nsIn K mainGlobals "Unsolved" = some (some (.ref 241)) from of_decide_eq_true (c.bit 5 19 rfl rfl))
  have g61 : PySem.W.nsIn K mainGlobals "NoHouse" = some (some (.ref 273)) := (show PySem.W.nsIn K mainGlobals "NoHouse" = some (some (.ref 273)) from of_decide_eq_true (c.bit 5 20 rfl rfl))
  have g62 : PySem.W.nsIn K mainGlobals "NoLine" = some (some (.ref 292)) := (show PySem.W.nsIn K mainGlobals "NoLine" = some (some (.ref 292)) from of_decide_eq_true (c.bit 5 21 rfl rfl))
  have g63 : PySem.W.nsIn K mainGlobals "Taken" = some (some (.ref 317)) := (show PySem.W.nsIn K mainGlobals "Taken" = some (some (.ref 317)) from of_decide_eq_true (c.bit 5 22 rfl rfl))
  have g64 : PySem.W.nsIn K mainGlobals "Full" = some (some (.ref 329)) := (show PySem.W.nsIn K mainGlobals "Full" = some (some (.ref 329)) from of_decide_eq_true (c.bit 5 23 rfl rfl))
  have g65 : PySem.W.nsIn K mainGlobals "InUse" = some (some (.ref 348)) := (show PySem.W.nsIn K mainGlobals "InUse" = some (some (.ref 348)) from of_decide_eq_true (c.bit 5 24 rfl rfl))
  have g66 : PySem.W.nsIn K mainGlobals "Told" = some (some (.ref 360)) := (show PySem.W.nsIn K mainGlobals "Told" = some (some (.ref 360)) from of_decide_eq_true (c.bit 5 25 rfl rfl))
  have g67 : PySem.W.nsIn K mainGlobals "NothingLeft" = some (some (.ref 372)) := (show PySem.W.nsIn K mainGlobals "NothingLeft" = some (some (.ref 372)) from of_decide_eq_true (c.bit 5 26 rfl rfl))
  have g68 : PySem.W.nsIn K mainGlobals "NoShare" = some (some (.ref 384)) := (show PySem.W.nsIn K mainGlobals "NoShare" = some (some (.ref 384)) from of_decide_eq_true (c.bit 5 27 rfl rfl))
  have g69 : PySem.W.nsIn K mainGlobals "MingleError" = some (some (.ref 31)) := (show PySem.W.nsIn K mainGlobals "MingleError" = some (some (.ref 31)) from of_decide_eq_true (c.bit 5 28 rfl rfl))
  have g70 : PySem.W.nsIn K mainGlobals "Missing" = some (some (.ref 253)) := (show PySem.W.nsIn K mainGlobals "Missing" = some (some (.ref 253)) from of_decide_eq_true (c.bit 5 29 rfl rfl))
  have g71 : PySem.W.nsIn K mainGlobals "Busy" = some (some (.ref 304)) := (show PySem.W.nsIn K mainGlobals "Busy" = some (some (.ref 304)) from of_decide_eq_true (c.bit 5 30 rfl rfl))
  exact {
    len := PySem.W.mg_none_of X G z1,
    abs := PySem.W.mg_none_of X G z2,
    list := PySem.W.mg_none_of X G z3,
    int := PySem.W.mg_none_of X G z4,
    d_law_bag := (by obtain ⟨fd, F0, fe⟩ := c.at_ 0 (d := d0) rfl; have F : U.FunA K "_law_bag" "_law_bag" (top 77) [] [] 1141 fd := F0; exact ⟨1141, fd, F, (PySem.W.mg_of X G (show PySem.W.nsIn K mainGlobals "_law_bag" = some (some (.ref 1141)) from of_decide_eq_true (c.bit 0 0 rfl rfl))), (U.bd0 F fun _ _ _ _ _ _ us hl => match us, hl with | [_], _ => rfl)⟩),
    d_law_pull := (by obtain ⟨fd, F0, fe⟩ := c.at_ 1 (d := d1) rfl; have F : U.FunA K "_law_pull" "_law_pull" (top 87) [] [] 1205 fd := F0; exact ⟨1205, fd, F, (PySem.W.mg_of X G (show PySem.W.nsIn K mainGlobals "_law_pull" = some (some (.ref 1205)) from of_decide_eq_true (c.bit 0 1 rfl rfl))), (U.bd0 F fun _ _ _ _ _ _ us hl => match us, hl with | [_, _], _ => rfl)⟩),
    d_law_size := (by obtain ⟨fd, F0, fe⟩ := c.at_ 2 (d := d2) rfl; have F : U.FunA K "_law_size" "_law_size" (top 88) [] [] 1212 fd := F0; exact ⟨1212, fd, F, (PySem.W.mg_of X G (show PySem.W.nsIn K mainGlobals "_law_size" = some (some (.ref 1212)) from of_decide_eq_true (c.bit 0 2 rfl rfl))), (U.bd0 F fun _ _ _ _ _ _ us hl => match us, hl with | [_], _ => rfl)⟩),
    isinstance := PySem.W.mg_none_of X G z5,
    str := PySem.W.mg_none_of X G z6,
    e_BadSize := ⟨PySem.W.mg_of X G g7, k7, ⟨_, _, _, _, PySem.F.excBase_ValueError, q7⟩, b7, t7⟩,
    e_BadNumber := ⟨PySem.W.mg_of X G g8, k8, ⟨_, _, _, _, PySem.F.excBase_ValueError, q8⟩, b8, t8⟩,
    range := PySem.W.mg_none_of X G z9,
    bool := PySem.W.mg_none_of X G z10,
    g_SIZES := (PySem.W.mg_of X G (show PySem.W.nsIn K mainGlobals "SIZES" = some (some (.ref 388)) from of_decide_eq_true (c.bit 0 3 rfl rfl))),
    s_SIZES := (Hk.tupB_ok (c.bit 0 4 rfl rfl)),
    g_BASES := (PySem.W.mg_of X G (show PySem.W.nsIn K mainGlobals "BASES" = some (some (.ref 389)) from of_decide_eq_true (c.bit 0 5 rfl rfl))),
    s_BASES := (Hk.tupB_ok (c.bit 0 6 rfl rfl)),
    g_RULES := (PySem.W.mg_of X G (show PySem.W.nsIn K mainGlobals "RULES" = some (some (.ref 390)) from of_decide_eq_true (c.bit 0 7 rfl rfl))),
    w_RULES := (Hk.dicB_ok (c.bit 0 8 rfl rfl)),
    s_r4 := (Hk.tupB_ok (c.bit 0 9 rfl rfl)),
    s_r8 := (Hk.tupB_ok (c.bit 0 10 rfl rfl)),
    s_r9 := (Hk.tupB_ok (c.bit 0 11 rfl rfl)),
    s_r16 := (Hk.tupB_ok (c.bit 0 12 rfl rfl)),
    d_grown := (by obtain ⟨fd, F0, fe⟩ := c.at_ 3 (d := d3) rfl; have F : U.FunA K "grown" "grown" (top 33) [] [] 401 fd := F0; exact ⟨401, fd, F, (PySem.W.mg_of X G (show PySem.W.nsIn K mainGlobals "grown" = some (some (.ref 401)) from of_decide_eq_true (c.bit 0 13 rfl rfl))), (U.bd0 F fun _ _ _ _ _ _ us hl => match us, hl with | [_, _], _ => rfl)⟩),
    c_Field := ⟨pg12, hd13, po14, sa15⟩,
    na_Field_many := na16,
    na_Field_prime := na17,
    na_Field_places := na18,
    n_Field := (by obtain ⟨fd, F0, fe⟩ := c.at_ 4 (d := d4) rfl; have F : U.FunA K "__init__" "Field.__init__" (inClass (top 34) 0) [V.int 16] [] 414 fd := F0; exact ⟨414, fd, F, ⟨(show PySem.W.makesIn K 569 = true from (c.bit 0 14 rfl rfl)), (show PySem.W.findIn K (.ref 569) "__init__" = some (some (.ref 414)) from of_decide_eq_true (c.bit 0 15 rfl rfl)), (show PySem.W.isFn K (.ref 414) = true from (c.bit 0 16 rfl rfl)), (show PySem.W.keepIn K (.ref 569) = true from (c.bit 0 17 rfl rfl))⟩, (PySem.W.mg_of X G (show PySem.W.nsIn K mainGlobals "Field" = some (some (.ref 569)) from of_decide_eq_true (c.bit 0 18 rfl rfl))), (U.bd1 F (by decide) (fun _ _ _ _ _ _ _ us its hl hm => match us, its, hl, hm with | [_], [_], _, _ => ⟨_, rfl, rfl⟩) (fun _ _ _ _ _ _ _ us its hl hm => match us, its, hl, hm with | [_, _], [_], _, _ => ⟨_, rfl, rfl⟩))⟩),
    m_Field_size := (by obtain ⟨fd, F0, fe⟩ := c.at_ 5 (d := d5) rfl; have F : U.FunA K "size" "Field.size" (inClass (top 34) 5) [] [] 449 fd := F0; exact ⟨449, fd, F, ⟨pg12, hd13, po14, sa15⟩, ⟨(show PySem.W.findIn K (.ref 569) "size" = some (some (.ref 449)) from of_decide_eq_true (c.bit 0 19 rfl rfl)), (show PySem.W.isFn K (.ref 449) = true from (c.bit 0 20 rfl rfl)), (show PySem.W.keepIn K (.ref 449) = true from (c.bit 0 21 rfl rfl))⟩, (U.bd0 F fun _ _ _ _ _ _ us hl => match us, hl with | [_], _ => rfl)⟩),
    all := PySem.W.mg_none_of X G z19,
    sorted := PySem.W.mg_none_of X G z20,
    max := PySem.W.mg_none_of X G z21,
    g_LETTERS := (Hk.valB_ok X G (c.bit 0 22 rfl rfl)),
    g_LONGEST := (Hk.valB_ok X G (c.bit 0 23 rfl rfl)),
    g_MOST_HOUSES := (Hk.valB_ok X G (c.bit 0 24 rfl rfl)),
    g_MOST_LINES := (Hk.valB_ok X G (c.bit 0 25 rfl rfl)),
    g_MOST_NUMBER := (Hk.valB_ok X G (c.bit 0 26 rfl rfl)),
    g_MOST_SLOW := (Hk.valB_ok X G (c.bit 0 27 rfl rfl)),
    c_Net := ⟨pg23, hd24, po25, sa26⟩,
    na_Net_named := na27,
    na_Net_roads := na28,
    n_Net := (by obtain ⟨fd, F0, fe⟩ := c.at_ 6 (d := d6) rfl; have F : U.FunA K "__init__" "Net.__init__" (inClass (top 65) 0) [] [] 868 fd := F0; exact ⟨868, fd, F, ⟨(show PySem.W.makesIn K 988 = true from (c.bit 0 28 rfl rfl)), (show PySem.W.findIn K (.ref 988) "__init__" = some (some (.ref 868)) from of_decide_eq_true (c.bit 0 29 rfl rfl)), (show PySem.W.isFn K (.ref 868) = true from (c.bit 0 30 rfl rfl)), (show PySem.W.keepIn K (.ref 988) = true from (c.bit 0 31 rfl rfl))⟩, (PySem.W.mg_of X G (show PySem.W.nsIn K mainGlobals "Net" = some (some (.ref 988)) from of_decide_eq_true (c.bit 0 32 rfl rfl))), (U.bd0 F fun _ _ _ _ _ _ us hl => match us, hl with | [_], _ => rfl)⟩),
    d_need_name := (by obtain ⟨fd, F0, fe⟩ := c.at_ 7 (d := d7) rfl; have F : U.FunA K "need_name" "need_name" (top 64) [] [] 854 fd := F0; exact ⟨854, fd, F, (PySem.W.mg_of X G (show PySem.W.nsIn K mainGlobals "need_name" = some (some (.ref 854)) from of_decide_eq_true (c.bit 0 33 rfl rfl))), (U.bd0 F fun _ _ _ _ _ _ us hl => match us, hl with | [_], _ => rfl)⟩),
    m_Net_need_house := (by obtain ⟨fd, F0, fe⟩ := c.at_ 8 (d := d8) rfl; have F : U.FunA K "need_house" "Net.need_house" (inClass (top 65) 3) [] [] 889 fd := F0; exact ⟨889, fd, F, ⟨pg23, hd24, po25, sa26⟩, ⟨(show PySem.W.findIn K (.ref 988) "need_house" = some (some (.ref 889)) from of_decide_eq_true (c.bit 0 34 rfl rfl)), (show PySem.W.isFn K (.ref 889) = true from (c.bit 0 35 rfl rfl)), (show PySem.W.keepIn K (.ref 889) = true from (c.bit 0 36 rfl rfl))⟩, (U.bd0 F fun _ _ _ _ _ _ us hl => match us, hl with | [_, _], _ => rfl)⟩),
    m_Net_need_line := (by obtain ⟨fd, F0, fe⟩ := c.at_ 9 (d := d9) rfl; have F : U.FunA K "need_line" "Net.need_line" (inClass (top 65) 4) [] [] 896 fd := F0; exact ⟨896, fd, F, ⟨pg23, hd24, po25, sa26⟩, ⟨(show PySem.W.findIn K (.ref 988) "need_line" = some (some (.ref 896)) from of_decide_eq_true (c.bit 0 37 rfl rfl)), (show PySem.W.isFn K (.ref 896) = true from (c.bit 0 38 rfl rfl)), (show PySem.W.keepIn K (.ref 896) = true from (c.bit 0 39 rfl rfl))⟩, (U.bd0 F fun _ _ _ _ _ _ us hl => match us, hl with | [_, _], _ => rfl)⟩),
    m_Net_house := (by obtain ⟨fd, F0, fe⟩ := c.at_ 10 (d := d10) rfl; have F : U.FunA K "house" "Net.house" (inClass (top 65) 5) [] [] 903 fd := F0; exact ⟨903, fd, F, ⟨pg23, hd24, po25, sa26⟩, ⟨(show PySem.W.findIn K (.ref 988) "house" = some (some (.ref 903)) from of_decide_eq_true (c.bit 1 0 rfl rfl)), (show PySem.W.isFn K (.ref 903) = true from (c.bit 1 1 rfl rfl)), (show PySem.W.keepIn K (.ref 903) = true from (c.bit 1 2 rfl rfl))⟩, (U.bd0 F fun _ _ _ _ _ _ us hl => match us, hl with | [_, _], _ => rfl)⟩),
    m_Net_houses := (by obtain ⟨fd, F0, fe⟩ := c.at_ 11 (d := d11) rfl; have F : U.FunA K "houses" "Net.houses" (inClass (top 65) 9) [] [] 932 fd := F0; exact ⟨932, fd, F, ⟨pg23, hd24, po25, sa26⟩, ⟨(show PySem.W.findIn K (.ref 988) "houses" = some (some (.ref 932)) from of_decide_eq_true (c.bit 1 3 rfl rfl)), (show PySem.W.isFn K (.ref 932) = true from (c.bit 1 4 rfl rfl)), (show PySem.W.keepIn K (.ref 932) = true from (c.bit 1 5 rfl rfl))⟩, (U.bd0 F fun _ _ _ _ _ _ us hl => match us, hl with | [_], _ => rfl)⟩),
    m_Net_numbers := (by obtain ⟨fd, F0, fe⟩ := c.at_ 12 (d := d12) rfl; have F : U.FunA K "numbers" "Net.numbers" (inClass (top 65) 10) [] [] 939 fd := F0; exact ⟨939, fd, F, ⟨pg23, hd24, po25, sa26⟩, ⟨(show PySem.W.findIn K (.ref 988) "numbers" = some (some (.ref 939)) from of_decide_eq_true (c.bit 1 6 rfl rfl)), (show PySem.W.isFn K (.ref 939) = true from (c.bit 1 7 rfl rfl)), (show PySem.W.keepIn K (.ref 939) = true from (c.bit 1 8 rfl rfl))⟩, (U.bd0 F fun _ _ _ _ _ _ us hl => match us, hl with | [_], _ => rfl)⟩),
    m_Net_lines := (by obtain ⟨fd, F0, fe⟩ := c.at_ 13 (d := d13) rfl; have F : U.FunA K "lines" "Net.lines" (inClass (top 65) 11) [] [] 944 fd := F0; exact ⟨944, fd, F, ⟨pg23, hd24, po25, sa26⟩, ⟨(show PySem.W.findIn K (.ref 988) "lines" = some (some (.ref 944)) from of_decide_eq_true (c.bit 1 9 rfl rfl)), (show PySem.W.isFn K (.ref 944) = true from (c.bit 1 10 rfl rfl)), (show PySem.W.keepIn K (.ref 944) = true from (c.bit 1 11 rfl rfl))⟩, (U.bd0 F fun _ _ _ _ _ _ us hl => match us, hl with | [_], _ => rfl)⟩),
    m_Net_into := (by obtain ⟨fd, F0, fe⟩ := c.at_ 14 (d := d14) rfl; have F : U.FunA K "into" "Net.into" (inClass (top 65) 12) [] [] 949 fd := F0; exact ⟨949, fd, F, ⟨pg23, hd24, po25, sa26⟩, ⟨(show PySem.W.findIn K (.ref 988) "into" = some (some (.ref 949)) from of_decide_eq_true (c.bit 1 12 rfl rfl)), (show PySem.W.isFn K (.ref 949) = true from (c.bit 1 13 rfl rfl)), (show PySem.W.keepIn K (.ref 949) = true from (c.bit 1 14 rfl rfl))⟩, (U.bd0 F fun _ _ _ _ _ _ us hl => match us, hl with | [_, _], _ => rfl)⟩),
    m_Net_out_of := (by obtain ⟨fd, F0, fe⟩ := c.at_ 15 (d := d15) rfl; have F : U.FunA K "out_of" "Net.out_of" (inClass (top 65) 13) [] [] 954 fd := F0; exact ⟨954, fd, F, ⟨pg23, hd24, po25, sa26⟩, ⟨(show PySem.W.findIn K (.ref 988) "out_of" = some (some (.ref 954)) from of_decide_eq_true (c.bit 1 15 rfl rfl)), (show PySem.W.isFn K (.ref 954) = true from (c.bit 1 16 rfl rfl)), (show PySem.W.keepIn K (.ref 954) = true from (c.bit 1 17 rfl rfl))⟩, (U.bd0 F fun _ _ _ _ _ _ us hl => match us, hl with | [_, _], _ => rfl)⟩),
    m_Net_ends := (by obtain ⟨fd, F0, fe⟩ := c.at_ 16 (d := d16) rfl; have F : U.FunA K "ends" "Net.ends" (inClass (top 65) 14) [] [] 961 fd := F0; exact ⟨961, fd, F, ⟨pg23, hd24, po25, sa26⟩, ⟨(show PySem.W.findIn K (.ref 988) "ends" = some (some (.ref 961)) from of_decide_eq_true (c.bit 1 18 rfl rfl)), (show PySem.W.isFn K (.ref 961) = true from (c.bit 1 19 rfl rfl)), (show PySem.W.keepIn K (.ref 961) = true from (c.bit 1 20 rfl rfl))⟩, (U.bd0 F fun _ _ _ _ _ _ us hl => match us, hl with | [_, _], _ => rfl)⟩),
    m_Net_told_order := (by obtain ⟨fd, F0, fe⟩ := c.at_ 17 (d := d17) rfl; have F : U.FunA K "told_order" "Net.told_order" (inClass (top 65) 15) [] [] 966 fd := F0; exact ⟨966, fd, F, ⟨pg23, hd24, po25, sa26⟩, ⟨(show PySem.W.findIn K (.ref 988) "told_order" = some (some (.ref 966)) from of_decide_eq_true (c.bit 1 21 rfl rfl)), (show PySem.W.isFn K (.ref 966) = true from (c.bit 1 22 rfl rfl)), (show PySem.W.keepIn K (.ref 966) = true from (c.bit 1 23 rfl rfl))⟩, (U.bd0 F fun _ _ _ _ _ _ us hl => match us, hl with | [_], _ => rfl)⟩),
    m_Net_ring := (by obtain ⟨fd, F0, fe⟩ := c.at_ 18 (d := d18) rfl; have F : U.FunA K "ring" "Net.ring" (inClass (top 65) 16) [] [] 971 fd := F0; exact ⟨971, fd, F, ⟨pg23, hd24, po25, sa26⟩, ⟨(show PySem.W.findIn K (.ref 988) "ring" = some (some (.ref 971)) from of_decide_eq_true (c.bit 1 24 rfl rfl)), (show PySem.W.isFn K (.ref 971) = true from (c.bit 1 25 rfl rfl)), (show PySem.W.keepIn K (.ref 971) = true from (c.bit 1 26 rfl rfl))⟩, (U.bd0 F fun _ _ _ _ _ _ us hl => match us, hl with | [_], _ => rfl)⟩),
    m_Net_order := (by obtain ⟨fd, F0, fe⟩ := c.at_ 19 (d := d19) rfl; have F : U.FunA K "order" "Net.order" (inClass (top 65) 17) [] [] 978 fd := F0; exact ⟨978, fd, F, ⟨pg23, hd24, po25, sa26⟩, ⟨(show PySem.W.findIn K (.ref 988) "order" = some (some (.ref 978)) from of_decide_eq_true (c.bit 1 27 rfl rfl)), (show PySem.W.isFn K (.ref 978) = true from (c.bit 1 28 rfl rfl)), (show PySem.W.keepIn K (.ref 978) = true from (c.bit 1 29 rfl rfl))⟩, (U.bd0 F fun _ _ _ _ _ _ us hl => match us, hl with | [_], _ => rfl)⟩),
    m_Net_twin := (by obtain ⟨fd, F0, fe⟩ := c.at_ 20 (d := d20) rfl; have F : U.FunA K "twin" "Net.twin" (inClass (top 65) 18) [] [] 985 fd := F0; exact ⟨985, fd, F, ⟨pg23, hd24, po25, sa26⟩, ⟨(show PySem.W.findIn K (.ref 988) "twin" = some (some (.ref 985)) from of_decide_eq_true (c.bit 1 30 rfl rfl)), (show PySem.W.isFn K (.ref 985) = true from (c.bit 1 31 rfl rfl)), (show PySem.W.keepIn K (.ref 985) = true from (c.bit 1 32 rfl rfl))⟩, (U.bd0 F fun _ _ _ _ _ _ us hl => match us, hl with | [_], _ => rfl)⟩),
    m_Net_line := (by obtain ⟨fd, F0, fe⟩ := c.at_ 21 (d := d21) rfl; have F : U.FunA K "line" "Net.line" (inClass (top 65) 6) [] [("slow", V.int 1), ("number", V.non)] 911 fd := F0; exact ⟨911, fd, F, ⟨pg23, hd24, po25, sa26⟩, ⟨(show PySem.W.findIn K (.ref 988) "line" = some (some (.ref 911)) from of_decide_eq_true (c.bit 1 33 rfl rfl)), (show PySem.W.isFn K (.ref 911) = true from (c.bit 1 34 rfl rfl)), (show PySem.W.keepIn K (.ref 911) = true from (c.bit 1 35 rfl rfl))⟩, F.binds0 3 (List.cons_ne_nil _ _) rfl (fun D doc pm an cdv ct us ks l1 l2 => match us, ks, l1, l2 with | [_, _, _], [_, _], _, _ => ⟨_, _, _, _, _, _, rfl, rfl, ⟨_, _, _, _, _, _, rfl, rfl, rfl⟩⟩), U.bnAll0 F (List.cons_ne_nil _ _) (fun vs zs => vs ++ U.turn [1, 0] zs) (fun a b => a.append (U.turn_vals b)) (fun D doc pm an cdv ct us ws l1 l2 => match us, ws, l1, l2 with | [_, _, _], [_, _], _, _ => rfl)⟩),
    min := PySem.W.mg_none_of X G z29,
    tuple := PySem.W.mg_none_of X G z30,
    dict := PySem.W.mg_none_of X G z31,
    sum := PySem.W.mg_none_of X G z32,
    set := PySem.W.mg_none_of X G z33,
    g_MOST_HEARERS := (Hk.valB_ok X G (c.bit 1 36 rfl rfl)),
    g_MOST_LETTERS := (Hk.valB_ok X G (c.bit 1 37 rfl rfl)),
    g_MOST_LOSSES := (Hk.valB_ok X G (c.bit 1 38 rfl rfl)),
    d_need_letters := (by obtain ⟨fd, F0, fe⟩ := c.at_ 22 (d := d22) rfl; have F : U.FunA K "need_letters" "need_letters" (top 70) [] [] 999 fd := F0; exact ⟨999, fd, F, (PySem.W.mg_of X G (show PySem.W.nsIn K mainGlobals "need_letters" = some (some (.ref 999)) from of_decide_eq_true (c.bit 1 39 rfl rfl))), (U.bd0 F fun _ _ _ _ _ _ us hl => match us, hl with | [_], _ => rfl)⟩),
    d_is_loss := (by obtain ⟨fd, F0, fe⟩ := c.at_ 23 (d := d23) rfl; have F : U.FunA K "is_loss" "is_loss" (top 71) [] [] 1004 fd := F0; exact ⟨1004, fd, F, (PySem.W.mg_of X G (show PySem.W.nsIn K mainGlobals "is_loss" = some (some (.ref 1004)) from of_decide_eq_true (c.bit 2 0 rfl rfl))), (U.bd0 F fun _ _ _ _ _ _ us hl => match us, hl with | [_], _ => rfl)⟩),
    d_need_losses := (by obtain ⟨fd, F0, fe⟩ := c.at_ 24 (d := d24) rfl; have F : U.FunA K "need_losses" "need_losses" (top 72) [] [] 1009 fd := F0; exact ⟨1009, fd, F, (PySem.W.mg_of X G (show PySem.W.nsIn K mainGlobals "need_losses" = some (some (.ref 1009)) from of_decide_eq_true (c.bit 2 1 rfl rfl))), (U.bd0 F fun _ _ _ _ _ _ us hl => match us, hl with | [_], _ => rfl)⟩),
    c_Task := ⟨pg35, hd36, po37, sa38⟩,
    na_Task_rank_of := na39,
    na_Task_field_of := na40,
    na_Task_web := na41,
    na_Task_start := na42,
    na_Task_ears := na43,
    na_Task_many := na44,
    na_Task_gone := na45,
    nk_Task := (by obtain ⟨fd, F0, fe⟩ := c.at_ 25 (d := d25) rfl; have F : U.FunA K "__init__" "Task.__init__" (inClass (top 73) 0) [] [("letters", V.int 2), ("losses", V.ref 1017), ("size", V.int 16)] 1023 fd := F0; exact ⟨1023, fd, F, ⟨(show PySem.W.makesIn K 1120 = true from (c.bit 2 2 rfl rfl)), (show PySem.W.findIn K (.ref 1120) "__init__" = some (some (.ref 1023)) from of_decide_eq_true (c.bit 2 3 rfl rfl)), (show PySem.W.isFn K (.ref 1023) = true from (c.bit 2 4 rfl rfl)), (show PySem.W.keepIn K (.ref 1120) = true from (c.bit 2 5 rfl rfl))⟩, (PySem.W.mg_of X G (show PySem.W.nsIn K mainGlobals "Task" = some (some (.ref 1120)) from of_decide_eq_true (c.bit 2 6 rfl rfl))), U.bnAll0 F (List.cons_ne_nil _ _) (fun vs zs => vs ++ zs) (fun a b => a.append b) (fun D doc pm an cdv ct us ws l1 l2 => match us, ws, l1, l2 with | [_, _, _, _], [_, _, _], _, _ => rfl)⟩),
    m_Task_net := (by obtain ⟨fd, F0, fe⟩ := c.at_ 26 (d := d26) rfl; have F : U.FunA K "net" "Task.net" (inClass (top 73) 3) [] [] 1044 fd := F0; exact ⟨1044, fd, F, ⟨pg35, hd36, po37, sa38⟩, ⟨(show PySem.W.findIn K (.ref 1120) "net" = some (some (.ref 1044)) from of_decide_eq_true (c.bit 2 7 rfl rfl)), (show PySem.W.isFn K (.ref 1044) = true from (c.bit 2 8 rfl rfl)), (show PySem.W.keepIn K (.ref 1044) = true from (c.bit 2 9 rfl rfl))⟩, (U.bd0 F fun _ _ _ _ _ _ us hl => match us, hl with | [_], _ => rfl)⟩),
    m_Task_field := (by obtain ⟨fd, F0, fe⟩ := c.at_ 27 (d := d27) rfl; have F : U.FunA K "field" "Task.field" (inClass (top 73) 8) [] [] 1079 fd := F0; exact ⟨1079, fd, F, ⟨pg35, hd36, po37, sa38⟩, ⟨(show PySem.W.findIn K (.ref 1120) "field" = some (some (.ref 1079)) from of_decide_eq_true (c.bit 2 10 rfl rfl)), (show PySem.W.isFn K (.ref 1079) = true from (c.bit 2 11 rfl rfl)), (show PySem.W.keepIn K (.ref 1079) = true from (c.bit 2 12 rfl rfl))⟩, (U.bd0 F fun _ _ _ _ _ _ us hl => match us, hl with | [_], _ => rfl)⟩),
    m_Task_fed_by := (by obtain ⟨fd, F0, fe⟩ := c.at_ 28 (d := d28) rfl; have F : U.FunA K "fed_by" "Task.fed_by" (inClass (top 73) 11) [] [] 1096 fd := F0; exact ⟨1096, fd, F, ⟨pg35, hd36, po37, sa38⟩, ⟨(show PySem.W.findIn K (.ref 1120) "fed_by" = some (some (.ref 1096)) from of_decide_eq_true (c.bit 2 13 rfl rfl)), (show PySem.W.isFn K (.ref 1096) = true from (c.bit 2 14 rfl rfl)), (show PySem.W.keepIn K (.ref 1096) = true from (c.bit 2 15 rfl rfl))⟩, (U.bd0 F fun _ _ _ _ _ _ us hl => match us, hl with | [_, _], _ => rfl)⟩),
    m_Task_inputs := (by obtain ⟨fd, F0, fe⟩ := c.at_ 29 (d := d29) rfl; have F : U.FunA K "inputs" "Task.inputs" (inClass (top 73) 12) [] [] 1103 fd := F0; exact ⟨1103, fd, F, ⟨pg35, hd36, po37, sa38⟩, ⟨(show PySem.W.findIn K (.ref 1120) "inputs" = some (some (.ref 1103)) from of_decide_eq_true (c.bit 2 16 rfl rfl)), (show PySem.W.isFn K (.ref 1103) = true from (c.bit 2 17 rfl rfl)), (show PySem.W.keepIn K (.ref 1103) = true from (c.bit 2 18 rfl rfl))⟩, (U.bd0 F fun _ _ _ _ _ _ us hl => match us, hl with | [_, _], _ => rfl)⟩),
    gx_BadSize := PySem.W.mg_of X G g46,
    gx_BadNumber := PySem.W.mg_of X G g47,
    gx_BadRow := PySem.W.mg_of X G g48,
    gx_BadName := PySem.W.mg_of X G g49,
    gx_BadLine := PySem.W.mg_of X G g50,
    gx_BadHearers := PySem.W.mg_of X G g51,
    gx_BadLoss := PySem.W.mg_of X G g52,
    gx_BadPlan := PySem.W.mg_of X G g53,
    gx_BadDeed := PySem.W.mg_of X G g54,
    gx_BadText := PySem.W.mg_of X G g55,
    gx_Ringed := PySem.W.mg_of X G g56,
    gx_Short := PySem.W.mg_of X G g57,
    gx_Narrow := PySem.W.mg_of X G g58,
    gx_Heavy := PySem.W.mg_of X G g59,
    gx_Unsolved := PySem.W.mg_of X G g60,
    gx_NoHouse := PySem.W.mg_of X G g61,
    gx_NoLine := PySem.W.mg_of X G g62,
    gx_Taken := PySem.W.mg_of X G g63,
    gx_Full := PySem.W.mg_of X G g64,
    gx_InUse := PySem.W.mg_of X G g65,
    gx_Told := PySem.W.mg_of X G g66,
    gx_NothingLeft := PySem.W.mg_of X G g67,
    gx_NoShare := PySem.W.mg_of X G g68,
    gx_MingleError := PySem.W.mg_of X G g69,
    gx_Missing := PySem.W.mg_of X G g70,
    gx_Busy := PySem.W.mg_of X G g71,
    d_law_kind := (by obtain ⟨fd, F0, fe⟩ := c.at_ 30 (d := d30) rfl; have F : U.FunA K "_law_kind" "_law_kind" (top 83) [] [] 1179 fd := F0; exact ⟨1179, fd, F, (PySem.W.mg_of X G (show PySem.W.nsIn K mainGlobals "_law_kind" = some (some (.ref 1179)) from of_decide_eq_true (c.bit 2 19 rfl rfl))), (U.bd0 F fun _ _ _ _ _ _ us hl => match us, hl with | [_], _ => rfl)⟩),
    d_law_why := (by obtain ⟨fd, F0, fe⟩ := c.at_ 31 (d := d31) rfl; have F : U.FunA K "_law_why" "_law_why" (top 92) [] [] 1240 fd := F0; exact ⟨1240, fd, F, (PySem.W.mg_of X G (show PySem.W.nsIn K mainGlobals "_law_why" = some (some (.ref 1240)) from of_decide_eq_true (c.bit 2 20 rfl rfl))), (U.bd0 F fun _ _ _ _ _ _ us hl => match us, hl with | [_], _ => rfl)⟩),
    xi_Heavy := (by obtain ⟨fd, F0, fe⟩ := c.at_ 32 (d := d32) rfl; have F : U.FunA K "__init__" "Heavy.__init__" (inClass (top 16) 0) [] [] 226 fd := F0; exact ⟨⟨226, fd, F, (show U.OexB K 229 from ⟨⟨_, _, _, _, PySem.F.excBase_ValueError, PySem.F.store_ValueError, (c.bit 2 21 rfl rfl), (c.bit 2 22 rfl rfl)⟩, (show PySem.W.hasDictIn K 229 = true from (c.bit 2 23 rfl rfl)), (show PySem.W.findIn K (.ref 229) "__setattr__" = some (some (.builtin "object.__setattr__")) from of_decide_eq_true (c.bit 2 24 rfl rfl)), (show PySem.W.subIn K (.ref 229) (.type "BaseException") = some true from of_decide_eq_true (c.bit 2 25 rfl rfl)), (show PySem.W.typeIn K (.ref 229) = some (.type "type") from of_decide_eq_true (c.bit 2 26 rfl rfl)), (show PySem.W.keepIn K (.ref 229) = true from (c.bit 2 27 rfl rfl))⟩), (show PySem.W.findIn K (.ref 229) "__init__" = some (some (.ref 226)) from of_decide_eq_true (c.bit 2 28 rfl rfl)), (show PySem.W.typeIn K (.ref 226) = some (.type "function") from of_decide_eq_true (c.bit 2 29 rfl rfl)), (PySem.W.mg_of X G (show PySem.W.nsIn K mainGlobals "Heavy" = some (some (.ref 229)) from of_decide_eq_true (c.bit 2 31 rfl rfl))), (U.bd0 F fun _ _ _ _ _ _ us hl => match us, hl with | [_, _], _ => rfl)⟩, (show U.OexB K 229 from ⟨⟨_, _, _, _, PySem.F.excBase_ValueError, PySem.F.store_ValueError, (c.bit 2 21 rfl rfl), (c.bit 2 22 rfl rfl)⟩, (show PySem.W.hasDictIn K 229 = true from (c.bit 2 23 rfl rfl)), (show PySem.W.findIn K (.ref 229) "__setattr__" = some (some (.builtin "object.__setattr__")) from of_decide_eq_true (c.bit 2 24 rfl rfl)), (show PySem.W.subIn K (.ref 229) (.type "BaseException") = some true from of_decide_eq_true (c.bit 2 25 rfl rfl)), (show PySem.W.typeIn K (.ref 229) = some (.type "type") from of_decide_eq_true (c.bit 2 26 rfl rfl)), (show PySem.W.keepIn K (.ref 229) = true from (c.bit 2 27 rfl rfl))⟩), (show PySem.W.findIn K (.ref 229) "tries" = some none from of_decide_eq_true (c.bit 2 30 rfl rfl))⟩),
    xf_NoHouse := (L2.xfB_ok (c.bit 2 32 rfl rfl)),
    xn_NoHouse := (show PySem.W.findIn K (.ref 273) "name" = some none from of_decide_eq_true (c.bit 2 33 rfl rfl)),
    xm_NoHouse_NoHouse := (show PySem.W.exmOne K (.ref 273) (.ref 273) = some true from of_decide_eq_true (c.bit 2 34 rfl rfl)),
    xf_NoLine := (L2.xfB_ok (c.bit 2 35 rfl rfl)),
    xn_NoLine := (show PySem.W.findIn K (.ref 292) "number" = some none from of_decide_eq_true (c.bit 2 36 rfl rfl)),
    xm_NoLine_NoHouse := (show PySem.W.exmOne K (.ref 292) (.ref 273) = some false from of_decide_eq_true (c.bit 2 37 rfl rfl)),
    xm_NoLine_NoLine := (show PySem.W.exmOne K (.ref 292) (.ref 292) = some true from of_decide_eq_true (c.bit 2 38 rfl rfl)),
    xf_InUse := (L2.xfB_ok (c.bit 2 39 rfl rfl)),
    xn_InUse := (show PySem.W.findIn K (.ref 348) "number" = some none from of_decide_eq_true (c.bit 3 0 rfl rfl)),
    xm_InUse_NoHouse := (show PySem.W.exmOne K (.ref 348) (.ref 273) = some false from of_decide_eq_true (c.bit 3 1 rfl rfl)),
    xm_InUse_NoLine := (show PySem.W.exmOne K (.ref 348) (.ref 292) = some false from of_decide_eq_true (c.bit 3 2 rfl rfl)),
    xm_InUse_InUse := (show PySem.W.exmOne K (.ref 348) (.ref 348) = some true from of_decide_eq_true (c.bit 3 3 rfl rfl)),
    xf_BadText := (L2.xfB_ok (c.bit 3 4 rfl rfl)),
    xn_BadText := (show PySem.W.findIn K (.ref 160) "row" = some none from of_decide_eq_true (c.bit 3 5 rfl rfl)),
    xm_BadText_NoHouse := (show PySem.W.exmOne K (.ref 160) (.ref 273) = some false from of_decide_eq_true (c.bit 3 6 rfl rfl)),
    xm_BadText_NoLine := (show PySem.W.exmOne K (.ref 160) (.ref 292) = some false from of_decide_eq_true (c.bit 3 7 rfl rfl)),
    xm_BadText_InUse := (show PySem.W.exmOne K (.ref 160) (.ref 348) = some false from of_decide_eq_true (c.bit 3 8 rfl rfl)),
    xm_BadText_BadText := (show PySem.W.exmOne K (.ref 160) (.ref 160) = some true from of_decide_eq_true (c.bit 3 9 rfl rfl)),
    xf_Heavy := (L2.xfB_ok (c.bit 3 10 rfl rfl)),
    xn_Heavy := (show PySem.W.findIn K (.ref 229) "tries" = some none from of_decide_eq_true (c.bit 2 30 rfl rfl)),
    xm_Heavy_NoHouse := (show PySem.W.exmOne K (.ref 229) (.ref 273) = some false from of_decide_eq_true (c.bit 3 11 rfl rfl)),
    xm_Heavy_NoLine := (show PySem.W.exmOne K (.ref 229) (.ref 292) = some false from of_decide_eq_true (c.bit 3 12 rfl rfl)),
    xm_Heavy_InUse := (show PySem.W.exmOne K (.ref 229) (.ref 348) = some false from of_decide_eq_true (c.bit 3 13 rfl rfl)),
    xm_Heavy_BadText := (show PySem.W.exmOne K (.ref 229) (.ref 160) = some false from of_decide_eq_true (c.bit 3 14 rfl rfl)),
    xm_Heavy_Heavy := (show PySem.W.exmOne K (.ref 229) (.ref 229) = some true from of_decide_eq_true (c.bit 3 15 rfl rfl)),
    d_law_whole := (by obtain ⟨fd, F0, fe⟩ := c.at_ 33 (d := d33) rfl; have F : U.FunA K "_law_whole" "_law_whole" (top 91) [] [] 1233 fd := F0; exact ⟨1233, fd, F, (PySem.W.mg_of X G (show PySem.W.nsIn K mainGlobals "_law_whole" = some (some (.ref 1233)) from of_decide_eq_true (c.bit 3 16 rfl rfl))), (U.bd0 F fun _ _ _ _ _ _ us hl => match us, hl with | [_], _ => rfl)⟩),
    d_law_alike := (by obtain ⟨fd, F0, fe⟩ := c.at_ 34 (d := d34) rfl; have F : U.FunA K "_law_alike" "_law_alike" (top 75) [] [] 1129 fd := F0; exact ⟨1129, fd, F, (PySem.W.mg_of X G (show PySem.W.nsIn K mainGlobals "_law_alike" = some (some (.ref 1129)) from of_decide_eq_true (c.bit 3 17 rfl rfl))), (U.bd0 F fun _ _ _ _ _ _ us hl => match us, hl with | [_, _], _ => rfl)⟩),
    g_MOST_TRIES := (Hk.valB_ok X G (c.bit 3 18 rfl rfl)),
    d_first_plan := (by obtain ⟨fd, F0, fe⟩ := c.at_ 35 (d := d35) rfl; have F : U.FunA K "first_plan" "first_plan" (top 55) [] [("most", V.int 4096)] 843 fd := F0; exact ⟨843, fd, F, (PySem.W.mg_of X G (show PySem.W.nsIn K mainGlobals "first_plan" = some (some (.ref 843)) from of_decide_eq_true (c.bit 3 19 rfl rfl))), U.bnAll0 F (List.cons_ne_nil _ _) (fun vs zs => vs ++ zs) (fun a b => a.append b) (fun D doc pm an cdv ct us ws l1 l2 => match us, ws, l1, l2 with | [_], [_], _, _ => rfl)⟩),
    d_first_copying := (by obtain ⟨fd, F0, fe⟩ := c.at_ 36 (d := d36) rfl; have F : U.FunA K "first_copying" "first_copying" (top 56) [] [("most", V.int 4096)] 849 fd := F0; exact ⟨849, fd, F, (PySem.W.mg_of X G (show PySem.W.nsIn K mainGlobals "first_copying" = some (some (.ref 849)) from of_decide_eq_true (c.bit 3 20 rfl rfl))), U.bnAll0 F (List.cons_ne_nil _ _) (fun vs zs => vs ++ zs) (fun a b => a.append b) (fun D doc pm an cdv ct us ws l1 l2 => match us, ws, l1, l2 with | [_], [_], _, _ => rfl)⟩),
    d_need_most := (by obtain ⟨fd, F0, fe⟩ := c.at_ 37 (d := d37) rfl; have F : U.FunA K "need_most" "need_most" (top 47) [] [] 798 fd := F0; exact ⟨798, fd, F, (PySem.W.mg_of X G (show PySem.W.nsIn K mainGlobals "need_most" = some (some (.ref 798)) from of_decide_eq_true (c.bit 3 21 rfl rfl))), (U.bd0 F fun _ _ _ _ _ _ us hl => match us, hl with | [_], _ => rfl)⟩),
    d_need_light := (by obtain ⟨fd, F0, fe⟩ := c.at_ 38 (d := d38) rfl; have F : U.FunA K "need_light" "need_light" (top 48) [] [] 805 fd := F0; exact ⟨805, fd, F, (PySem.W.mg_of X G (show PySem.W.nsIn K mainGlobals "need_light" = some (some (.ref 805)) from of_decide_eq_true (c.bit 3 22 rfl rfl))), (U.bd0 F fun _ _ _ _ _ _ us hl => match us, hl with | [_, _], _ => rfl)⟩),
    d_widths := (by obtain ⟨fd, F0, fe⟩ := c.at_ 39 (d := d39) rfl; have F : U.FunA K "widths" "widths" (top 49) [] [] 810 fd := F0; exact ⟨810, fd, F, (PySem.W.mg_of X G (show PySem.W.nsIn K mainGlobals "widths" = some (some (.ref 810)) from of_decide_eq_true (c.bit 3 23 rfl rfl))), (U.bd0 F fun _ _ _ _ _ _ us hl => match us, hl with | [_], _ => rfl)⟩),
    d_tries := (by obtain ⟨fd, F0, fe⟩ := c.at_ 40 (d := d40) rfl; have F : U.FunA K "tries" "tries" (top 50) [] [] 815 fd := F0; exact ⟨815, fd, F, (PySem.W.mg_of X G (show PySem.W.nsIn K mainGlobals "tries" = some (some (.ref 815)) from of_decide_eq_true (c.bit 3 24 rfl rfl))), (U.bd0 F fun _ _ _ _ _ _ us hl => match us, hl with | [_], _ => rfl)⟩),
    d_copying_tries := (by obtain ⟨fd, F0, fe⟩ := c.at_ 41 (d := d41) rfl; have F : U.FunA K "copying_tries" "copying_tries" (top 51) [] [] 822 fd := F0; exact ⟨822, fd, F, (PySem.W.mg_of X G (show PySem.W.nsIn K mainGlobals "copying_tries" = some (some (.ref 822)) from of_decide_eq_true (c.bit 3 25 rfl rfl))), (U.bd0 F fun _ _ _ _ _ _ us hl => match us, hl with | [_], _ => rfl)⟩),
    d_law_names := (by obtain ⟨fd, F0, fe⟩ := c.at_ 42 (d := d42) rfl; have F : U.FunA K "_law_names" "_law_names" (top 84) [] [] 1184 fd := F0; exact ⟨1184, fd, F, (PySem.W.mg_of X G (show PySem.W.nsIn K mainGlobals "_law_names" = some (some (.ref 1184)) from of_decide_eq_true (c.bit 3 26 rfl rfl))), (U.bd0 F fun _ _ _ _ _ _ us hl => match us, hl with | [_, _], _ => rfl)⟩),
    d_law_order_drawn := (by obtain ⟨fd, F0, fe⟩ := c.at_ 43 (d := d43) rfl; have F : U.FunA K "_law_order_drawn" "_law_order_drawn" (top 85) [] [] 1191 fd := F0; exact ⟨1191, fd, F, (PySem.W.mg_of X G (show PySem.W.nsIn K mainGlobals "_law_order_drawn" = some (some (.ref 1191)) from of_decide_eq_true (c.bit 3 27 rfl rfl))), (U.bd0 F fun _ _ _ _ _ _ us hl => match us, hl with | [_, _], _ => rfl)⟩),
    d_law_plain_net := (by obtain ⟨fd, F0, fe⟩ := c.at_ 44 (d := d44) rfl; have F : U.FunA K "_law_plain_net" "_law_plain_net" (top 86) [] [] 1198 fd := F0; exact ⟨1198, fd, F, (PySem.W.mg_of X G (show PySem.W.nsIn K mainGlobals "_law_plain_net" = some (some (.ref 1198)) from of_decide_eq_true (c.bit 3 28 rfl rfl))), (U.bd0 F fun _ _ _ _ _ _ us hl => match us, hl with | [_], _ => rfl)⟩),
    d_law_world := (by obtain ⟨fd, F0, fe⟩ := c.at_ 45 (d := d45) rfl; have F : U.FunA K "_law_world" "_law_world" (top 93) [] [] 1247 fd := F0; exact ⟨1247, fd, F, (PySem.W.mg_of X G (show PySem.W.nsIn K mainGlobals "_law_world" = some (some (.ref 1247)) from of_decide_eq_true (c.bit 3 29 rfl rfl))), (U.bd0 F fun _ _ _ _ _ _ us hl => match us, hl with | [_, _, _, _], _ => rfl)⟩),
    d_law_gone := (by obtain ⟨fd, F0, fe⟩ := c.at_ 46 (d := d46) rfl; have F : U.FunA K "_law_gone" "_law_gone" (top 81) [] [] 1167 fd := F0; exact ⟨1167, fd, F, (PySem.W.mg_of X G (show PySem.W.nsIn K mainGlobals "_law_gone" = some (some (.ref 1167)) from of_decide_eq_true (c.bit 3 30 rfl rfl))), (U.bd0 F fun _ _ _ _ _ _ us hl => match us, hl with | [_, _, _], _ => rfl)⟩),
    d_law_ask := (by obtain ⟨fd, F0, fe⟩ := c.at_ 47 (d := d47) rfl; have F : U.FunA K "_law_ask" "_law_ask" (top 76) [] [] 1134 fd := F0; exact ⟨1134, fd, F, (PySem.W.mg_of X G (show PySem.W.nsIn K mainGlobals "_law_ask" = some (some (.ref 1134)) from of_decide_eq_true (c.bit 3 31 rfl rfl))), (U.bd0 F fun _ _ _ _ _ _ us hl => match us, hl with | [_, _, _], _ => rfl)⟩),
    d_law_fed := (by obtain ⟨fd, F0, fe⟩ := c.at_ 48 (d := d48) rfl; have F : U.FunA K "_law_fed" "_law_fed" (top 80) [] [] 1160 fd := F0; exact ⟨1160, fd, F, (PySem.W.mg_of X G (show PySem.W.nsIn K mainGlobals "_law_fed" = some (some (.ref 1160)) from of_decide_eq_true (c.bit 3 32 rfl rfl))), (U.bd0 F fun _ _ _ _ _ _ us hl => match us, hl with | [_, _], _ => rfl)⟩),
    d_law_inputs := (by obtain ⟨fd, F0, fe⟩ := c.at_ 49 (d := d49) rfl; have F : U.FunA K "_law_inputs" "_law_inputs" (top 82) [] [] 1174 fd := F0; exact ⟨1174, fd, F, (PySem.W.mg_of X G (show PySem.W.nsIn K mainGlobals "_law_inputs" = some (some (.ref 1174)) from of_decide_eq_true (c.bit 3 33 rfl rfl))), (U.bd0 F fun _ _ _ _ _ _ us hl => match us, hl with | [_, _], _ => rfl)⟩),
    d_law_tries := (by obtain ⟨fd, F0, fe⟩ := c.at_ 50 (d := d50) rfl; have F : U.FunA K "_law_tries" "_law_tries" (top 90) [] [] 1226 fd := F0; exact ⟨1226, fd, F, (PySem.W.mg_of X G (show PySem.W.nsIn K mainGlobals "_law_tries" = some (some (.ref 1226)) from of_decide_eq_true (c.bit 3 34 rfl rfl))), (U.bd0 F fun _ _ _ _ _ _ us hl => match us, hl with | [_], _ => rfl)⟩),
    d_law_copying_tries := (by obtain ⟨fd, F0, fe⟩ := c.at_ 51 (d := d51) rfl; have F : U.FunA K "_law_copying_tries" "_law_copying_tries" (top 78) [] [] 1148 fd := F0; exact ⟨1148, fd, F, (PySem.W.mg_of X G (show PySem.W.nsIn K mainGlobals "_law_copying_tries" = some (some (.ref 1148)) from of_decide_eq_true (c.bit 3 35 rfl rfl))), (U.bd0 F fun _ _ _ _ _ _ us hl => match us, hl with | [_], _ => rfl)⟩),
    d_law_task := (by obtain ⟨fd, F0, fe⟩ := c.at_ 52 (d := d52) rfl; have F : U.FunA K "_law_task" "_law_task" (top 89) [] [] 1219 fd := F0; exact ⟨1219, fd, F, (PySem.W.mg_of X G (show PySem.W.nsIn K mainGlobals "_law_task" = some (some (.ref 1219)) from of_decide_eq_true (c.bit 3 36 rfl rfl))), (U.bd0 F fun _ _ _ _ _ _ us hl => match us, hl with | [_], _ => rfl)⟩),
    d_law_far := (by obtain ⟨fd, F0, fe⟩ := c.at_ 53 (d := d53) rfl; have F : U.FunA K "_law_far" "_law_far" (top 79) [] [] 1155 fd := F0; exact ⟨1155, fd, F, (PySem.W.mg_of X G (show PySem.W.nsIn K mainGlobals "_law_far" = some (some (.ref 1155)) from of_decide_eq_true (c.bit 3 37 rfl rfl))), (U.bd0 F fun _ _ _ _ _ _ us hl => match us, hl with | [_], _ => rfl)⟩) }
theorem k0 (c : Hk.Says fn ex [1249] h K) : WhyOf K AA AA.BadSize "BadSize" := ⟨true, false, false, false, false, false, false, false, false, false, false, false, false, false, false, false, false, false, false, false, false, false, false, ⟨⟨(show PySem.W.findIn K (.ref 44) "__getattribute__" = some (some (.builtin "BaseException.__getattribute__")) from of_decide_eq_true (c.bit 5 32 rfl rfl)), (show PySem.W.findIn K (.ref 44) "__getattr__" = some none from of_decide_eq_true (c.bit 5 33 rfl rfl)), (show PySem.W.subIn K (.ref 44) (.type "BaseException") = some true from of_decide_eq_true (c.bit 4 7 rfl rfl)), (show PySem.W.hasDictIn K 44 = true from (c.bit 5 34 rfl rfl)), (show PySem.W.findIn K (.ref 44) "__class__" = some (some (.builtin "object.__class__")) from of_decide_eq_true (c.bit 5 35 rfl rfl)), (show PySem.W.specialIn K (.builtin "object.__class__") "__get__" = some (some (.builtin "getset_descriptor.__get__")) from of_decide_eq_true (c.bit 5 36 rfl rfl)), (show PySem.W.takesIn K (.builtin "object.__class__") = some true from of_decide_eq_true (c.bit 5 37 rfl rfl)), (show PySem.W.mroIn K 44 (.type "object") = some true from of_decide_eq_true (c.bit 5 38 rfl rfl))⟩, (show PySem.W.kitOne K (.ref 44) (.ref 44) = some true from of_decide_eq_true (c.bit 5 39 rfl rfl)), (show PySem.W.kitOne K (.ref 44) (.ref 56) = some false from of_decide_eq_true (c.bit 6 0 rfl rfl)), (show PySem.W.kitOne K (.ref 44) (.ref 68) = some false from of_decide_eq_true (c.bit 6 1 rfl rfl)), (show PySem.W.kitOne K (.ref 44) (.ref 80) = some false from of_decide_eq_true (c.bit 6 2 rfl rfl)), (show PySem.W.kitOne K (.ref 44) (.ref 92) = some false from of_decide_eq_true (c.bit 6 3 rfl rfl)), (show PySem.W.kitOne K (.ref 44) (.ref 104) = some false from of_decide_eq_true (c.bit 6 4 rfl rfl)), (show PySem.W.kitOne K (.ref 44) (.ref 116) = some false from of_decide_eq_true (c.bit 6 5 rfl rfl)), (show PySem.W.kitOne K (.ref 44) (.ref 128) = some false from of_decide_eq_true (c.bit 6 6 rfl rfl)), (show PySem.W.kitOne K (.ref 44) (.ref 140) = some false from of_decide_eq_true (c.bit 6 7 rfl rfl)), (show PySem.W.kitOne K (.ref 44) (.ref 160) = some false from of_decide_eq_true (c.bit 6 8 rfl rfl)), (show PySem.W.kitOne K (.ref 44) (.ref 179) = some false from of_decide_eq_true (c.bit 6 9 rfl rfl)), (show PySem.W.kitOne K (.ref 44) (.ref 198) = some false from of_decide_eq_true (c.bit 6 10 rfl rfl)), (show PySem.W.kitOne K (.ref 44) (.ref 210) = some false from of_decide_eq_true (c.bit 6 11 rfl rfl)), (show PySem.W.kitOne K (.ref 44) (.ref 229) = some false from of_decide_eq_true (c.bit 6 12 rfl rfl)), (show PySem.W.kitOne K (.ref 44) (.ref 241) = some false from of_decide_eq_true (c.bit 6 13 rfl rfl)), (show PySem.W.kitOne K (.ref 44) (.ref 273) = some false from of_decide_eq_true (c.bit 6 14 rfl rfl)), (show PySem.W.kitOne K (.ref 44) (.ref 292) = some false from of_decide_eq_true (c.bit 6 15 rfl rfl)), (show PySem.W.kitOne K (.ref 44) (.ref 317) = some false from of_decide_eq_true (c.bit 6 16 rfl rfl)), (show PySem.W.kitOne K (.ref 44) (.ref 329) = some false from of_decide_eq_true (c.bit 6 17 rfl rfl)), (show PySem.W.kitOne K (.ref 44) (.ref 348) = some false from of_decide_eq_true (c.bit 6 18 rfl rfl)), (show PySem.W.kitOne K (.ref 44) (.ref 360) = some false from of_decide_eq_true (c.bit 6 19 rfl rfl)), (show PySem.W.kitOne K (.ref 44) (.ref 372) = some false from of_decide_eq_true (c.bit 6 20 rfl rfl)), (show PySem.W.kitOne K (.ref 44) (.ref 384) = some false from of_decide_eq_true (c.bit 6 21 rfl rfl))⟩, ⟨(show PySem.W.exmOne K (.ref 44) (.ref 273) = some false from of_decide_eq_true (c.bit 6 22 rfl rfl)), (show PySem.W.exmOne K (.ref 44) (.ref 292) = some false from of_decide_eq_true (c.bit 6 23 rfl rfl)), (show PySem.W.exmOne K (.ref 44) (.ref 348) = some false from of_decide_eq_true (c.bit 6 24 rfl rfl)), (show PySem.W.exmOne K (.ref 44) (.ref 160) = some false from of_decide_eq_true (c.bit 6 25 rfl rfl)), (show PySem.W.exmOne K (.ref 44) (.ref 229) = some false from of_decide_eq_true (c.bit 6 26 rfl rfl)), (show PySem.W.exmAny K (.ref 44) [.ref 31, .ref 253, .ref 304, .ref 384] = some true from of_decide_eq_true (c.bit 6 27 rfl rfl))⟩, by decide +kernel⟩
theorem k1 (c : Hk.Says fn ex [1249] h K) : WhyOf K AA AA.BadNumber "BadNumber" := ⟨false, true, false, false, false, false, false, false, false, false, false, false, false, false, false, false, false, false, false, false, false, false, false, ⟨⟨(show PySem.W.findIn K (.ref 56) "__getattribute__" = some (some (.builtin "BaseException.__getattribute__")) from of_decide_eq_true (c.bit 6 28 rfl rfl)), (show PySem.W.findIn K (.ref 56) "__getattr__" = some none from of_decide_eq_true (c.bit 6 29 rfl rfl)), (show PySem.W.subIn K (.ref 56) (.type "BaseException") = some true from of_decide_eq_true (c.bit 4 12 rfl rfl)), (show PySem.W.hasDictIn K 56 = true from (c.bit 6 30 rfl rfl)), (show PySem.W.findIn K (.ref 56) "__class__" = some (some (.builtin "object.__class__")) from of_decide_eq_true (c.bit 6 31 rfl rfl)), (show PySem.W.specialIn K (.builtin "object.__class__") "__get__" = some (some (.builtin "getset_descriptor.__get__")) from of_decide_eq_true (c.bit 5 36 rfl rfl)), (show PySem.W.takesIn K (.builtin "object.__class__") = some true from of_decide_eq_true (c.bit 5 37 rfl rfl)), (show PySem.W.mroIn K 56 (.type "object") = some true from of_decide_eq_true (c.bit 6 32 rfl rfl))⟩, (show PySem.W.kitOne K (.ref 56) (.ref 44) = some false from of_decide_eq_true (c.bit 6 33 rfl rfl)), (show PySem.W.kitOne K (.ref 56) (.ref 56) = some true from of_decide_eq_true (c.bit 6 34 rfl rfl)), (show PySem.W.kitOne K (.ref 56) (.ref 68) = some false from of_decide_eq_true (c.bit 6 35 rfl rfl)), (show PySem.W.kitOne K (.ref 56) (.ref 80) = some false from of_decide_eq_true (c.bit 6 36 rfl rfl)), (show PySem.W.kitOne K (.ref 56) (.ref 92) = some false from of_decide_eq_true (c.bit 6 37 rfl rfl)), (show PySem.W.kitOne K (.ref 56) (.ref 104) = some false from of_decide_eq_true (c.bit 6 38 rfl rfl)), (show PySem.W.kitOne K (.ref 56) (.ref 116) = some false from of_decide_eq_true (c.bit 6 39 rfl rfl)), (show PySem.W.kitOne K (.ref 56) (.ref 128) = some false from of_decide_eq_true (c.bit 7 0 rfl rfl)), (show PySem.W.kitOne K (.ref 56) (.ref 140) = some false from of_decide_eq_true (c.bit 7 1 rfl rfl)), (show PySem.W.kitOne K (.ref 56) (.ref 160) = some false from of_decide_eq_true (c.bit 7 2 rfl rfl)), (show PySem.W.kitOne K (.ref 56) (.ref 179) = some false from of_decide_eq_true (c.bit 7 3 rfl rfl)), (show PySem.W.kitOne K (.ref 56) (.ref 198) = some false from of_decide_eq_true (c.bit 7 4 rfl rfl)), (show PySem.W.kitOne K (.ref 56) (.ref 210) = some false from of_decide_eq_true (c.bit 7 5 rfl rfl)), (show PySem.W.kitOne K (.ref 56) (.ref 229) = some false from of_decide_eq_true (c.bit 7 6 rfl rfl)), (show PySem.W.kitOne K (.ref 56) (.ref 241) = some false from of_decide_eq_true (c.bit 7 7 rfl rfl)), (show PySem.W.kitOne K (.ref 56) (.ref 273) = some false from of_decide_eq_true (c.bit 7 8 rfl rfl)), (show PySem.W.kitOne K (.ref 56) (.ref 292) = some false from of_decide_eq_true (c.bit 7 9 rfl rfl)), (show PySem.W.kitOne K (.ref 56) (.ref 317) = some false from of_decide_eq_true (c.bit 7 10 rfl rfl)), (show PySem.W.kitOne K (.ref 56) (.ref 329) = some false from of_decide_eq_true (c.bit 7 11 rfl rfl)), (show PySem.W.kitOne K (.ref 56) (.ref 348) = some false from of_decide_eq_true (c.bit 7 12 rfl rfl)), (show PySem.W.kitOne K (.ref 56) (.ref 360) = some false from of_decide_eq_true (c.bit 7 13 rfl rfl)), (show PySem.W.kitOne K (.ref 56) (.ref 372) = some false from of_decide_eq_true (c.bit 7 14 rfl rfl)), (show PySem.W.kitOne K (.ref 56) (.ref 384) = some false from of_decide_eq_true (c.bit 7 15 rfl rfl))⟩, ⟨(show PySem.W.exmOne K (.ref 56) (.ref 273) = some false from of_decide_eq_true (c.bit 7 16 rfl rfl)), (show PySem.W.exmOne K (.ref 56) (.ref 292) = some false from of_decide_eq_true (c.bit 7 17 rfl rfl)), (show PySem.W.exmOne K (.ref 56) (.ref 348) = some false from of_decide_eq_true (c.bit 7 18 rfl rfl)), (show PySem.W.exmOne K (.ref 56) (.ref 160) = some false from of_decide_eq_true (c.bit 7 19 rfl rfl)), (show PySem.W.exmOne K (.ref 56) (.ref 229) = some false from of_decide_eq_true (c.bit 7 20 rfl rfl)), (show PySem.W.exmAny K (.ref 56) [.ref 31, .ref 253, .ref 304, .ref 384] = some true from of_decide_eq_true (c.bit 7 21 rfl rfl))⟩, by decide +kernel⟩
theorem fin (l : PySem.W.OpenLaw) (c : Hk.Says fn ex [1249] h K) (G : h.Ns mainGlobals mg) {fa : Addr} (hfa : mg "law" = some (.ref fa)) : LamX.LawAtS l w K (L2N.CX l.prog w) 12 63 "_law_script" mg fa h := by
  have X := c.ins
  have e := hfa.symm.trans (PySem.W.mg_of X G (show PySem.W.nsIn K mainGlobals "law" = some (some (.ref 1252)) from of_decide_eq_true (c.bit 5 31 rfl rfl)))
  cases e
  obtain ⟨fd, F0, fe⟩ := c.at_ 54 (d := d54) rfl
  have F : U.FunA K "law" "law" (top 94) [] [] 1252 fd := F0
  obtain ⟨oc, kV, dc, pm, ct, od, an, sl, lk, cd⟩ := Hk.code_of F fe (c.bit 7 24 rfl rfl)
  have bd := FunD.bindsA (ps := ["_law_script"]) F fun _ _ _ _ _ _ us hl => match us, hl with | [_], _ => rfl
  have k0 := k0 c
  have k1 := k1 c
  refine ⟨(PySem.W.fnOf "law" "law" (defArgs (top 94)) (defBody (top 94)) (defScope (top 94)) .none kV dc pm an (.ref 1251) ct), [(1251, 1249)], (spLaw K 1249), (List.forall_mem_cons.mpr ⟨c.ts 1249 (by decide), (fun _ m => nomatch m)⟩), (List.forall_mem_cons.mpr ⟨Hk.none_of (c.bit 7 22 rfl rfl), (fun _ m => nomatch m)⟩), (List.forall_mem_cons.mpr ⟨PySem.W.codeHd_of_K X (c.bit 7 23 rfl rfl), (fun _ m => nomatch m)⟩), fun s v => .of_eq rfl, fun H a ns hl _ tt hS => ⟨a, ns, rfl, hS, hl, (List.forall_mem_cons.mpr ⟨LamX.TabS.nil (tt _ List.mem_cons_self), (fun _ m => nomatch m)⟩), fun _ => rfl⟩, fun base b1 b2 tb => ?_⟩
  have T : Txt l.prog w K mg AA := mkT c G
  have TB := tb _ List.mem_cons_self; exact ok_law T lk cd TB k0 k1
end
end Lw
open PySem PySem.W PyProof.Rows
set_option maxRecDepth 100000 in
set_option maxHeartbeats 0 in
theorem PySem.Challenge.cw_mingleway_k31_tries_counted_holds : PySem.Challenge.rw_mingleway_k31_tries_counted.Holds := by
  w_on; o_law
  refine HandSHeadRun.head_any (r := Hd.R) (q := view Hd.R.prog [94]) (H := Hd.hk) (ob := Hd.ob) (M := 60000) (loose := Hd.nms) (d := HandSHeadRun.topDef Hd.R.prog 94) (kwd := []) (fun s => Hk.ob_eq s) (by kernel_rfl) (fun s => by kernel_rfl) (byRow2 "special-get-raises" Hd.run0 Hd.run1) (by kernel_rfl) (by kernel_rfl) (by kernel_rfl) (by rfl) (by first | assumption | decide +kernel) (by decide +kernel) ⟨rfl, rfl, rfl, rfl, rfl, by decide +kernel⟩ ?hw ?hc
  case hw => w_witness2
  case hc =>
    refine LamX.walk_ofTsE (l := PySem.Challenge.rw_mingleway_k31_tries_counted) (n := 63) (k := 12) (x := "_law_script") (CX := fun w => L2N.CX PySem.Challenge.rw_mingleway_k31_tries_counted.prog w) rfl (by decide) (by kernel_rfl) ⟨rfl, by decide, by decide⟩ ?F (fun _ _ _ _ _ z => by
      obtain ⟨_, _, _, _, _, _, _, _, _, _, _, _, z⟩ := z
      exact z)
    intro w mg fa h Y G hmg
    obtain ⟨K, c⟩ := Y
    have hmg : mg ("law" : PySem.Str) = some (.ref fa) := by
      have e : (HandSHeadRun.topDef Hd.R.prog 94).name = ("law" : PySem.Str) := by kernel_rfl
      rw [← e]
      exact hmg
    exact ⟨K, c.ins, Lw.fin _ c G hmg⟩
end
