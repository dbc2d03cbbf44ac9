import PyProof.Rows.All
import Wide.All
import OpenK.AllK
import Wide.FinOn
import HandS.ForMost
import HandS.Words
import HandS.HeadHook2
import HandS.HeadHook3
import HandS.Head2
import KE.KSuper
import HandS.TupAny
import HandS.TupMul
import HandS.Conv
import HandS.IsInst
import HandS.AnyAll
import HandS.Defaults
import HandS.Property
import HandS.Star
import HandS.Style
import HandS.Walk
import HandS.MethStar
import HandS.MakeKwOnly
import HandS.ClsMeth
import HandS.Zip
import KE.KDictZip
import KE.GoesMore
import PyProof.EnumMake
import HandS.SlotsOwn
import OpenK.KMeth
import KE.KWithOwn
import KE.KUnpackStar
import HandS.Set
import HandS.Strs
import HandS.SetFor
import HandS.TupSets
import HandS.Nested
import HandS.HeadEnd
import PySem.Challenge.RW_shadeguards_k20_whole_no_shade_is_lost
set_option Elab.async false
set_option linter.all false
section T_MpA0
set_option autoImplicit true
set_option maxRecDepth 100000
set_option maxHeartbeats 4000000
namespace Mp
open PySem PySem.Spec PyProof.Rows L2
/-! ### data, the store -/
inductive D where
  | non | bl (b : Bool) | int (i : Int) | str (x : Str) | ty (n : String) | adr (a : Addr) | ref (i : Nat)
  | tup (xs : List D) | lst (xs : List D) | fro (xs : List D) | ins (C : Addr) (ks : List Str) (vs : List D)
inductive MO where
  | lst (xs : List D) | dic (ks : List Key) (vs : List D) | ins (C : Addr) (ks : List Str) (vs : List D)
abbrev Sto := List MO
abbrev Slo := List (Option D)
end Mp
end T_MpA0

section T_P00
set_option autoImplicit true
set_option maxRecDepth 100000
set_option maxHeartbeats 4000000
namespace Sg
open PySem L2 Mp
def top (i : Nat) : Stmt := PySem.Challenge.pw_shadeguards_k20_whole_no_shade_is_lost.main.body.getD i (.Pass ⟨0, 0, 0, 0⟩)
abbrev cls (i j : Nat) : Stmt := inClass (top i) j
end Sg
end T_P00

section T_Zd
set_option autoImplicit false
set_option maxRecDepth 100000
set_option maxHeartbeats 4000000
/-! facts of a part of the heap, by addresses -/
namespace Hd
open PySem L2 Mp Sg
abbrev Fg := PySem.W.Frag
def refB (r : Option (Option Value)) (a : Addr) : Bool := match r with
  | some (some (.ref b)) => Nat.beq b a
  | _ => false
def noB (r : Option (Option Value)) : Bool := match r with
  | some none => true
  | _ => false
def bltB (r : Option (Option Value)) (n : String) : Bool := match r with
  | some (some (.builtin b)) => decide (b = n)
  | _ => false
mutual
def conD (K : Fg) : D → Value → Bool
  | .non, .none => true
  | .bl b, .bool c => b == c
  | .int i, .int j _ => decide (i = j)
  | .str x, .str y _ => decide (x = y)
  | .adr a, .ref b => Nat.beq a b
  | .tup ds, .ref a => (match K.lookup a with
    | some ⟨.type c, _, .seq its _, _⟩ => decide (c = "tuple") && (decide (its.size ≤ sizeLine) && conDL K ds its.toList)
    | _ => false)
  | _, _ => false
def conDL (K : Fg) : List D → List Value → Bool
  | [], [] => true
  | d :: ds, u :: us => conD K d u && conDL K ds us
  | _, _ => false
end
inductive Fc where
  | glo (x : Str) (a : Addr)
  | free (x : Str)
  | val (x : Str) (d : D)
  | cls (C : Addr)
  | noat (C : Addr) (f : Str)
  | meth (C : Addr) (m : Str) (f : Addr)
  | mkr (C f : Addr)
  | prop (C : Addr) (m : Str) (p g : Addr)
  | con (C : Addr) (f : Str) (d : D)
  | raw (b : Fg → Bool)
/-- the same lookup, cheap to run -/
noncomputable def lookN (a : Addr) (K : Fg) : Option Obj := List.rec (motive := fun _ => Option Obj) none (fun p _ ih => Bool.rec (motive := fun _ => Option Obj) ih (some p.2) (Nat.beq a p.1)) K
noncomputable def codeB (K : Fg) (cd : Value) (q : Str) : Bool := match cd with
  | .ref c => (match lookN c K with
    | some ⟨_, _, .fields vs, _⟩ => (match vs.toList with
      | _ :: .str n _ :: _ => n == q
      | _ => false)
    | _ => false)
  | _ => false
noncomputable def fnTB (K : Fg) (f : Addr) : Bool := match lookN f K with
  | some ⟨.type c, _, .func _, _⟩ => decide (c = "function")
  | _ => false
noncomputable def propB (K : Fg) (p g : Addr) : Bool := match lookN p K with
  | some ⟨.type c, _, .fields vs, _⟩ => decide (c = "property") && (match vs.toList with
    | .ref b :: _ => Nat.beq b g
    | _ => false)
  | _ => false
noncomputable def Fc.ok (K : Fg) : Fc → Bool
  | .glo x a => refB (PySem.W.nsIn K mainGlobals x) a
  | .free x => noB (PySem.W.nsIn K mainGlobals x)
  | .val x d => (match PySem.W.nsIn K mainGlobals x with
    | some (some u) => conD K d u
    | _ => false)
  | .cls C => PySem.W.plainGet K C Str.empty && (PySem.W.hasDictIn K C && (PySem.W.plainOver K C && bltB (PySem.W.findIn K (.ref C) "__setattr__") "object.__setattr__"))
  | .noat C f => noB (PySem.W.findIn K (.ref C) f)
  | .meth C m f => refB (PySem.W.findIn K (.ref C) m) f && fnTB K f
  | .mkr C f => PySem.W.makesIn K C && (refB (PySem.W.findIn K (.ref C) "__init__") f && (fnTB K f && PySem.W.keepIn K (.ref C)))
  | .prop C m p g => refB (PySem.W.findIn K (.ref C) m) p && propB K p g
  | .con C f d => (match PySem.W.findIn K (.ref C) f with
    | some (some u) => conD K d u && noB (PySem.W.specialIn K u "__get__")
    | _ => false)
  | .raw b => b K
structure DefA where
  a : Addr
  name : Str
  qual : Str
  st : Stmt
  kwd : List (Str × V) := []
  clo : List (Str × Addr) := []
noncomputable def fnA (K : Fg) (a : Addr) : He.FnW := match lookN a K with
  | some ⟨_, _, .func fd, _⟩ => some (fd.name, fd.qualname, fd.params, fd.body, fd.scope, fd.globals, fd.closure, fd.builtins)
  | _ => none
def DefA.val (d : DefA) : He.FnW := some (d.name, d.qual, defArgs d.st, .stmts (defBody d.st), defScope d.st, mainGlobals, d.clo, builtinsNs)
noncomputable def DefA.ok (K : Fg) (d : DefA) : Bool := fnTB K d.a && (match lookN d.a K with
  | some ⟨_, _, .func fd, _⟩ => codeB K fd.code d.qual && (He.dflB K fd.defaults [] && He.kwdB K fd.kwdefaults d.kwd)
  | _ => false)
abbrev Al : Type := Bool × List He.FnW
noncomputable def obsA (fa : List Fc) (fn : List DefA) (K : Fg) : Al := ((fa.all fun f => f.ok K) && fn.all fun d => d.ok K, fn.map fun d => fnA K d.a)
def valA (fn : List DefA) : Al := (true, fn.map DefA.val)
def SaysA (fa : List Fc) (fn : List DefA) (K : Fg) : Prop := obsA fa fn K = valA fn
def intsB : List (Str × Int) → List DictEntry → Bool
  | [], [] => true
  | p :: t, e :: l => (match e.key with
    | .str x _ => x == p.1
    | _ => false) && ((match e.val with
    | .int j _ => decide (p.2 = j)
    | _ => false) && intsB t l)
  | _, _ => false
def rawInts (d : Addr) (t : List (Str × Int)) (K : Fg) : Bool := match K.lookup d with
  | some ⟨_, _, .dict es _, _⟩ => intsB t es.toList
  | _ => false
end Hd
end T_Zd

section T_Z1
set_option autoImplicit false
set_option maxRecDepth 100000
set_option maxHeartbeats 0
namespace Hd
open PySem L2 Mp Sg
noncomputable section
def tabS : List (Str × Int) := [("start", 1), ("load", 4), ("store", 4), ("move", 3), ("clear", 2), ("new", 2), ("look", 1), ("end", 1)]
def rawTable (K : Fg) : Bool := PySem.W.selfFirst K 665 && (PySem.W.readsIn K 665 (.type "type") && (bltB (PySem.W.specialIn K (.ref 665) "__getattribute__") "type.__getattribute__" && ((match PySem.W.findCls K (.ref 665) (.type "type") "empty" with
  | some (.get (.builtin b) (.ref p) .none (.ref c)) => decide (b = "classmethod.__get__") && (Nat.beq p 523 && Nat.beq c 665)
  | _ => false) && ((match PySem.W.recIn K 523 "classmethod" with
  | some (.ref g :: _) => Nat.beq g 521
  | _ => false) && fnTB K 521))))
def rawSuper (K : Fg) : Bool := (match K.lookup 1033 with
  | some ⟨_, _, .cell (some (.ref D)), _⟩ => Nat.beq D 1076
  | _ => false) && (refB (PySem.W.ks_superIn K 1076 1076 "why_scan") 881 && (decide (PySem.W.mroIn K 1076 (.ref 1076) = some true) && (match K.lookup 1044 with
  | some ⟨_, _, .fields vs, _⟩ => (match (vs[2]? : Option Value) with
    | some (.str f _) => decide (f = "/claim/cut.py")
    | _ => false)
  | _ => false) && (match K.lookup 1045 with
  | some ⟨_, _, .func fd, _⟩ => (match fd.code with
    | .ref c => Nat.beq c 1044
    | _ => false)
  | _ => false)))
def addrs0 : List Addr := [3, 2, 305, 304, 665, 664, 700, 699, 1025, 1024, 1076, 1075, 227, 226, 203, 202, 210, 209, 215, 214, 316, 315, 321, 320, 328, 327, 333, 332, 341, 340, 348, 347, 354, 353, 349, 361, 360, 368, 367, 375]
def addrs1 : List Addr := [374, 422, 421, 429, 428, 434, 433, 441, 440, 1085, 1084, 1092, 1091, 1097, 1096, 1104, 1103, 1111, 1110, 1118, 1117, 1123, 1122, 1135, 1134, 1142, 1141, 1149, 1148, 1156, 1155, 1163, 1162, 1170, 1169, 1175, 1174, 1182, 1181, 1187]
def addrs2 : List Addr := [1186, 1192, 1191, 1197, 1196, 1204, 1203, 1211, 1210, 1216, 1215, 1223, 1222, 1228, 1227, 241, 240, 248, 247, 255, 254, 262, 261, 269, 268, 276, 275, 283, 282, 290, 289, 295, 294, 683, 682, 690, 689, 697, 696, 513]
def addrs3 : List Addr := [512, 506, 521, 520, 514, 560, 559, 568, 567, 576, 575, 591, 590, 605, 604, 612, 611, 634, 633, 719, 718, 712, 736, 735, 767, 766, 775, 774, 799, 798, 807, 806, 829, 828, 845, 844, 869, 868, 874, 873]
def addrs4 : List Addr := [881, 880, 888, 887, 895, 894, 902, 901, 909, 908, 916, 915, 923, 922, 973, 972, 1045, 1044, 1052, 1051, 561, 569, 768, 776, 800, 808, 830, 846, 523, 334, 401, 402, 415, 403, 404, 405, 406, 407, 408, 409]
def addrs5 : List Addr := [410, 411, 412, 413, 414, 505, 1033]
def addrs : List Addr := addrs0 ++ (addrs1 ++ (addrs2 ++ (addrs3 ++ (addrs4 ++ (addrs5)))))
def fa0 : List Fc := [.glo "put" 227, .glo "is_between" 203, .glo "is_held" 210, .glo "is_heap" 215, .glo "first_moment" 316, .glo "greyed" 321, .glo "reach_from" 328, .glo "reachable" 333, .glo "is_index" 341, .glo "size_of" 348, .glo "is_step" 354, .glo "registers_named" 361, .glo "registers_held" 368, .glo "field_named" 375, .glo "is_color" 422, .glo "is_entry" 429, .glo "listed" 434, .glo "sorted_entries" 441, .glo "_law_pen" 1085, .glo "_law_draw" 1092, .glo "_law_rule" 1097, .glo "_law_book" 1104, .glo "_law_net" 1111, .glo "_law_holders" 1118, .glo "_law_model" 1123]
def fa1 : List Fc := [.glo "_law_shade" 1135, .glo "_law_stored" 1142, .glo "_law_scanned" 1149, .glo "_law_made" 1156, .glo "_law_do" 1163, .glo "_law_is_index" 1170, .glo "_law_is_act" 1175, .glo "_law_named" 1182, .glo "_law_why" 1187, .glo "_law_why_last" 1192, .glo "_law_scan_of" 1197, .glo "_law_act" 1204, .glo "_law_shades_right" 1211, .glo "_law_scan_right" 1216, .glo "_law_begun" 1223, .glo "law" 1228, .glo "reachable_reaching" 333, .glo "Moment" 305, .glo "Table" 665, .glo "Trial" 700, .glo "Cycle" 1025, .glo "FieldCycle" 1076, .glo "SIZES" 334, .free "isinstance", .free "len"]
def fa2 : List Fc := [.free "tuple", .free "list", .free "range", .free "all", .free "any", .free "int", .free "bool", .free "str", .free "abs", .free "min", .free "max", .free "sorted", .free "set", .free "zip", .free "enumerate", .free "super", .val "WHITE" (.str "white"), .val "GREY" (.str "grey"), .val "BLACK" (.str "black"), .val "READY" (.str "ready"), .val "MARKING" (.str "marking"), .val "ENDED" (.str "ended"), .val "WHOLE" (.str "whole"), .val "LEAST_WIDTH" (.int 1), .val "MOST_WIDTH" (.int 4)]
def fa3 : List Fc := [.val "MOST_OBJECTS" (.int 40), .val "COLORS" (.tup [.str "white", .str "grey", .str "black"]), .val "KINDS" (.tup [.str "load", .str "old", .str "new", .str "source"]), .val "ENTRIES" (.tup [.tup [.str "load", .str "white"], .tup [.str "load", .str "grey"], .tup [.str "load", .str "black"], .tup [.str "old", .str "white"], .tup [.str "old", .str "grey"], .tup [.str "old", .str "black"], .tup [.str "new", .str "white"], .tup [.str "new", .str "grey"], .tup [.str "new", .str "black"], .tup [.str "source", .str "white"], .tup [.str "source", .str "grey"], .tup [.str "source", .str "black"]]), .cls 305, .cls 665, .cls 700, .cls 1025, .cls 1076, .noat 305 "stage", .noat 305 "rows", .noat 305 "held", .noat 305 "paint", .noat 305 "seen", .noat 665 "kept", .noat 665 "kept_fresh", .noat 665 "kept_roots", .noat 700 "cycle", .noat 700 "story", .noat 700 "rule", .noat 1025 "wide", .noat 1025 "many", .noat 1025 "first", .noat 1025 "rule", .noat 1025 "story"]
def fa4 : List Fc := [.noat 1076 "wide", .noat 1076 "many", .noat 1076 "first", .noat 1076 "rule", .noat 1076 "story", .con 1025 "SCANNING" (.str "whole"), .con 1025 "MOST_OBJECTS" (.int 40), .con 1025 "MOST_REGISTERS" (.int 6), .con 1076 "SCANNING" (.str "fields"), .con 1076 "MOST_OBJECTS" (.int 40), .con 1076 "MOST_REGISTERS" (.int 6), .con 665 "ROOTS" (.tup [.str "once", .str "again"]), .mkr 305 241, .mkr 665 513, .mkr 700 683, .mkr 1025 719, .mkr 1076 719, .meth 305 "in_phase" 248, .meth 305 "shaded" 255, .meth 305 "reopened" 262, .meth 305 "holding" 269, .meth 305 "stored" 276, .meth 305 "grown" 283, .meth 305 "with_visited" 290, .meth 305 "registers_have" 295]
def fa5 : List Fc := [.meth 700 "__enter__" 690, .meth 700 "__exit__" 697, .prop 665 "fresh" 561 560, .prop 665 "roots" 569 568, .meth 665 "with_entries" 576, .meth 665 "is_beside" 591, .meth 665 "need_beside" 605, .meth 665 "__or__" 612, .meth 665 "__contains__" 634, .meth 1025 "now" 736, .prop 1025 "heap" 768 767, .prop 1025 "registers" 776 775, .prop 1025 "state" 800 799, .prop 1025 "phase" 808 807, .prop 1025 "old" 830 829, .prop 1025 "reachable" 846 845, .meth 1025 "why" 869, .meth 1025 "why_named" 874, .meth 1025 "why_scan" 881, .meth 1025 "why_last" 888, .meth 1025 "after" 895, .meth 1025 "after_load" 902, .meth 1025 "after_store" 909, .meth 1025 "after_scan" 916, .meth 1025 "step" 923]
def fa6 : List Fc := [.meth 1025 "trial" 973, .meth 1076 "now" 736, .prop 1076 "heap" 768 767, .prop 1076 "registers" 776 775, .prop 1076 "state" 800 799, .prop 1076 "phase" 808 807, .prop 1076 "old" 830 829, .prop 1076 "reachable" 846 845, .meth 1076 "why" 869, .meth 1076 "why_named" 874, .meth 1076 "why_scan" 1045, .meth 1076 "why_last" 888, .meth 1076 "after" 895, .meth 1076 "after_load" 902, .meth 1076 "after_store" 909, .meth 1076 "after_scan" 1052, .meth 1076 "step" 923, .meth 1076 "trial" 973, .raw rawTable, .raw rawSuper, .raw (rawInts 334 tabS)]
def fa : List Fc := fa0 ++ (fa1 ++ (fa2 ++ (fa3 ++ (fa4 ++ (fa5 ++ (fa6))))))
def fn0 : List DefA := [⟨227, "put", "put", top 29, [], []⟩, ⟨203, "is_between", "is_between", top 18, [], []⟩, ⟨210, "is_held", "is_held", top 19, [], []⟩, ⟨215, "is_heap", "is_heap", top 20, [], []⟩, ⟨316, "first_moment", "first_moment", top 31, [], []⟩, ⟨321, "greyed", "greyed", top 32, [], []⟩, ⟨328, "reach_from", "reach_from", top 34, [], []⟩, ⟨333, "reachable", "reachable", top 35, [], []⟩, ⟨341, "is_index", "is_index", top 40, [], []⟩, ⟨348, "size_of", "size_of", top 41, [], []⟩]
def fn1 : List DefA := [⟨354, "is_step", "is_step", top 42, [("scanning", .str "whole")], []⟩, ⟨361, "registers_named", "registers_named", top 43, [], []⟩, ⟨368, "registers_held", "registers_held", top 44, [], []⟩, ⟨375, "field_named", "field_named", top 45, [], []⟩, ⟨422, "is_color", "is_color", top 55, [], []⟩, ⟨429, "is_entry", "is_entry", top 56, [], []⟩, ⟨434, "listed", "listed", top 57, [], []⟩, ⟨441, "sorted_entries", "sorted_entries", top 58, [], []⟩, ⟨1085, "_law_pen", "_law_pen", top 77, [], []⟩, ⟨1092, "_law_draw", "_law_draw", top 78, [], []⟩]
def fn2 : List DefA := [⟨1097, "_law_rule", "_law_rule", top 79, [], []⟩, ⟨1104, "_law_book", "_law_book", top 80, [], []⟩, ⟨1111, "_law_net", "_law_net", top 81, [], []⟩, ⟨1118, "_law_holders", "_law_holders", top 82, [], []⟩, ⟨1123, "_law_model", "_law_model", top 83, [], []⟩, ⟨1135, "_law_shade", "_law_shade", top 85, [], []⟩, ⟨1142, "_law_stored", "_law_stored", top 86, [], []⟩, ⟨1149, "_law_scanned", "_law_scanned", top 87, [], []⟩, ⟨1156, "_law_made", "_law_made", top 88, [], []⟩, ⟨1163, "_law_do", "_law_do", top 89, [], []⟩]
def fn3 : List DefA := [⟨1170, "_law_is_index", "_law_is_index", top 90, [], []⟩, ⟨1175, "_law_is_act", "_law_is_act", top 91, [], []⟩, ⟨1182, "_law_named", "_law_named", top 92, [], []⟩, ⟨1187, "_law_why", "_law_why", top 93, [], []⟩, ⟨1192, "_law_why_last", "_law_why_last", top 94, [], []⟩, ⟨1197, "_law_scan_of", "_law_scan_of", top 95, [], []⟩, ⟨1204, "_law_act", "_law_act", top 96, [], []⟩, ⟨1211, "_law_shades_right", "_law_shades_right", top 97, [], []⟩, ⟨1216, "_law_scan_right", "_law_scan_right", top 98, [], []⟩, ⟨1223, "_law_begun", "_law_begun", top 99, [], []⟩]
def fn4 : List DefA := [⟨1228, "law", "law", top 100, [], []⟩, ⟨241, "__init__", "Moment.__init__", cls 30 0, [], []⟩, ⟨248, "in_phase", "Moment.in_phase", cls 30 1, [], []⟩, ⟨255, "shaded", "Moment.shaded", cls 30 2, [], []⟩, ⟨262, "reopened", "Moment.reopened", cls 30 3, [], []⟩, ⟨269, "holding", "Moment.holding", cls 30 4, [], []⟩, ⟨276, "stored", "Moment.stored", cls 30 5, [], []⟩, ⟨283, "grown", "Moment.grown", cls 30 6, [], []⟩, ⟨290, "with_visited", "Moment.with_visited", cls 30 7, [], []⟩, ⟨295, "registers_have", "Moment.registers_have", cls 30 8, [], []⟩]
def fn5 : List DefA := [⟨683, "__init__", "Trial.__init__", cls 72 0, [], []⟩, ⟨690, "__enter__", "Trial.__enter__", cls 72 1, [], []⟩, ⟨697, "__exit__", "Trial.__exit__", cls 72 2, [], []⟩, ⟨513, "__init__", "Table.__init__", cls 70 2, [("fresh", .str "black"), ("roots", .str "once")], []⟩, ⟨521, "empty", "Table.empty", cls 70 3, [("fresh", .str "black"), ("roots", .str "once")], []⟩, ⟨560, "fresh", "Table.fresh", cls 70 7, [], []⟩, ⟨568, "roots", "Table.roots", cls 70 8, [], []⟩, ⟨576, "with_entries", "Table.with_entries", cls 70 9, [], []⟩, ⟨591, "is_beside", "Table.is_beside", cls 70 11, [], []⟩, ⟨605, "need_beside", "Table.need_beside", cls 70 13, [], []⟩]
def fn6 : List DefA := [⟨612, "__or__", "Table.__or__", cls 70 14, [], []⟩, ⟨634, "__contains__", "Table.__contains__", cls 70 18, [], []⟩, ⟨719, "__init__", "Cycle.__init__", cls 73 3, [("table", .non)], []⟩, ⟨736, "now", "Cycle.now", cls 73 5, [], []⟩, ⟨767, "heap", "Cycle.heap", cls 73 9, [], []⟩, ⟨775, "registers", "Cycle.registers", cls 73 10, [], []⟩, ⟨799, "state", "Cycle.state", cls 73 13, [], []⟩, ⟨807, "phase", "Cycle.phase", cls 73 14, [], []⟩, ⟨829, "old", "Cycle.old", cls 73 17, [], []⟩, ⟨845, "reachable", "Cycle.reachable", cls 73 19, [], []⟩]
def fn7 : List DefA := [⟨869, "why", "Cycle.why", cls 73 22, [], []⟩, ⟨874, "why_named", "Cycle.why_named", cls 73 23, [], []⟩, ⟨881, "why_scan", "Cycle.why_scan", cls 73 24, [], []⟩, ⟨888, "why_last", "Cycle.why_last", cls 73 25, [], []⟩, ⟨895, "after", "Cycle.after", cls 73 26, [], []⟩, ⟨902, "after_load", "Cycle.after_load", cls 73 27, [], []⟩, ⟨909, "after_store", "Cycle.after_store", cls 73 28, [], []⟩, ⟨916, "after_scan", "Cycle.after_scan", cls 73 29, [], []⟩, ⟨923, "step", "Cycle.step", cls 73 30, [], []⟩, ⟨973, "trial", "Cycle.trial", cls 73 37, [], []⟩]
def fn8 : List DefA := [⟨1045, "why_scan", "FieldCycle.why_scan", cls 75 1, [], [("__class__", 1033)]⟩, ⟨1052, "after_scan", "FieldCycle.after_scan", cls 75 2, [], []⟩]
def fn : List DefA := fn0 ++ (fn1 ++ (fn2 ++ (fn3 ++ (fn4 ++ (fn5 ++ (fn6 ++ (fn7 ++ (fn8))))))))
def keysS : List Str := ["start", "load", "store", "move", "clear", "new", "look", "end"]
/-! places
fn 0 put
fn 1 is_between
fn 2 is_held
fn 3 is_heap
fn 4 first_moment
fn 5 greyed
fn 6 reach_from
fn 7 reachable
fn 8 is_index
fn 9 size_of
fn 10 is_step
fn 11 registers_named
fn 12 registers_held
fn 13 field_named
fn 14 is_color
fn 15 is_entry
fn 16 listed
fn 17 sorted_entries
fn 18 _law_pen
fn 19 _law_draw
fn 20 _law_rule
fn 21 _law_book
fn 22 _law_net
fn 23 _law_holders
fn 24 _law_model
fn 25 _law_shade
fn 26 _law_stored
fn 27 _law_scanned
fn 28 _law_made
fn 29 _law_do
fn 30 _law_is_index
fn 31 _law_is_act
fn 32 _law_named
fn 33 _law_why
fn 34 _law_why_last
fn 35 _law_scan_of
fn 36 _law_act
fn 37 _law_shades_right
fn 38 _law_scan_right
fn 39 _law_begun
fn 40 law
fn 41 Moment.__init__
fn 42 Moment.in_phase
fn 43 Moment.shaded
fn 44 Moment.reopened
fn 45 Moment.holding
fn 46 Moment.stored
fn 47 Moment.grown
fn 48 Moment.with_visited
fn 49 Moment.registers_have
fn 50 Trial.__init__
fn 51 Trial.__enter__
fn 52 Trial.__exit__
fn 53 Table.__init__
fn 54 Table.empty
fn 55 Table.fresh
fn 56 Table.roots
fn 57 Table.with_entries
fn 58 Table.is_beside
fn 59 Table.need_beside
fn 60 Table.__or__
fn 61 Table.__contains__
fn 62 Cycle.__init__
fn 63 Cycle.now
fn 64 Cycle.heap
fn 65 Cycle.registers
fn 66 Cycle.state
fn 67 Cycle.phase
fn 68 Cycle.old
fn 69 Cycle.reachable
fn 70 Cycle.why
fn 71 Cycle.why_named
fn 72 Cycle.why_scan
fn 73 Cycle.why_last
fn 74 Cycle.after
fn 75 Cycle.after_load
fn 76 Cycle.after_store
fn 77 Cycle.after_scan
fn 78 Cycle.step
fn 79 Cycle.trial
fn 80 FieldCycle.why_scan
fn 81 FieldCycle.after_scan
fa 0 .glo "put" 227
fa 1 .glo "is_between" 203
fa 2 .glo "is_held" 210
fa 3 .glo "is_heap" 215
fa 4 .glo "first_moment" 316
fa 5 .glo "greyed" 321
fa 6 .glo "reach_from" 328
fa 7 .glo "reachable" 333
fa 8 .glo "is_index" 341
fa 9 .glo "size_of" 348
fa 10 .glo "is_step" 354
fa 11 .glo "registers_named" 361
fa 12 .glo "registers_held" 368
fa 13 .glo "field_named" 375
fa 14 .glo "is_color" 422
fa 15 .glo "is_entry" 429
fa 16 .glo "listed" 434
fa 17 .glo "sorted_entries" 441
fa 18 .glo "_law_pen" 1085
fa 19 .glo "_law_draw" 1092
fa 20 .glo "_law_rule" 1097
fa 21 .glo "_law_book" 1104
fa 22 .glo "_law_net" 1111
fa 23 .glo "_law_holders" 1118
fa 24 .glo "_law_model" 1123
fa 25 .glo "_law_shade" 1135
fa 26 .glo "_law_stored" 1142
fa 27 .glo "_law_scanned" 1149
fa 28 .glo "_law_made" 1156
fa 29 .glo "_law_do" 1163
fa 30 .glo "_law_is_index" 1170
fa 31 .glo "_law_is_act" 1175
fa 32 .glo "_law_named" 1182
fa 33 .glo "_law_why" 1187
fa 34 .glo "_law_why_last" 1192
fa 35 .glo "_law_scan_of" 1197
fa 36 .glo "_law_act" 1204
fa 37 .glo "_law_shades_right" 1211
fa 38 .glo "_law_scan_right" 1216
fa 39 .glo "_law_begun" 1223
fa 40 .glo "law" 1228
fa 41 .glo "reachable_reaching" 333
fa 42 .glo "Moment" 305
fa 43 .glo "Table" 665
fa 44 .glo "Trial" 700
fa 45 .glo "Cycle" 1025
fa 46 .glo "FieldCycle" 1076
fa 47 .glo "SIZES" 334
fa 48 .free "isinstance"
fa 49 .free "len"
fa 50 .free "tuple"
fa 51 .free "list"
fa 52 .free "range"
fa 53 .free "all"
fa 54 .free "any"
fa 55 .free "int"
fa 56 .free "bool"
fa 57 .free "str"
fa 58 .free "abs"
fa 59 .free "min"
fa 60 .free "max"
fa 61 .free "sorted"
fa 62 .free "set"
fa 63 .free "zip"
fa 64 .free "enumerate"
fa 65 .free "super"
fa 66 .val "WHITE" (.str "white")
fa 67 .val "GREY" (.str "grey")
fa 68 .val "BLACK" (.str "black")
fa 69 .val "READY" (.str "ready")
fa 70 .val "MARKING" (.str "marking")
fa 71 .val "ENDED" (.str "ended")
fa 72 .val "WHOLE" (.str "whole")
fa 73 .val "LEAST_WIDTH" (.int 1)
fa 74 .val "MOST_WIDTH" (.int 4)
fa 75 .val "MOST_OBJECTS" (.int 40)
fa 76 .val "COLORS" (.tup [.str "white", .str "grey", .str "black"])
fa 77 .val "KINDS" (.tup [.str "load", .str "old", .str "new", .str "source"])
fa 78 .val "ENTRIES" (.tup [.tup [.str "load", .str "white"], .tup [.str "load", .str "grey"], .tup [.str "load", .str "black"], .tup [.str "old", .str "white"], .tup [.str "old", .str "grey"], .tup [.str "old", .str "black"], .tup [.str "new", .str "white"], .tup [.str "new", .str "grey"], .tup [.str "new", .str "black"], .tup [.str "source", .str "white"], .tup [.str "source", .str "grey"], .tup [.str "source", .str "black"]])
fa 79 .cls 305
fa 80 .cls 665
fa 81 .cls 700
fa 82 .cls 1025
fa 83 .cls 1076
fa 84 .noat 305 "stage"
fa 85 .noat 305 "rows"
fa 86 .noat 305 "held"
fa 87 .noat 305 "paint"
fa 88 .noat 305 "seen"
fa 89 .noat 665 "kept"
fa 90 .noat 665 "kept_fresh"
fa 91 .noat 665 "kept_roots"
fa 92 .noat 700 "cycle"
fa 93 .noat 700 "story"
fa 94 .noat 700 "rule"
fa 95 .noat 1025 "wide"
fa 96 .noat 1025 "many"
fa 97 .noat 1025 "first"
fa 98 .noat 1025 "rule"
fa 99 .noat 1025 "story"
fa 100 .noat 1076 "wide"
fa 101 .noat 1076 "many"
fa 102 .noat 1076 "first"
fa 103 .noat 1076 "rule"
fa 104 .noat 1076 "story"
fa 105 .con 1025 "SCANNING" (.str "whole")
fa 106 .con 1025 "MOST_OBJECTS" (.int 40)
fa 107 .con 1025 "MOST_REGISTERS" (.int 6)
fa 108 .con 1076 "SCANNING" (.str "fields")
fa 109 .con 1076 "MOST_OBJECTS" (.int 40)
fa 110 .con 1076 "MOST_REGISTERS" (.int 6)
fa 111 .con 665 "ROOTS" (.tup [.str "once", .str "again"])
fa 112 .mkr 305 241
fa 113 .mkr 665 513
fa 114 .mkr 700 683
fa 115 .mkr 1025 719
fa 116 .mkr 1076 719
fa 117 .meth 305 "in_phase" 248
fa 118 .meth 305 "shaded" 255
fa 119 .meth 305 "reopened" 262
fa 120 .meth 305 "holding" 269
fa 121 .meth 305 "stored" 276
fa 122 .meth 305 "grown" 283
fa 123 .meth 305 "with_visited" 290
fa 124 .meth 305 "registers_have" 295
fa 125 .meth 700 "__enter__" 690
fa 126 .meth 700 "__exit__" 697
fa 127 .prop 665 "fresh" 561 560
fa 128 .prop 665 "roots" 569 568
fa 129 .meth 665 "with_entries" 576
fa 130 .meth 665 "is_beside" 591
fa 131 .meth 665 "need_beside" 605
fa 132 .meth 665 "__or__" 612
fa 133 .meth 665 "__contains__" 634
fa 134 .meth 1025 "now" 736
fa 135 .prop 1025 "heap" 768 767
fa 136 .prop 1025 "registers" 776 775
fa 137 .prop 1025 "state" 800 799
fa 138 .prop 1025 "phase" 808 807
fa 139 .prop 1025 "old" 830 829
fa 140 .prop 1025 "reachable" 846 845
fa 141 .meth 1025 "why" 869
fa 142 .meth 1025 "why_named" 874
fa 143 .meth 1025 "why_scan" 881
fa 144 .meth 1025 "why_last" 888
fa 145 .meth 1025 "after" 895
fa 146 .meth 1025 "after_load" 902
fa 147 .meth 1025 "after_store" 909
fa 148 .meth 1025 "after_scan" 916
fa 149 .meth 1025 "step" 923
fa 150 .meth 1025 "trial" 973
fa 151 .meth 1076 "now" 736
fa 152 .prop 1076 "heap" 768 767
fa 153 .prop 1076 "registers" 776 775
fa 154 .prop 1076 "state" 800 799
fa 155 .prop 1076 "phase" 808 807
fa 156 .prop 1076 "old" 830 829
fa 157 .prop 1076 "reachable" 846 845
fa 158 .meth 1076 "why" 869
fa 159 .meth 1076 "why_named" 874
fa 160 .meth 1076 "why_scan" 1045
fa 161 .meth 1076 "why_last" 888
fa 162 .meth 1076 "after" 895
fa 163 .meth 1076 "after_load" 902
fa 164 .meth 1076 "after_store" 909
fa 165 .meth 1076 "after_scan" 1052
fa 166 .meth 1076 "step" 923
fa 167 .meth 1076 "trial" 973
fa 168 .raw rawTable
fa 169 .raw rawSuper
fa 170 .raw (rawInts 334 tabS)
-/
abbrev R : PySem.W.OpenRow := PySem.W.OpenLaw.row PySem.Challenge.rw_shadeguards_k20_whole_no_shade_is_lost
abbrev qv : Program := PySem.W.view R.prog [100]
def loose0 : List Str := ["_wall", "ShadeError", "InvalidEntry", "InvalidFresh", "InvalidRoots", "InvalidHeap", "InvalidRegisters", "InvalidState", "InvalidStep", "ParseError", "Started", "Mismatch", "LEAST_WIDTH", "MOST_WIDTH", "MOST_OBJECTS"]
def loose1 : List Str := ["MOST_REGISTERS", "is_between", "is_held", "is_heap", "is_registers", "WHITE", "GREY", "BLACK", "READY", "MARKING", "ENDED", "put", "Moment", "first_moment", "greyed"]
def loose2 : List Str := ["reach_from", "reachable", "reachable_reaching", "SIZES", "WHOLE", "is_index", "size_of", "is_step", "registers_named", "registers_held", "field_named", "are_fields", "is_color_with", "is_state", "moment_of"]
def loose3 : List Str := ["COLORS", "KINDS", "ENTRIES", "is_color", "is_entry", "listed", "sorted_entries", "entry_rank", "ROOTS", "entry_text", "parts_text", "entry_in", "entries_in", "parts_in", "one_line"]
def loose4 : List Str := ["need_one_line", "Table", "Trial", "Cycle", "FieldCycle", "_law_pen", "_law_draw", "_law_rule", "_law_book", "_law_net", "_law_holders", "_law_model", "_law_shot", "_law_shade", "_law_stored"]
def loose5 : List Str := ["_law_scanned", "_law_made", "_law_do", "_law_is_index", "_law_is_act", "_law_named", "_law_why", "_law_why_last", "_law_scan_of", "_law_act", "_law_shades_right", "_law_scan_right", "_law_begun"]
def loose : List Str := loose0 ++ (loose1 ++ (loose2 ++ (loose3 ++ (loose4 ++ (loose5)))))
abbrev Al2 : Type := Al × Option (List (Option (Str × Int)))
def obs2 (K : Fg) : Al2 := (obsA fa fn K, He.dicW K 334)
def val2 (w : World) : Al2 := (valA fn, some (He.keysIn w.params keysS))
def hk : PySem.W.Hook where
  α := Al2
  obs := fun s => obs2 (He.frG s.heap.get? addrs)
  val := val2
  says := fun w h => ∃ K : Fg, K.In h ∧ obs2 K = val2 w
  of := fun _ _ e => ⟨_, He.frG_in, e⟩
  keeps := fun _ _ _ ⟨K, hK, c⟩ k => ⟨K, PySem.W.Frag.In.keeps hK k, c⟩
def ob (s : PySem.W.SharedT) : Al2 := obs2 (He.frG (HandSHeadRun.getT s) addrs)
theorem ob_eq (s : PySem.W.SharedT) : ob s = hk.obs s.abs := by
  have e : HandSHeadRun.getT s = s.abs.heap.get? := funext (HandSHeadRun.getT_eq s)
  show obs2 (He.frG (HandSHeadRun.getT s) addrs) = _
  rw [e]
  rfl
end
end Hd
end T_Z1

section T_Z2
set_option autoImplicit false
set_option maxRecDepth 100000
set_option maxHeartbeats 0
namespace Hd
open PySem L2 Mp Sg
theorem runF (w : World) : HandSHeadRun.RunEq R qv hk ob 12000 loose (w.withFollow "special-get-raises" false) := by
  intro os
  kernel_rfl
theorem runT (w : World) : HandSHeadRun.RunEq R qv hk ob 12000 loose (w.withFollow "special-get-raises" true) := by
  intro os
  kernel_rfl
theorem run (w : World) : HandSHeadRun.RunEq R qv hk ob 12000 loose w := PySem.W.byRow2 "special-get-raises" (P := fun w => HandSHeadRun.RunEq R qv hk ob 12000 loose w) runF runT w
end Hd
end T_Z2

section T_MpA
set_option autoImplicit true
set_option maxRecDepth 100000
set_option maxHeartbeats 4000000
namespace Mp
open PySem PySem.Spec PyProof.Rows L2

def WrL (K : PySem.W.Frag) (a : Addr) (xs : List V) : Prop :=
  ∃ (o : Obj) (its : Array Value) (n : Nat), K.lookup a = some o ∧ o.cls = .type "list" ∧ o.dict = none ∧ o.data = .seq its n ∧ its.size ≤ sizeLine ∧ Vals xs its.toList
def WrT (K : PySem.W.Frag) (a : Addr) (xs : List V) : Prop :=
  ∃ (o : Obj) (its : Array Value) (n : Nat), K.lookup a = some o ∧ o.cls = .type "tuple" ∧ o.data = .seq its n ∧ its.size ≤ sizeLine ∧ Vals xs its.toList
mutual
def Da (K : PySem.W.Frag) (α : List Addr) (H : Hp) : D → V → Prop
  | .non, v => v = .non
  | .bl b, v => v = .bl b
  | .int i, v => v = .int i
  | .str x, v => v = .str x
  | .ty n, v => v = .ty n
  | .adr a, v => v = .ref a
  | .ref i, v => ∃ a, α[i]? = some a ∧ v = .ref a
  | .tup ds, v => ∃ a xs, v = .ref a ∧ ((Rd H a (.tup xs) ∧ a ∉ α) ∨ WrT K a xs) ∧ DaL K α H ds xs
  | .lst ds, v => ∃ a xs, v = .ref a ∧ a ∉ α ∧ H a = some (.lst xs) ∧ DaL K α H ds xs
  | .fro ds, v => ∃ a xs, v = .ref a ∧ ((Rd H a (.lst xs) ∧ a ∉ α) ∨ WrL K a xs) ∧ DaL K α H ds xs
  | .ins C ks ds, v => ∃ a dx fs, v = .ref a ∧ a ∉ α ∧ H a = some (.ins C dx fs) ∧ fs.map (·.1) = ks ∧ DaL K α H ds (fs.map (·.2))
def DaL (K : PySem.W.Frag) (α : List Addr) (H : Hp) : List D → List V → Prop
  | [], xs => xs = []
  | d :: ds, xs => ∃ x r, xs = x :: r ∧ Da K α H d x ∧ DaL K α H ds r
end
def Cel (K : PySem.W.Frag) (α : List Addr) (H : Hp) (a : Addr) : MO → Prop
  | .lst ds => ∃ xs, H a = some (.lst xs) ∧ DaL K α H ds xs
  | .dic ks ds => ∃ kvs : List (Key × V), H a = some (.dK kvs) ∧ kvs.map (·.1) = ks ∧ DaL K α H ds (kvs.map (·.2))
  | .ins C ks ds => ∃ dx fs, H a = some (.ins C dx fs) ∧ fs.map (·.1) = ks ∧ DaL K α H ds (fs.map (·.2))
structure Sok (K : PySem.W.Frag) (α : List Addr) (s : Sto) (H : Hp) : Prop where
  len : α.length = s.length
  nd : α.Nodup
  cel : ∀ (i : Nat) (a : Addr) (m : MO), α[i]? = some a → s[i]? = some m → Cel K α H a m
structure Re (K : PySem.W.Frag) (α : List Addr) (H : Hp) (σ : L2.St) (ρ : Slo) : Prop where
  len : σ.length = ρ.length
  at_ : ∀ (i : Nat) (d : D), ρ[i]? = some (some d) → ∃ v, σ[i]? = some (some v) ∧ Da K α H d v
def Kp (α : List Addr) (H H1 : Hp) : Prop := ∀ b o, H b = some o → b ∉ α → H1 b = some o
structure Wl (K : PySem.W.Frag) (α : List Addr) (H : Hp) (γ : List Addr) (s' : Sto) (H1 : Hp) : Prop where
  kp : Kp α H H1
  fr : ∀ a ∈ γ, H a = none
  ok : Sok K (α ++ γ) s' H1

section
variable {K : PySem.W.Frag} {α γ δ : List Addr} {s s1 s2 : Sto} {H H1 H2 : Hp} {σ : L2.St} {ρ : Slo}
theorem Kp.refl : Kp α H H := fun _ _ h _ => h
theorem rd_kp {a : Addr} {u : HO} (k : Kp α H H1) (h : a ∉ α) (r : Rd H a u) : Rd H1 a u := by
  rcases r with r | ⟨o, r⟩
  · exact .inl (k _ _ r h)
  · exact .inr ⟨o, k _ _ r h⟩
theorem rd_some {a : Addr} {u : HO} (r : Rd H a u) : H a ≠ none := by
  rcases r with r | ⟨o, r⟩ <;> rw [r] <;> intro z <;> cases z
mutual
/-- from α, H to α', H1 -/
theorem Da.move {α' : List Addr} (hi : ∀ (i : Nat) (a : Addr), α[i]? = some a → α'[i]? = some a) (hk : ∀ a o, H a = some o → a ∉ α → H1 a = some o ∧ a ∉ α') : ∀ (d : D) (v : V), Da K α H d v → Da K α' H1 d v
  | .non, _, h => h
  | .bl _, _, h => h
  | .int _, _, h => h
  | .str _, _, h => h
  | .ty _, _, h => h
  | .adr _, _, h => h
  | .ref _, _, h => by
    obtain ⟨a, e, q⟩ := h
    exact ⟨a, hi _ _ e, q⟩
  | .tup ds, _, h => by
    obtain ⟨a, xs, e, q, l⟩ := h
    refine ⟨a, xs, e, ?_, DaL.move hi hk ds xs l⟩
    rcases q with ⟨r, n⟩ | q
    · rcases r with r | ⟨o, r⟩
      · exact .inl ⟨.inl (hk _ _ r n).1, (hk _ _ r n).2⟩
      · exact .inl ⟨.inr ⟨o, (hk _ _ r n).1⟩, (hk _ _ r n).2⟩
    · exact .inr q
  | .lst ds, _, h => by
    obtain ⟨a, xs, e, n, q, l⟩ := h
    exact ⟨a, xs, e, (hk _ _ q n).2, (hk _ _ q n).1, DaL.move hi hk ds xs l⟩
  | .fro ds, _, h => by
    obtain ⟨a, xs, e, q, l⟩ := h
    refine ⟨a, xs, e, ?_, DaL.move hi hk ds xs l⟩
    rcases q with ⟨r, n⟩ | q
    · rcases r with r | ⟨o, r⟩
      · exact .inl ⟨.inl (hk _ _ r n).1, (hk _ _ r n).2⟩
      · exact .inl ⟨.inr ⟨o, (hk _ _ r n).1⟩, (hk _ _ r n).2⟩
    · exact .inr q
  | .ins C ks ds, _, h => by
    obtain ⟨a, dx, fs, e, n, q, ek, l⟩ := h
    exact ⟨a, dx, fs, e, (hk _ _ q n).2, (hk _ _ q n).1, ek, DaL.move hi hk ds _ l⟩
theorem DaL.move {α' : List Addr} (hi : ∀ (i : Nat) (a : Addr), α[i]? = some a → α'[i]? = some a) (hk : ∀ a o, H a = some o → a ∉ α → H1 a = some o ∧ a ∉ α') : ∀ (ds : List D) (xs : List V), DaL K α H ds xs → DaL K α' H1 ds xs
  | [], _, h => h
  | d :: ds, _, h => by
    obtain ⟨x, r, e, q, l⟩ := h
    exact ⟨x, r, e, Da.move hi hk d x q, DaL.move hi hk ds r l⟩
end
theorem get_app {l : List Addr} {i : Nat} {a : Addr} (h : l[i]? = some a) : (l ++ γ)[i]? = some a := by
  rw [List.getElem?_append_left (List.getElem?_eq_some_iff.mp h).1]
  exact h
theorem Da.step (k : Kp α H H1) (f : ∀ a ∈ γ, H a = none) {d : D} {v : V} (h : Da K α H d v) : Da K (α ++ γ) H1 d v :=
  Da.move (fun _ _ e => get_app e) (fun a o e n => ⟨k a o e n, fun z => by
    rcases List.mem_append.mp z with z | z
    · exact n z
    · have q := f a z
      rw [e] at q
      cases q⟩) d v h
theorem DaL.step (k : Kp α H H1) (f : ∀ a ∈ γ, H a = none) {d : List D} {v : List V} (h : DaL K α H d v) : DaL K (α ++ γ) H1 d v :=
  DaL.move (fun _ _ e => get_app e) (fun a o e n => ⟨k a o e n, fun z => by
    rcases List.mem_append.mp z with z | z
    · exact n z
    · have q := f a z
      rw [e] at q
      cases q⟩) d v h
theorem Da.kp (k : Kp α H H1) {d : D} {v : V} (h : Da K α H d v) : Da K α H1 d v :=
  Da.move (fun _ _ e => e) (fun a o e n => ⟨k a o e n, n⟩) d v h
theorem DaL.kp (k : Kp α H H1) {d : List D} {v : List V} (h : DaL K α H d v) : DaL K α H1 d v :=
  DaL.move (fun _ _ e => e) (fun a o e n => ⟨k a o e n, n⟩) d v h
theorem Wl.da (w : Wl K α H γ s1 H1) {d : D} {v : V} (h : Da K α H d v) : Da K (α ++ γ) H1 d v := h.step w.kp w.fr
theorem Wl.dal (w : Wl K α H γ s1 H1) {d : List D} {v : List V} (h : DaL K α H d v) : DaL K (α ++ γ) H1 d v := h.step w.kp w.fr
theorem Wl.re (w : Wl K α H γ s1 H1) (r : Re K α H σ ρ) : Re K (α ++ γ) H1 σ ρ :=
  ⟨r.len, fun i d e => let ⟨v, h, q⟩ := r.at_ i d e; ⟨v, h, w.da q⟩⟩
theorem Sok.there (h : Sok K α s H) {a : Addr} (ha : a ∈ α) : H a ≠ none := by
  obtain ⟨i, hi, e⟩ := List.mem_iff_getElem.mp ha
  have hm : i < s.length := by rw [← h.len]; exact hi
  have c := h.cel i a s[i] (by rw [List.getElem?_eq_getElem hi, e]) (List.getElem?_eq_getElem hm)
  cases hs : s[i] with
  | lst ds => rw [hs] at c; obtain ⟨_, q, _⟩ := c; rw [q]; intro z; cases z
  | dic ks ds => rw [hs] at c; obtain ⟨_, q, _⟩ := c; rw [q]; intro z; cases z
  | ins C ks ds => rw [hs] at c; obtain ⟨_, _, q, _⟩ := c; rw [q]; intro z; cases z
theorem Wl.refl (h : Sok K α s H) : Wl K α H [] s H := ⟨Kp.refl, (fun _ h => nomatch h), by rw [List.append_nil]; exact h⟩
theorem Wl.trans (h0 : Sok K α s H) (a : Wl K α H γ s1 H1) (b : Wl K (α ++ γ) H1 δ s2 H2) : Wl K α H (γ ++ δ) s2 H2 where
  kp := fun c o e n => b.kp c o (a.kp c o e n) fun z => by
    rcases List.mem_append.mp z with z | z
    · exact n z
    · have q := a.fr c z
      rw [e] at q
      cases q
  fr := fun c hc => by
    rcases List.mem_append.mp hc with z | z
    · exact a.fr c z
    · cases e : H c with
      | none => rfl
      | some o =>
        have q := b.fr c z
        by_cases n : c ∈ α
        · exact absurd q (a.ok.there (List.mem_append_left _ n))
        · rw [a.kp c o e n] at q
          cases q
  ok := by rw [← List.append_assoc]; exact b.ok
/-- the heap has grown, the store stands -/
theorem Sok.grow (h : Sok K α s H) (k : ∀ b o, H b = some o → H1 b = some o) : Sok K α s H1 :=
  ⟨h.len, h.nd, fun i a m e q => by
    have c := h.cel i a m e q
    have kp : Kp α H H1 := fun b o e _ => k b o e
    cases m with
    | lst ds => obtain ⟨xs, e, l⟩ := c; exact ⟨xs, k _ _ e, l.kp kp⟩
    | dic ks ds => obtain ⟨xs, e, ek, l⟩ := c; exact ⟨xs, k _ _ e, ek, l.kp kp⟩
    | ins C ks ds => obtain ⟨dx, xs, e, ek, l⟩ := c; exact ⟨dx, xs, k _ _ e, ek, l.kp kp⟩⟩
theorem Wl.grow (h : Sok K α s H) (k : ∀ b o, H b = some o → H1 b = some o) : Wl K α H [] s H1 :=
  ⟨fun b o e _ => k b o e, (fun _ h => nomatch h), by rw [List.append_nil]; exact h.grow k⟩
theorem Wl.new (h : Sok K α s H) {p : Addr} {o : HO} (hp : H p = none) : Wl K α H [] s (upd H p o) :=
  Wl.grow h fun b u e => by rw [upd_ne (ne_of_none e hp)]; exact e
theorem Sok.free (h : Sok K α s H) {p : Addr} (hp : H p = none) : p ∉ α := fun z => h.there z hp
theorem da_nil {d : D} {v : V} (h : Da K α H d v) : Da K (α ++ []) H d v := by rw [List.append_nil]; exact h
theorem dal_nil {d : List D} {v : List V} (h : DaL K α H d v) : DaL K (α ++ []) H d v := by rw [List.append_nil]; exact h
/-- a new tuple, list -/
theorem da_tup (h : Sok K α s H) {p : Addr} {ds : List D} {xs : List V} (hp : H p = none) (l : DaL K α H ds xs) : Da K (α ++ []) (upd H p (.tup xs)) (.tup ds) (.ref p) := by
  rw [List.append_nil]
  exact ⟨p, xs, rfl, .inl ⟨.inl upd_same, h.free hp⟩, l.kp fun b u e _ => by rw [upd_ne (ne_of_none e hp)]; exact e⟩
theorem da_lst (h : Sok K α s H) {p : Addr} {ds : List D} {xs : List V} (hp : H p = none) (l : DaL K α H ds xs) : Da K (α ++ []) (upd H p (.lst xs)) (.lst ds) (.ref p) := by
  rw [List.append_nil]
  exact ⟨p, xs, rfl, h.free hp, upd_same, l.kp fun b u e _ => by rw [upd_ne (ne_of_none e hp)]; exact e⟩
theorem tupAt {a : Addr} {xs : List V} (h : (Rd H a (.tup xs) ∧ a ∉ α) ∨ WrT K a xs) : SqT K H a xs := by
  rcases h with h | h
  · exact .inl h.1
  · exact .inr h
theorem lstAt {a : Addr} {xs : List V} (h : (Rd H a (.lst xs) ∧ a ∉ α) ∨ WrL K a xs) : SqL K H a xs := by
  rcases h with h | h
  · exact .inl h.1
  · exact .inr h
theorem DaL.length : ∀ {ds : List D} {xs : List V}, DaL K α H ds xs → ds.length = xs.length
  | [], _, h => by cases h; rfl
  | d :: ds, _, h => by
    obtain ⟨x, r, e, q, l⟩ := h
    subst e
    show ds.length + 1 = r.length + 1
    rw [DaL.length l]
theorem DaL.get : ∀ {ds : List D} {xs : List V} {i : Nat} {d : D}, DaL K α H ds xs → ds[i]? = some d → ∃ x, xs[i]? = some x ∧ Da K α H d x
  | [], _, _, _, _, e => by cases e
  | d :: ds, _, 0, _, h, e => by
    obtain ⟨x, r, e', q, l⟩ := h
    subst e'
    cases e
    exact ⟨x, rfl, q⟩
  | d :: ds, _, i + 1, _, h, e => by
    obtain ⟨x, r, e', q, l⟩ := h
    subst e'
    obtain ⟨y, h1, h2⟩ := DaL.get (i := i) l (by simpa using e)
    exact ⟨y, by simpa using h1, h2⟩
theorem DaL.append : ∀ {ds es : List D} {xs ys : List V}, DaL K α H ds xs → DaL K α H es ys → DaL K α H (ds ++ es) (xs ++ ys)
  | [], _, _, _, h, k => by cases h; exact k
  | d :: ds, _, _, _, h, k => by
    obtain ⟨x, r, e, q, l⟩ := h
    subst e
    exact ⟨x, r ++ _, rfl, q, DaL.append l k⟩
theorem DaL.take : ∀ {ds : List D} {xs : List V} (n : Nat), DaL K α H ds xs → DaL K α H (ds.take n) (xs.take n)
  | _, _, 0, _ => rfl
  | [], _, n + 1, h => by cases h; rfl
  | d :: ds, _, n + 1, h => by
    obtain ⟨x, r, e, q, l⟩ := h
    subst e
    exact ⟨x, r.take n, rfl, q, DaL.take n l⟩
theorem DaL.drop : ∀ {ds : List D} {xs : List V} (n : Nat), DaL K α H ds xs → DaL K α H (ds.drop n) (xs.drop n)
  | _, _, 0, h => h
  | [], _, n + 1, h => by cases h; rfl
  | d :: ds, _, n + 1, h => by
    obtain ⟨x, r, e, q, l⟩ := h
    subst e
    exact DaL.drop n l
theorem DaL.one {d : D} {x : V} (h : Da K α H d x) : DaL K α H [d] [x] := ⟨x, [], rfl, h, rfl⟩
theorem DaL.set : ∀ {ds : List D} {xs : List V} {d : D} {x : V} (i : Nat), DaL K α H ds xs → Da K α H d x → DaL K α H (ds.set i d) (xs.set i x)
  | [], _, _, _, _, h, _ => by cases h; exact rfl
  | d :: ds, _, _, _, 0, h, k => by
    obtain ⟨x, r, e, q, l⟩ := h
    subst e
    exact ⟨_, r, rfl, k, l⟩
  | d :: ds, _, _, _, i + 1, h, k => by
    obtain ⟨x, r, e, q, l⟩ := h
    subst e
    exact ⟨x, _, rfl, q, DaL.set i l k⟩
theorem Re.set (r : Re K α H σ ρ) {d : D} {v : V} (i : Nat) (h : Da K α H d v) : Re K α H (σ.set i (some v)) (ρ.set i (some d)) := by
  refine ⟨by rw [List.length_set, List.length_set, r.len], fun j e hj => ?_⟩
  rw [List.getElem?_set] at hj
  by_cases hij : i = j
  · subst hij
    rw [if_pos rfl] at hj
    by_cases hl : i < ρ.length
    · rw [if_pos hl] at hj
      cases hj
      exact ⟨v, by rw [List.getElem?_set, if_pos rfl, if_pos (by rw [r.len]; exact hl)], h⟩
    · rw [if_neg hl] at hj
      cases hj
  · rw [if_neg hij] at hj
    obtain ⟨x, h1, h2⟩ := r.at_ j e hj
    exact ⟨x, by rw [List.getElem?_set, if_neg hij]; exact h1, h2⟩
end

/-! ### judgements -/
/-- a reading that is not unfolded -/
structure Op (p : Prop) : Prop where
  go : p
structure En where
  nx : Slo → Sto → Prop
  rt : D → Sto → Prop
  bk : Slo → Sto → Prop := fun _ _ => False
  ct : Slo → Sto → Prop := fun _ _ => False
/-- what is wanted of a value, told of slots and store | of the machine -/
def K1 (K : PySem.W.Frag) (α : List Addr) (H : Hp) (Φ : D → Sto → Prop) (Q : VK) : Prop :=
  ∀ (γ : List Addr) (s' : Sto) (d : D) (v : V) (H1 : Hp), Wl K α H γ s' H1 → Da K (α ++ γ) H1 d v → Φ d s' → Q v H1
def KB (K : PySem.W.Frag) (α : List Addr) (H : Hp) (Φ : Bool → Sto → Prop) (Q : Bool → Hp → Prop) : Prop :=
  ∀ (γ : List Addr) (s' : Sto) (b : Bool) (H1 : Hp), Wl K α H γ s' H1 → Φ b s' → Q b H1
def KA (K : PySem.W.Frag) (α : List Addr) (H : Hp) (Φ : List D → Sto → Prop) (Q : List V → Hp → Prop) : Prop :=
  ∀ (γ : List Addr) (s' : Sto) (ds : List D) (vs : List V) (H1 : Hp), Wl K α H γ s' H1 → DaL K (α ++ γ) H1 ds vs → Φ ds s' → Q vs H1
def KN (K : PySem.W.Frag) (α : List Addr) (H : Hp) (N : Slo → Sto → Prop) (Q : L2.St → Hp → Prop) : Prop :=
  ∀ (γ : List Addr) (s' : Sto) (ρ' : Slo) (σ' : L2.St) (H1 : Hp), Wl K α H γ s' H1 → Re K (α ++ γ) H1 σ' ρ' → N ρ' s' → Q σ' H1
structure EnR (K : PySem.W.Frag) (α : List Addr) (H : Hp) (N : En) (E : Ends) : Prop where
  nx : KN K α H N.nx E.nx
  bk : KN K α H N.bk E.bk
  ct : KN K α H N.ct E.ct
  rt : K1 K α H N.rt E.rt
section
variable {K : PySem.W.Frag} {α γ : List Addr} {s s1 : Sto} {H H1 : Hp} {N : En} {E : Ends}
theorem K1.step {Φ : D → Sto → Prop} {Q : VK} (h0 : Sok K α s H) (k : K1 K α H Φ Q) (w : Wl K α H γ s1 H1) : K1 K (α ++ γ) H1 Φ Q :=
  fun δ s' d v H2 w2 da q => k (γ ++ δ) s' d v H2 (w.trans h0 w2) (by rw [← List.append_assoc]; exact da) q
theorem KB.step {Φ : Bool → Sto → Prop} {Q : Bool → Hp → Prop} (h0 : Sok K α s H) (k : KB K α H Φ Q) (w : Wl K α H γ s1 H1) : KB K (α ++ γ) H1 Φ Q :=
  fun δ s' d H2 w2 q => k (γ ++ δ) s' d H2 (w.trans h0 w2) q
theorem KA.step {Φ : List D → Sto → Prop} {Q : List V → Hp → Prop} (h0 : Sok K α s H) (k : KA K α H Φ Q) (w : Wl K α H γ s1 H1) : KA K (α ++ γ) H1 Φ Q :=
  fun δ s' d v H2 w2 da q => k (γ ++ δ) s' d v H2 (w.trans h0 w2) (by rw [← List.append_assoc]; exact da) q
theorem KN.step {Φ : Slo → Sto → Prop} {Q : L2.St → Hp → Prop} (h0 : Sok K α s H) (k : KN K α H Φ Q) (w : Wl K α H γ s1 H1) : KN K (α ++ γ) H1 Φ Q :=
  fun δ s' d v H2 w2 da q => k (γ ++ δ) s' d v H2 (w.trans h0 w2) (by rw [← List.append_assoc]; exact da) q
theorem EnR.step (h0 : Sok K α s H) (r : EnR K α H N E) (w : Wl K α H γ s1 H1) : EnR K (α ++ γ) H1 N E := ⟨r.nx.step h0 w, r.bk.step h0 w, r.ct.step h0 w, r.rt.step h0 w⟩
theorem K1.now {Φ : D → Sto → Prop} {Q : VK} (k : K1 K α H Φ Q) (so : Sok K α s H) {d : D} {v : V} (da : Da K α H d v) (q : Φ d s) : Q v H := k [] s d v H (Wl.refl so) (da_nil da) q
theorem KB.now {Φ : Bool → Sto → Prop} {Q : Bool → Hp → Prop} (k : KB K α H Φ Q) (so : Sok K α s H) {b : Bool} (q : Φ b s) : Q b H := k [] s b H (Wl.refl so) q
theorem KA.now {Φ : List D → Sto → Prop} {Q : List V → Hp → Prop} (k : KA K α H Φ Q) (so : Sok K α s H) {d : List D} {v : List V} (da : DaL K α H d v) (q : Φ d s) : Q v H := k [] s d v H (Wl.refl so) (dal_nil da) q
theorem KN.now {Φ : Slo → Sto → Prop} {Q : L2.St → Hp → Prop} (k : KN K α H Φ Q) (so : Sok K α s H) {ρ : Slo} {σ : L2.St} (re : Re K α H σ ρ) (q : Φ ρ s) : Q σ H := k [] s ρ σ H (Wl.refl so) (by rw [List.append_nil]; exact re) q
theorem K1.nowI {Φ : D → Sto → Prop} {Q : VK} (k : K1 K α H Φ Q) (so : Sok K α s H) {i : Int} (q : Φ (.int i) s) : Q (.int i) H := k.now so (d := .int i) (v := .int i) rfl q
theorem K1.nowB {Φ : D → Sto → Prop} {Q : VK} (k : K1 K α H Φ Q) (so : Sok K α s H) {i : Bool} (q : Φ (.bl i) s) : Q (.bl i) H := k.now so (d := .bl i) (v := .bl i) rfl q
theorem K1.nowS {Φ : D → Sto → Prop} {Q : VK} (k : K1 K α H Φ Q) (so : Sok K α s H) {i : Str} (q : Φ (.str i) s) : Q (.str i) H := k.now so (d := .str i) (v := .str i) rfl q
theorem K1.nowN {Φ : D → Sto → Prop} {Q : VK} (k : K1 K α H Φ Q) (so : Sok K α s H) (q : Φ .non s) : Q .non H := k.now so (d := .non) (v := .non) rfl q
theorem K1.nowY {Φ : D → Sto → Prop} {Q : VK} (k : K1 K α H Φ Q) (so : Sok K α s H) {i : String} (q : Φ (.ty i) s) : Q (.ty i) H := k.now so (d := .ty i) (v := .ty i) rfl q
/-- a new tuple, a new list that is never changed -/
theorem K1.newT {Φ : D → Sto → Prop} {Q : VK} (k : K1 K α H Φ Q) (so : Sok K α s H) {ds : List D} {xs : List V} (l : DaL K α H ds xs) (q : Φ (.tup ds) s) {p : Addr} (hp : H p = none) : Q (.ref p) (upd H p (.tup xs)) :=
  k [] s _ _ _ (Wl.new so hp) (da_tup so hp l) q
theorem K1.newL {Φ : D → Sto → Prop} {Q : VK} (k : K1 K α H Φ Q) (so : Sok K α s H) {ds : List D} {xs : List V} (l : DaL K α H ds xs) (q : Φ (.lst ds) s) {p : Addr} (hp : H p = none) : Q (.ref p) (upd H p (.lst xs)) :=
  k [] s _ _ _ (Wl.new so hp) (da_lst so hp l) q
end
section
variable (X : Cx)
def RE (σ : L2.St) (H : Hp) (e : Expr) (Q : VK) : Prop := Op (∀ (pins : List (Addr × Obj)) (s : Shared), Inv X pins σ H s → wpAny (model X.prog X.w) X.A (eval e X.env) (EP X pins σ Q) X.xe s)
def RT (σ : L2.St) (H : Hp) (e : Expr) (Q : Bool → Hp → Prop) : Prop := Op (∀ (pins : List (Addr × Obj)) (s : Shared), Inv X pins σ H s → wpAny (model X.prog X.w) X.A (isTrue e X.env (eval e X.env)) (TP X pins σ Q) X.xe s)
def RWh (σ : L2.St) (H : Hp) (e : Expr) (Q : Bool → Hp → Prop) : Prop := Op (∀ (whole : Sem Value) (pins : List (Addr × Obj)) (s : Shared), Inv X pins σ H s → wpAny (model X.prog X.w) X.A (isTrue e X.env whole) (TP X pins σ Q) X.xe s)
def RA (σ : L2.St) (H : Hp) (es : List Expr) (Q : List V → Hp → Prop) : Prop := Op (∀ (pos : Pos) (pins : List (Addr × Obj)) (s : Shared), Inv X pins σ H s → wpAny (model X.prog X.w) X.A (spliced (backTo pos (starEach es X.env))) (AP X pins σ Q) X.xe s)
def RS (σ : L2.St) (H : Hp) (st : Stmt) (E : Ends) : Prop := Op (∀ (pins : List (Addr × Obj)) (s : Shared), Inv X pins σ H s → wpAny (model X.prog X.w) X.A (exec st X.env) (SP X pins E) X.xe s)
def RSs (σ : L2.St) (H : Hp) (sts : List Stmt) (E : Ends) : Prop := Op (∀ (pins : List (Addr × Obj)) (s : Shared), Inv X pins σ H s → wpAny (model X.prog X.w) X.A (execs sts X.env) (SP X pins E) X.xe s)
/-- an expression, over slots and store; a test; a part of and, or; arguments; a statement; a block -/
def EM (ρ : Slo) (s : Sto) (e : Expr) (Φ : D → Sto → Prop) : Prop := ∀ (α : List Addr) (σ : L2.St) (H : Hp) (Q : VK), Sok X.K α s H → Re X.K α H σ ρ → K1 X.K α H Φ Q → RE X σ H e Q
def TM (ρ : Slo) (s : Sto) (e : Expr) (Φ : Bool → Sto → Prop) : Prop := ∀ (α : List Addr) (σ : L2.St) (H : Hp) (Q : Bool → Hp → Prop), Sok X.K α s H → Re X.K α H σ ρ → KB X.K α H Φ Q → RT X σ H e Q
def WM (ρ : Slo) (s : Sto) (e : Expr) (Φ : Bool → Sto → Prop) : Prop := ∀ (α : List Addr) (σ : L2.St) (H : Hp) (Q : Bool → Hp → Prop), Sok X.K α s H → Re X.K α H σ ρ → KB X.K α H Φ Q → RWh X σ H e Q
def AM (ρ : Slo) (s : Sto) (es : List Expr) (Φ : List D → Sto → Prop) : Prop := ∀ (α : List Addr) (σ : L2.St) (H : Hp) (Q : List V → Hp → Prop), Sok X.K α s H → Re X.K α H σ ρ → KA X.K α H Φ Q → RA X σ H es Q
def SM (ρ : Slo) (s : Sto) (st : Stmt) (N : En) : Prop := ∀ (α : List Addr) (σ : L2.St) (H : Hp) (E : Ends), Sok X.K α s H → Re X.K α H σ ρ → EnR X.K α H N E → RS X σ H st E
def SMs (ρ : Slo) (s : Sto) (sts : List Stmt) (N : En) : Prop := ∀ (α : List Addr) (σ : L2.St) (H : Hp) (E : Ends), Sok X.K α s H → Re X.K α H σ ρ → EnR X.K α H N E → RSs X σ H sts E
end
section
variable {X : Cx} {ρ : Slo} {s : Sto}
theorem pe_sem {e : Expr} : PE X e fun σ H Q => RE X σ H e Q := ⟨fun pins s _ _ _ I h => h.go pins s I⟩
theorem pt_sem {e : Expr} : PT X e fun σ H Q => RT X σ H e Q := ⟨fun pins s _ _ _ I h => h.go pins s I⟩
theorem pw_sem {e : Expr} : PW X e fun σ H Q => RWh X σ H e Q := ⟨fun w pins s _ _ _ I h => h.go w pins s I⟩
theorem pa_sem {es : List Expr} : PA X es fun σ H Q => RA X σ H es Q := ⟨fun pos pins s _ _ _ I h => h.go pos pins s I⟩
theorem ps_sem {st : Stmt} : PS X st fun E σ H => RS X σ H st E := ⟨fun pins s _ _ _ I h => h.go pins s I⟩
theorem pss_sem {sts : List Stmt} : PSs X sts fun E σ H => RSs X σ H sts E := ⟨fun pins s _ _ _ I h => h.go pins s I⟩
theorem toRE {e : Expr} {t : TE} (h : PE X e t) {σ : L2.St} {H : Hp} {Q : VK} (q : t σ H Q) : RE X σ H e Q := ⟨fun pins s I => h.run pins s σ H Q I q⟩
theorem toRT {e : Expr} {t : TT} (h : PT X e t) {σ : L2.St} {H : Hp} {Q : Bool → Hp → Prop} (q : t σ H Q) : RT X σ H e Q := ⟨fun pins s I => h.run pins s σ H Q I q⟩
theorem toRW {e : Expr} {t : TT} (h : PW X e t) {σ : L2.St} {H : Hp} {Q : Bool → Hp → Prop} (q : t σ H Q) : RWh X σ H e Q := ⟨fun w pins s I => h.run w pins s σ H Q I q⟩
theorem toRA {es : List Expr} {t : TA} (h : PA X es t) {σ : L2.St} {H : Hp} {Q : List V → Hp → Prop} (q : t σ H Q) : RA X σ H es Q := ⟨fun pos pins s I => h.run pos pins s σ H Q I q⟩
theorem toRS {st : Stmt} {t : TS} (h : PS X st t) {σ : L2.St} {H : Hp} {E : Ends} (q : t E σ H) : RS X σ H st E := ⟨fun pins s I => h.run pins s σ H E I q⟩
theorem toRSs {sts : List Stmt} {t : TS} (h : PSs X sts t) {σ : L2.St} {H : Hp} {E : Ends} (q : t E σ H) : RSs X σ H sts E := ⟨fun pins s I => h.run pins s σ H E I q⟩

/-! ### operations by values -/
def OpS (X : Cx) (f : Value → Value → Sem Value) : R2 := fun x y H Q => Op (∀ (pins : List (Addr × Obj)) (s : Shared) (σ : L2.St) (v u : Value), Inv X pins σ H s → RelV x v → RelV y u → wpAny (model X.prog X.w) X.A (f v u) (EP X pins σ Q) X.xe s)
theorem opS_ok {f : Value → Value → Sem Value} : OpR X f (OpS X f) := fun pins s σ _ _ _ v u _ I rx ry h => h.go pins s σ v u I rx ry
def V2 (X : Cx) (f : Value → Value → Sem Value) (x y : D) (s : Sto) (Φ : D → Sto → Prop) : Prop := ∀ (α : List Addr) (H : Hp) (a b : V) (Q : VK), Sok X.K α s H → Da X.K α H x a → Da X.K α H y b → K1 X.K α H Φ Q → OpS X f a b H Q
theorem v2_of {f : Value → Value → Sem Value} {r : R2} {x y : D} {Φ : D → Sto → Prop} (o : OpR X f r) (h : ∀ (α : List Addr) (H : Hp) (a b : V) (Q : VK), Sok X.K α s H → Da X.K α H x a → Da X.K α H y b → K1 X.K α H Φ Q → r a b H Q) : V2 X f x y s Φ :=
  fun α H a b Q so d1 d2 k => ⟨fun pins s σ v u I rx ry => o pins s σ H a b v u Q I rx ry (h α H a b Q so d1 d2 k)⟩
def CallS (X : Cx) (f : Value) : List V → Hp → VK → Prop := fun xs H Q => Op (∀ (pins : List (Addr × Obj)) (s : Shared) (σ : L2.St) (us : List Value), Inv X pins σ H s → Vals xs us → wpAny (model X.prog X.w) X.A (call f us) (EP X pins σ Q) X.xe s)
theorem callS_ok {f : Value} : CallR X f (CallS X f) := fun pins s σ _ _ us _ I r h => h.go pins s σ us I r
def VC (X : Cx) (f : Value) (ds : List D) (s : Sto) (Φ : D → Sto → Prop) : Prop := ∀ (α : List Addr) (H : Hp) (vs : List V) (Q : VK), Sok X.K α s H → DaL X.K α H ds vs → K1 X.K α H Φ Q → CallS X f vs H Q
theorem vc_of {f : Value} {r : List V → Hp → VK → Prop} {ds : List D} {Φ : D → Sto → Prop} (o : CallR X f r) (h : ∀ (α : List Addr) (H : Hp) (vs : List V) (Q : VK), Sok X.K α s H → DaL X.K α H ds vs → K1 X.K α H Φ Q → r vs H Q) : VC X f ds s Φ :=
  fun α H vs Q so d k => ⟨fun pins s σ us I r => o pins s σ H vs us Q I r (h α H vs Q so d k)⟩
end
end Mp
end T_MpA

section T_MpB
set_option autoImplicit true
set_option maxRecDepth 100000
set_option maxHeartbeats 4000000
namespace Mp
open PySem PySem.Spec PyProof.Rows L2

/-- both ways of a test -/
def Bif (b : Bool) (A B : Prop) : Prop := (b = true → A) ∧ (b = false → B)
theorem bif_t {A B : Prop} (h : A) : Bif true A B := ⟨fun _ => h, fun z => nomatch z⟩
theorem bif_f {A B : Prop} (h : B) : Bif false A B := ⟨(fun z => nomatch z), fun _ => h⟩
theorem bif_d {P A B : Prop} [Decidable P] (h1 : P → A) (h2 : ¬ P → B) : Bif (decide P) A B := ⟨fun z => h1 (of_decide_eq_true z), fun z => h2 (of_decide_eq_false z)⟩
theorem bif_nd {P A B : Prop} [Decidable P] (h1 : ¬ P → A) (h2 : P → B) : Bif (!decide P) A B := ⟨fun z => h1 (fun p => by rw [decide_eq_true p] at z; cases z), fun z => h2 (by
  by_cases p : P
  · exact p
  · rw [decide_eq_false p] at z; cases z)⟩
theorem bif_dt {P A B : Prop} [Decidable P] (p : P) (h : A) : Bif (decide P) A B := ⟨fun _ => h, fun z => absurd p (of_decide_eq_false z)⟩
theorem bif_df {P A B : Prop} [Decidable P] (p : ¬ P) (h : B) : Bif (decide P) A B := ⟨fun z => absurd (of_decide_eq_true z) p, fun _ => h⟩
theorem bif_eq {b c : Bool} {A B : Prop} (e : b = c) (h : Bif c A B) : Bif b A B := by rw [e]; exact h
theorem bif_not {b : Bool} {A B : Prop} (h : Bif b B A) : Bif (!b) A B := ⟨fun z => h.2 (by cases b <;> first | rfl | cases z), fun z => h.1 (by cases b <;> first | rfl | cases z)⟩
theorem bif_use {b : Bool} {A B C : Prop} (h : Bif b A B) (ha : A → C) (hb : B → C) : C := by
  cases b with
  | true => exact ha (h.1 rfl)
  | false => exact hb (h.2 rfl)
theorem bif_ite {b : Bool} {A B : Prop} (h : Bif b A B) : if b = true then A else B := by
  cases b with
  | true => rw [if_pos rfl]; exact h.1 rfl
  | false => rw [if_neg Bool.false_ne_true]; exact h.2 rfl

section
variable {X : Cx} {ρ : Slo} {s : Sto} {Φ : D → Sto → Prop} {pos : Pos}
/-! ### names, constants -/
theorem em_var (i : Nat) {x : Str} {d : D} (h : Φ d s) (hρ : ρ[i]? = some (some d) := by rfl) (hN : X.N[i]? = some x := by rfl) (hv : Vis X.env.scope x := by first | exact Or.inl rfl | exact Or.inr (Or.inl rfl) | exact Or.inr (Or.inr rfl))
    (hd : (x == ("__debug__" : Str)) = false := by decide) (hcd : (x == ("__classdict__" : Str)) = false := by decide) : EM X ρ s (.Name x pos) Φ := by
  intro α σ H Q so re k
  obtain ⟨v, h1, h2⟩ := re.at_ i d hρ
  exact toRE (pe_var hN hv hd hcd) ⟨v, h1, k.now so h2 h⟩
theorem em_int {i j} (h : Φ (.int i) s) : EM X ρ s (.Constant (.int i) j pos) Φ := fun α σ H Q so re k => toRE pe_int (k.nowI so h)
theorem em_bl {i j} (h : Φ (.bl i) s) : EM X ρ s (.Constant (.bool i) j pos) Φ := fun α σ H Q so re k => toRE pe_bl (k.nowB so h)
theorem em_non {j} (h : Φ .non s) : EM X ρ s (.Constant .none j pos) Φ := fun α σ H Q so re k => toRE pe_non (k.nowN so h)
theorem em_str {i j} (h : Φ (.str i) s) : EM X ρ s (.Constant (.str i) j pos) Φ := fun α σ H Q so re k => toRE pe_str (k.nowS so h)
/-- a constant of the module -/
def GCon (K : PySem.W.Frag) (mg : Str → Option Value) (x : Str) (d : D) : Prop := ∃ u v, mg x = some u ∧ RelV v u ∧ ∀ α H, Da K α H d v
theorem em_glob {x : Str} {d : D} (g : GCon X.K X.mg x d) (h : Φ d s) (hg : Gl X x := by rfl) (hd : (x == ("__debug__" : Str)) = false := by decide) : EM X ρ s (.Name x pos) Φ := by
  intro α σ H Q so re k
  obtain ⟨u, v, hm, r, da⟩ := g
  exact toRE (pe_glob hg hm r hd) (k.now so (da α H) h)
/-- a built-in type as a value -/
theorem em_bty {x : Str} {n : String} (hm : X.mg x = none) (h : Φ (.ty n) s) (hg : Gl X x := by rfl) (hv : bootBuiltins x = some (.type n) := by decide +kernel) (hn : x ≠ "__name__" := by decide) (hd : (x == ("__debug__" : Str)) = false := by decide) : EM X ρ s (.Name x pos) Φ :=
  fun α σ H Q so re k => toRE (pe_bltn (v := .ty n) hg hm hv rfl hn hd) (k.nowY so h)
/-- what is never asked -/
theorem em_mono {e : Expr} {Φ' : D → Sto → Prop} (h : EM X ρ s e Φ') (k : ∀ d s', Φ' d s' → Φ d s') : EM X ρ s e Φ := fun α σ H Q so re kk => h α σ H Q so re fun γ s' d v H1 w da q => kk γ s' d v H1 w da (k d s' q)

/-! ### operators -/
variable {a b c : Expr}
theorem em_bin {op : Operator} (h : EM X ρ s a fun x s1 => EM X ρ s1 b fun y s2 => V2 X (binaryOp op) x y s2 Φ) : EM X ρ s (.BinOp a op b pos) Φ := by
  intro α σ H Q so re k
  refine toRE (pe_op opS_ok pe_sem pe_sem) ?_
  refine h α σ H _ so re fun γ s1 x v H1 w1 d1 h1 => ?_
  refine h1 (α ++ γ) σ H1 _ w1.ok (w1.re re) fun δ s2 y u H2 w2 d2 h2 => ?_
  exact h2 _ H2 v u Q w2.ok (w2.da d1) d2 ((k.step so w1).step w1.ok w2)
theorem em_cmp {op : CmpOp} (h : EM X ρ s a fun x s1 => EM X ρ s1 b fun y s2 => V2 X (compareOp op) x y s2 Φ) (hm : behindInMarks op b = false := by first | exact nomark _ | rfl) : EM X ρ s (.Compare a [op] [b] pos) Φ := by
  intro α σ H Q so re k
  refine toRE (pe_cmpR opS_ok pe_sem pe_sem hm) ?_
  refine h α σ H _ so re fun γ s1 x v H1 w1 d1 h1 => ?_
  refine h1 (α ++ γ) σ H1 _ w1.ok (w1.re re) fun δ s2 y u H2 w2 d2 h2 => ?_
  exact h2 _ H2 v u Q w2.ok (w2.da d1) d2 ((k.step so w1).step w1.ok w2)
/-- its answer, a truth value -/
def AsB (Φ : Bool → Sto → Prop) : D → Sto → Prop := fun d s => ∃ k, d = .bl k ∧ Φ k s
theorem asB {Φ : Bool → Sto → Prop} {k : Bool} (h : Φ k s) : AsB Φ (.bl k) s := ⟨k, rfl, h⟩
theorem kb_of {Φ : Bool → Sto → Prop} {K : PySem.W.Frag} {α : List Addr} {H : Hp} {Q : Bool → Hp → Prop} (k : KB K α H Φ Q) : K1 K α H (AsB Φ) fun x H1 => ∃ k, x = .bl k ∧ Q k H1 := by
  rintro γ s' d v H1 w da ⟨c, rfl, q⟩
  exact ⟨c, da, k γ s' c H1 w q⟩
theorem tm_cmp {op : CmpOp} {Φ : Bool → Sto → Prop} (h : EM X ρ s a fun x s1 => EM X ρ s1 b fun y s2 => V2 X (compareOp op) x y s2 (AsB Φ)) (hm : behindInMarks op b = false := by first | exact nomark _ | rfl) : TM X ρ s (.Compare a [op] [b] pos) Φ := by
  intro α σ H Q so re k
  refine toRT (pt_cmpR opS_ok pe_sem pe_sem hm) ?_
  refine h α σ H _ so re fun γ s1 x v H1 w1 d1 h1 => ?_
  refine h1 (α ++ γ) σ H1 _ w1.ok (w1.re re) fun δ s2 y u H2 w2 d2 h2 => ?_
  exact h2 _ H2 v u _ w2.ok (w2.da d1) d2 (kb_of ((k.step so w1).step w1.ok w2))
theorem em_chain {op op' : CmpOp} (h : EM X ρ s a fun x s1 => EM X ρ s1 b fun y s2 => V2 X (compareOp op) x y s2 (AsB fun k s3 => Bif k (EM X ρ s3 c fun z s4 => V2 X (compareOp op') y z s4 Φ) (Φ (.bl false) s3)))
    (hm : behindInMarks op b = false := by first | exact nomark _ | rfl) (hm' : lastMarks [op, op'] [b, c] = false := by rfl) : EM X ρ s (.Compare a [op, op'] [b, c] pos) Φ := by
  intro α σ H Q so re k
  refine toRE (pe_chain opS_ok opS_ok pe_sem pe_sem pe_sem (hm := hm')) ?_
  refine h α σ H _ so re fun γ s1 x v H1 w1 d1 h1 => ?_
  refine h1 (α ++ γ) σ H1 _ w1.ok (w1.re re) fun δ s2 y u H2 w2 d2 h2 => ?_
  refine h2 _ H2 v u _ w2.ok (w2.da d1) d2 ?_
  rintro ε s3 d z H3 w3 d3 ⟨kk, rfl, q⟩
  obtain rfl : z = .bl kk := d3
  refine ⟨kk, rfl, ?_⟩
  have k3 := ((k.step so w1).step w1.ok w2).step w2.ok w3
  cases kk with
  | true =>
    rw [if_pos rfl]
    refine q.1 rfl _ σ H3 _ w3.ok (w3.re (w2.re (w1.re re))) fun ζ s4 y4 u4 H4 w4 d4 h4 => ?_
    exact h4 _ H4 u u4 Q w4.ok (w4.da (w3.da d2)) d4 (k3.step w3.ok w4)
  | false =>
    rw [if_neg Bool.false_ne_true]
    exact k3.nowB w3.ok (q.2 rfl)
theorem tm_val {e : Expr} {Φ : Bool → Sto → Prop} (h : EM X ρ s e (AsB Φ)) (he : ∀ whole, isTrue e X.env whole = (do let v ← whole; standAt e.pos; holding [v] (truthy v)) := by intro _; rfl) : TM X ρ s e Φ := by
  intro α σ H Q so re k
  exact toRT (pt_val pe_sem he) (h α σ H _ so re (kb_of k))
/-! ### and, or, not, a if t else b -/
variable {rest : List Expr} {Ψ : Bool → Sto → Prop}
theorem tm_w {e : Expr} (h : WM X ρ s e Ψ) : TM X ρ s e Ψ := fun α σ H Q so re k => toRT (PW.pt pw_sem) (h α σ H Q so re k)
theorem wm_and1 (h : TM X ρ s a Ψ) : WM X ρ s (.BoolOp .And [a] pos) Ψ := fun α σ H Q so re k => toRW (pw_and1 pt_sem) (h α σ H Q so re k)
theorem wm_or1 (h : TM X ρ s a Ψ) : WM X ρ s (.BoolOp .Or [a] pos) Ψ := fun α σ H Q so re k => toRW (pw_or1 pt_sem) (h α σ H Q so re k)
theorem wm_and (h : TM X ρ s a fun k s1 => Bif k (WM X ρ s1 (.BoolOp .And (b :: rest) pos) Ψ) (Ψ false s1)) : WM X ρ s (.BoolOp .And (a :: b :: rest) pos) Ψ := by
  intro α σ H Q so re k
  refine toRW (pw_and pt_sem pw_sem) (h α σ H _ so re fun γ s1 c H1 w1 q => bif_ite ⟨fun e => ?_, fun e => ?_⟩)
  · exact q.1 e _ σ H1 Q w1.ok (w1.re re) (k.step so w1)
  · exact k γ s1 _ H1 w1 (q.2 e)
theorem wm_or (h : TM X ρ s a fun k s1 => Bif k (Ψ true s1) (WM X ρ s1 (.BoolOp .Or (b :: rest) pos) Ψ)) : WM X ρ s (.BoolOp .Or (a :: b :: rest) pos) Ψ := by
  intro α σ H Q so re k
  refine toRW (pw_or pt_sem pw_sem) (h α σ H _ so re fun γ s1 c H1 w1 q => bif_ite ⟨fun e => ?_, fun e => ?_⟩)
  · exact k γ s1 _ H1 w1 (q.1 e)
  · exact q.2 e _ σ H1 Q w1.ok (w1.re re) (k.step so w1)
theorem tm_not (h : TM X ρ s a fun k s1 => Ψ (!k) s1) : TM X ρ s (.UnaryOp .Not a pos) Ψ := fun α σ H Q so re k => toRT (pt_not pt_sem) (h α σ H _ so re fun γ s1 c H1 w1 q => k γ s1 _ H1 w1 q)
theorem em_one {op} (h : EM X ρ s a Φ) : EM X ρ s (.BoolOp op [a] pos) Φ := fun α σ H Q so re k => toRE (pe_one pe_sem) (h α σ H Q so re k)
theorem em_and (h : EM X ρ s a (AsB fun k s1 => Bif k (EM X ρ s1 (.BoolOp .And (b :: rest) pos) Φ) (Φ (.bl false) s1))) : EM X ρ s (.BoolOp .And (a :: b :: rest) pos) Φ := by
  intro α σ H Q so re k
  refine toRE (pe_and pe_sem pe_sem) (h α σ H _ so re ?_)
  rintro γ s1 d v H1 w1 da ⟨c, rfl, q⟩
  refine ⟨c, da, bif_ite ⟨fun e => ?_, fun e => ?_⟩⟩
  · exact q.1 e _ σ H1 Q w1.ok (w1.re re) (k.step so w1)
  · exact k γ s1 (.bl false) _ H1 w1 rfl (q.2 e)
theorem em_or (h : EM X ρ s a (AsB fun k s1 => Bif k (Φ (.bl true) s1) (EM X ρ s1 (.BoolOp .Or (b :: rest) pos) Φ))) : EM X ρ s (.BoolOp .Or (a :: b :: rest) pos) Φ := by
  intro α σ H Q so re k
  refine toRE (pe_or pe_sem pe_sem) (h α σ H _ so re ?_)
  rintro γ s1 d v H1 w1 da ⟨c, rfl, q⟩
  refine ⟨c, da, bif_ite ⟨fun e => ?_, fun e => ?_⟩⟩
  · exact k γ s1 (.bl true) _ H1 w1 rfl (q.1 e)
  · exact q.2 e _ σ H1 Q w1.ok (w1.re re) (k.step so w1)
theorem em_not (h : EM X ρ s a (AsB fun k s1 => Φ (.bl (!k)) s1)) : EM X ρ s (.UnaryOp .Not a pos) Φ := by
  intro α σ H Q so re k
  refine toRE (pe_not pe_sem) (h α σ H _ so re ?_)
  rintro γ s1 d v H1 w1 da ⟨c, rfl, q⟩
  exact ⟨c, da, k γ s1 (.bl (!c)) _ H1 w1 rfl q⟩
theorem em_if {t : Expr} (h : TM X ρ s t fun k s1 => Bif k (EM X ρ s1 a Φ) (EM X ρ s1 b Φ)) : EM X ρ s (.IfExp t a b pos) Φ := by
  intro α σ H Q so re k
  refine toRE (pe_ifExp pt_sem pe_sem pe_sem) (h α σ H _ so re fun γ s1 c H1 w1 q => bif_ite ⟨fun e => ?_, fun e => ?_⟩)
  · exact q.1 e _ σ H1 Q w1.ok (w1.re re) (k.step so w1)
  · exact q.2 e _ σ H1 Q w1.ok (w1.re re) (k.step so w1)

/-! ### operators by values -/
variable {i j : Int}
theorem v2_addI (h : Φ (.int (i + j)) s) : V2 X (binaryOp .Add) (.int i) (.int j) s Φ := v2_of op_add fun α H a b Q so da db k => ⟨i, j, da, db, k.nowI so h⟩
theorem v2_subI (h : Φ (.int (i - j)) s) : V2 X (binaryOp .Sub) (.int i) (.int j) s Φ := v2_of op_sub fun α H a b Q so da db k => ⟨i, j, da, db, k.nowI so h⟩
theorem v2_mulI (c : CMul i j) (h : Φ (.int (i * j)) s) : V2 X (binaryOp .Mult) (.int i) (.int j) s Φ := v2_of op_mul fun α H a b Q so da db k => ⟨i, j, da, db, c, k.nowI so h⟩
theorem v2_fdivI (c : CDiv i j) (h : Φ (.int (i / j)) s) : V2 X (binaryOp .FloorDiv) (.int i) (.int j) s Φ := v2_of op_fdiv fun α H a b Q so da db k => ⟨i, j, da, db, c, k.nowI so h⟩
theorem v2_modI (c : 0 < j) (h : Φ (.int (i % j)) s) : V2 X (binaryOp .Mod) (.int i) (.int j) s Φ := v2_of op_mod fun α H a b Q so da db k => ⟨i, j, da, db, c, k.nowI so h⟩
theorem v2_powI (c : CPow i j) (h : Φ (.int (i ^ j.toNat)) s) : V2 X (binaryOp .Pow) (.int i) (.int j) s Φ := v2_of op_pow fun α H a b Q so da db k => ⟨i, j, da, db, c, k.nowI so h⟩
theorem v2_lt (h : Φ (.bl (decide (i < j))) s) : V2 X (compareOp .Lt) (.int i) (.int j) s Φ := v2_of op_lt fun α H a b Q so da db k => ⟨i, j, da, db, k.nowB so h⟩
theorem v2_le (h : Φ (.bl (decide (i ≤ j))) s) : V2 X (compareOp .LtE) (.int i) (.int j) s Φ := v2_of op_le fun α H a b Q so da db k => ⟨i, j, da, db, k.nowB so h⟩
theorem v2_gt (h : Φ (.bl (decide (j < i))) s) : V2 X (compareOp .Gt) (.int i) (.int j) s Φ := v2_of op_gt fun α H a b Q so da db k => ⟨i, j, da, db, k.nowB so h⟩
theorem v2_ge (h : Φ (.bl (decide (j ≤ i))) s) : V2 X (compareOp .GtE) (.int i) (.int j) s Φ := v2_of op_ge fun α H a b Q so da db k => ⟨i, j, da, db, k.nowB so h⟩
theorem v2_eqI (h : Φ (.bl (decide (i = j))) s) : V2 X (compareOp .Eq) (.int i) (.int j) s Φ := v2_of op_eq fun α H a b Q so da db k => by
  cases da; cases db
  refine ⟨rfl, k.now so (v := .bl _) (d := .bl (decide (i = j))) ?_ h⟩
  show V.bl (decide (V.int i = V.int j)) = V.bl (decide (i = j))
  rw [dec_int, Bool.beq_eq_decide_eq]
theorem v2_neI (h : Φ (.bl (!decide (i = j))) s) : V2 X (compareOp .NotEq) (.int i) (.int j) s Φ := v2_of op_ne fun α H a b Q so da db k => by
  cases da; cases db
  refine ⟨rfl, k.now so (v := .bl _) (d := .bl (!decide (i = j))) ?_ h⟩
  show V.bl (!decide (V.int i = V.int j)) = V.bl (!decide (i = j))
  rw [dec_int, Bool.beq_eq_decide_eq]
theorem v2_eqS {x y : Str} (h : Φ (.bl (decide (x = y))) s) : V2 X (compareOp .Eq) (.str x) (.str y) s Φ := v2_of op_eq fun α H a b Q so da db k => by
  cases da; cases db
  refine ⟨rfl, k.now so (v := .bl _) (d := .bl (decide (x = y))) ?_ h⟩
  show V.bl (decide (V.str x = V.str y)) = V.bl (decide (x = y))
  rw [dec_str, Bool.beq_eq_decide_eq]
theorem v2_neS {x y : Str} (h : Φ (.bl (!decide (x = y))) s) : V2 X (compareOp .NotEq) (.str x) (.str y) s Φ := v2_of op_ne fun α H a b Q so da db k => by
  cases da; cases db
  refine ⟨rfl, k.now so (v := .bl _) (d := .bl (!decide (x = y))) ?_ h⟩
  show V.bl (!decide (V.str x = V.str y)) = V.bl (!decide (x = y))
  rw [dec_str, Bool.beq_eq_decide_eq]
/-- is None -/
def isNon : D → Bool
  | .non => true
  | _ => false
theorem isNon_v {K : PySem.W.Frag} {α : List Addr} {H : Hp} {d : D} {v : V} (h : Da K α H d v) : decide (v = .non) = isNon d := by
  cases d with
  | non => cases h; rfl
  | ref i => obtain ⟨a, _, e⟩ := h; subst e; rfl
  | tup ds => obtain ⟨a, xs, e, _⟩ := h; subst e; rfl
  | lst ds => obtain ⟨a, xs, e, _⟩ := h; subst e; rfl
  | fro ds => obtain ⟨a, xs, e, _⟩ := h; subst e; rfl
  | ins C ks ds => obtain ⟨a, dx, fs, e, _⟩ := h; subst e; rfl
  | bl b => cases h; rfl
  | int b => cases h; rfl
  | str b => cases h; rfl
  | ty b => cases h; rfl
  | adr b => cases h; rfl
theorem v2_isN {d : D} (h : Φ (.bl (isNon d)) s) : V2 X (compareOp .Is) d .non s Φ := v2_of op_isN fun α H a b Q so da db k => ⟨db, k.now so (v := .bl _) (d := .bl (isNon d)) (congrArg V.bl (isNon_v da)) h⟩
theorem v2_notN {d : D} (h : Φ (.bl (!isNon d)) s) : V2 X (compareOp .IsNot) d .non s Φ := v2_of op_notN fun α H a b Q so da db k => ⟨db, k.now so (v := .bl _) (d := .bl (!isNon d)) (congrArg (fun z => V.bl (!z)) (isNon_v da)) h⟩
end
end Mp
end T_MpB

section T_MpC
set_option autoImplicit true
set_option maxRecDepth 100000
set_option maxHeartbeats 4000000
namespace Mp
open PySem PySem.Spec PyProof.Rows L2
section
variable {X : Cx} {ρ : Slo} {s : Sto} {Φ : D → Sto → Prop} {pos : Pos} {a b c e : Expr} {es : List Expr}
/-! ### arguments, displays -/
theorem am_nil {Φ : List D → Sto → Prop} (h : Φ [] s) : AM X ρ s [] Φ := fun α σ H Q so re k => toRA pa_nil (k.now so (d := []) (v := []) rfl h)
theorem am_cons {Φ : List D → Sto → Prop} (h : EM X ρ s e fun d s1 => AM X ρ s1 es fun ds s2 => Φ (d :: ds) s2) (hs : starEach (e :: es) X.env = (false, eval e X.env) :: starEach es X.env := by rfl) : AM X ρ s (e :: es) Φ := by
  intro α σ H Q so re k
  refine toRA (pa_cons pe_sem pa_sem hs) ?_
  refine h α σ H _ so re fun γ s1 d v H1 w1 d1 h1 => ?_
  refine h1 (α ++ γ) σ H1 _ w1.ok (w1.re re) fun δ s2 ds vs H2 w2 d2 h2 => ?_
  exact (k.step so w1) δ s2 (d :: ds) (v :: vs) H2 w2 ⟨v, vs, rfl, w2.da d1, d2⟩ h2
theorem em_tup {x1} (h : AM X ρ s es fun ds s1 => ds.length ≤ 1000 ∧ Φ (.tup ds) s1) : EM X ρ s (.Tuple es x1 pos) Φ := by
  intro α σ H Q so re k
  refine toRE (pe_tup pa_sem) (h α σ H _ so re fun γ s1 ds vs H1 w1 d1 h1 => ?_)
  exact ⟨by rw [← d1.length]; exact Nat.le_trans h1.1 (by decide), fun p hp => (k.step so w1).newT w1.ok d1 h1.2 hp⟩
theorem em_lst (h : AM X ρ s es fun ds s1 => ds.length ≤ 1000 ∧ Φ (.lst ds) s1) : EM X ρ s (.List es pos) Φ := by
  intro α σ H Q so re k
  refine toRE (pe_lst pa_sem) (h α σ H _ so re fun γ s1 ds vs H1 w1 d1 h1 => ?_)
  exact ⟨by rw [← d1.length]; exact Nat.le_trans h1.1 (by decide), fun p hp => (k.step so w1).newL w1.ok d1 h1.2 hp⟩
/-- a new object of the store -/
theorem Wl.cell {K : PySem.W.Frag} {α : List Addr} {H : Hp} {s : Sto} (so : Sok K α s H) {p : Addr} {o : HO} {m : MO} (hp : H p = none) (c : Cel K (α ++ [p]) (upd H p o) p m) : Wl K α H [p] (s ++ [m]) (upd H p o) := by
  have np := so.free hp
  refine ⟨fun b u e _ => by rw [upd_ne (ne_of_none e hp)]; exact e, fun q hq => ?_, ⟨?_, ?_, fun i q mm hi hm => ?_⟩⟩
  · cases List.mem_singleton.mp hq
    exact hp
  · rw [List.length_append, List.length_append, so.len]; rfl
  · refine List.nodup_append.mpr ⟨so.nd, by simp, fun x hx y hy z => ?_⟩
    cases List.mem_singleton.mp hy
    subst z
    exact np hx
  · by_cases hlt : i < α.length
    · rw [List.getElem?_append_left hlt] at hi
      rw [List.getElem?_append_left (by rw [← so.len]; exact hlt)] at hm
      have c0 := so.cel i q mm hi hm
      have kp : Kp α H (upd H p o) := fun b u e _ => by rw [upd_ne (ne_of_none e hp)]; exact e
      have fr : ∀ a ∈ [p], H a = none := fun a ha => by cases List.mem_singleton.mp ha; exact hp
      cases mm with
      | lst ds => obtain ⟨xs, e, l⟩ := c0; exact ⟨xs, by rw [upd_ne (ne_of_none e hp)]; exact e, l.step kp fr⟩
      | dic ks ds => obtain ⟨xs, e, ek, l⟩ := c0; exact ⟨xs, by rw [upd_ne (ne_of_none e hp)]; exact e, ek, l.step kp fr⟩
      | ins C ks ds => obtain ⟨dx, xs, e, ek, l⟩ := c0; exact ⟨dx, xs, by rw [upd_ne (ne_of_none e hp)]; exact e, ek, l.step kp fr⟩
    · have hge : α.length ≤ i := Nat.le_of_not_lt hlt
      rw [List.getElem?_append_right hge] at hi
      rw [List.getElem?_append_right (by rw [← so.len]; exact hge), ← so.len] at hm
      have h0 : i - α.length = 0 := by
        have := (List.getElem?_eq_some_iff.mp hi).1
        simp at this
        omega
      rw [h0] at hi hm
      cases hi
      cases hm
      exact c
theorem DaL.new {K : PySem.W.Frag} {α : List Addr} {H : Hp} {p : Addr} {o : HO} (hp : H p = none) {ds : List D} {xs : List V} (l : DaL K α H ds xs) : DaL K (α ++ [p]) (upd H p o) ds xs :=
  l.step (fun b u e _ => by rw [upd_ne (ne_of_none e hp)]; exact e) fun a ha => by cases List.mem_singleton.mp ha; exact hp
theorem ref_new {K : PySem.W.Frag} {α : List Addr} {H H' : Hp} {p : Addr} {s : Sto} (so : Sok K α s H) : Da K (α ++ [p]) H' (.ref s.length) (.ref p) := ⟨p, by rw [List.getElem?_append_right (by rw [so.len]; exact Nat.le_refl _), so.len, Nat.sub_self] <;> rfl, rfl⟩
theorem K1.newC {K : PySem.W.Frag} {α : List Addr} {H : Hp} {s : Sto} {Q : VK} (k : K1 K α H Φ Q) (so : Sok K α s H) {ds : List D} {xs : List V} (l : DaL K α H ds xs) (q : Φ (.ref s.length) (s ++ [.lst ds])) {p : Addr} (hp : H p = none) : Q (.ref p) (upd H p (.lst xs)) :=
  k [p] _ (.ref s.length) _ _ (Wl.cell so hp (m := .lst ds) ⟨xs, upd_same, l.new hp⟩) (ref_new so) q
/-- a list that will be changed -/
theorem em_lstC (h : AM X ρ s es fun ds s1 => ds.length ≤ 1000 ∧ Φ (.ref s1.length) (s1 ++ [.lst ds])) : EM X ρ s (.List es pos) Φ := by
  intro α σ H Q so re k
  refine toRE (pe_lst pa_sem) (h α σ H _ so re fun γ s1 ds vs H1 w1 d1 h1 => ?_)
  exact ⟨by rw [← d1.length]; exact Nat.le_trans h1.1 (by decide), fun p hp => (k.step so w1).newC w1.ok d1 h1.2 hp⟩

/-! ### subscripts -/
def IxS (X : Cx) : R2 := fun x y H Q => Op (∀ (value slice : Expr) (pins : List (Addr × Obj)) (s : Shared) (σ : L2.St) (v u : Value), Inv X pins σ H s → RelV x v → RelV y u →
  subscripted slice false v u = operate [v, u] (getItem v u) → wpAny (model X.prog X.w) X.A (subscriptTail value slice v u) (EP X pins σ Q) X.xe s)
theorem ixS_ok : IxR X (IxS X) := fun value slice pins s σ _ _ _ v u _ I rx ry h e => h.go value slice pins s σ v u I rx ry e
def VI (X : Cx) (x y : D) (s : Sto) (Φ : D → Sto → Prop) : Prop := ∀ (α : List Addr) (H : Hp) (a b : V) (Q : VK), Sok X.K α s H → Da X.K α H x a → Da X.K α H y b → K1 X.K α H Φ Q → IxS X a b H Q
theorem vi_of {r : R2} {x y : D} (o : IxR X r) (h : ∀ (α : List Addr) (H : Hp) (a b : V) (Q : VK), Sok X.K α s H → Da X.K α H x a → Da X.K α H y b → K1 X.K α H Φ Q → r a b H Q) : VI X x y s Φ :=
  fun α H a b Q so d1 d2 k => Op.mk <| fun value slice pins s σ v u I rx ry e => o value slice pins s σ H a b v u Q I rx ry (h α H a b Q so d1 d2 k) e
theorem em_ix (h : EM X ρ s a fun x s1 => EM X ρ s1 b fun y s2 => VI X x y s2 Φ) (hs : PlainIx b := by intro _ _; rfl) : EM X ρ s (.Subscript a b pos) Φ := by
  intro α σ H Q so re k
  refine toRE (pe_ix ixS_ok pe_sem pe_sem hs) ?_
  refine h α σ H _ so re fun γ s1 x v H1 w1 d1 h1 => ?_
  refine h1 (α ++ γ) σ H1 _ w1.ok (w1.re re) fun δ s2 y u H2 w2 d2 h2 => ?_
  exact h2 _ H2 v u Q w2.ok (w2.da d1) d2 ((k.step so w1).step w1.ok w2)
theorem atI_get' {xs : List V} {ds : List D} {K : PySem.W.Frag} {α : List Addr} {H : Hp} {i : Int} {d : D} (l : DaL K α H ds xs) (h : atI ds i = some d) : ∃ x, atI xs i = some x ∧ Da K α H d x := by
  unfold atI at h ⊢
  rw [← l.length]
  cases e : ixN ds.length i with
  | none => rw [e] at h; cases h
  | some j =>
    rw [e] at h
    obtain ⟨x, h1, h2⟩ := l.get (show ds[j]? = some d from h)
    exact ⟨x, h1, h2⟩
theorem vi_tup {ds : List D} {i : Int} {d : D} (hi : atI ds i = some d) (h : Φ d s) : VI X (.tup ds) (.int i) s Φ := vi_of ix_tup fun α H a b Q so da db k => by
  obtain ⟨p, xs, e, q, l⟩ := da
  obtain ⟨x, h1, h2⟩ := atI_get' l hi
  exact ⟨p, xs, i, x, e, db, tupAt q, h1, k.now so h2 h⟩
theorem vi_lst {ds : List D} {i : Int} {d : D} (hi : atI ds i = some d) (h : Φ d s) : VI X (.lst ds) (.int i) s Φ := vi_of ix_list fun α H a b Q so da db k => by
  obtain ⟨p, xs, e, n, q, l⟩ := da
  obtain ⟨x, h1, h2⟩ := atI_get' l hi
  exact ⟨p, xs, i, x, e, db, SqL.of q, h1, k.now so h2 h⟩
theorem vi_ref {ds : List D} {j : Nat} {i : Int} {d : D} (hc : s[j]? = some (.lst ds)) (hi : atI ds i = some d) (h : Φ d s) : VI X (.ref j) (.int i) s Φ := vi_of ix_list fun α H a b Q so da db k => by
  obtain ⟨p, e, q⟩ := da
  obtain ⟨xs, c1, c2⟩ := so.cel j p _ e hc
  obtain ⟨x, h1, h2⟩ := atI_get' c2 hi
  exact ⟨p, xs, i, x, q, db, SqL.of c1, h1, k.now so h2 h⟩
/-! ### slices -/
def SlS (X : Cx) : V → Option Int → Option Int → Hp → VK → Prop := fun x lo hi H Q => Op (∀ (pins : List (Addr × Obj)) (s : Shared) (σ : L2.St) (v vl vu : Value) (sl : Addr), Inv X pins σ H s → RelV x v → s.heap.IsSliceOf sl vl vu .none → IsPart vl lo → IsPart vu hi →
    ∃ T id, typeLookup (.type T) "__getitem__" = pure (some (.builtin id)) ∧ s.TypeIs v T ∧ wpAny (model X.prog X.w) X.A (getItem v (.ref sl)) (EP X pins σ Q) X.xe s)
theorem slS_ok : SlR X (SlS X) := fun pins s σ _ _ v vl vu _ _ sl _ I rx hs pl pu h => h.go pins s σ v vl vu sl I rx hs pl pu
def VSl (X : Cx) (x : D) (lo hi : Option Int) (s : Sto) (Φ : D → Sto → Prop) : Prop := ∀ (α : List Addr) (H : Hp) (a : V) (Q : VK), Sok X.K α s H → Da X.K α H x a → K1 X.K α H Φ Q → SlS X a lo hi H Q
theorem vsl_of {r : V → Option Int → Option Int → Hp → VK → Prop} {x : D} {lo hi : Option Int} (o : SlR X r) (h : ∀ (α : List Addr) (H : Hp) (a : V) (Q : VK), Sok X.K α s H → Da X.K α H x a → K1 X.K α H Φ Q → r a lo hi H Q) : VSl X x lo hi s Φ :=
  fun α H a Q so d1 k => Op.mk <| fun pins s σ v vl vu sl I rx hs pl pu => o pins s σ H a v vl vu lo hi sl Q I rx hs pl pu (h α H a Q so d1 k)
def RO (X : Cx) (σ : L2.St) (H : Hp) (e : Option Expr) (Q : Option Int → Hp → Prop) : Prop := Op (∀ (pins : List (Addr × Obj)) (s : Shared), Inv X pins σ H s → wpAny (model X.prog X.w) X.A (evalPart e X.env) (fun u s' => ∃ o H', Inv X pins σ H' s' ∧ IsPart u o ∧ Q o H') X.xe s)
theorem po_sem {e : Option Expr} : PO X e fun σ H Q => RO X σ H e Q := ⟨fun pins s _ _ _ I h => h.go pins s I⟩
def OM (X : Cx) (ρ : Slo) (s : Sto) (e : Option Expr) (Φ : Option Int → Sto → Prop) : Prop := ∀ (α : List Addr) (σ : L2.St) (H : Hp) (Q : Option Int → Hp → Prop), Sok X.K α s H → Re X.K α H σ ρ →
  (∀ (γ : List Addr) (s' : Sto) (o : Option Int) (H1 : Hp), Wl X.K α H γ s' H1 → Φ o s' → Q o H1) → RO X σ H e Q
theorem om_none {Φ : Option Int → Sto → Prop} (h : Φ none s) : OM X ρ s none Φ := fun α σ H Q so re k => Op.mk <| fun pins sh I => po_none.run pins sh σ H Q I (k [] s none H (Wl.refl so) h)
theorem om_some {Φ : Option Int → Sto → Prop} (h : EM X ρ s e fun d s1 => ∃ i, d = .int i ∧ Φ (some i) s1) : OM X ρ s (some e) Φ := fun α σ H Q so re k => Op.mk <| fun pins sh I =>
  (po_some pe_sem).run pins sh σ H Q I (h α σ H _ so re (by
    rintro γ s1 d v H1 w da ⟨i, rfl, q⟩
    exact ⟨i, da, k γ s1 _ H1 w q⟩))
def cutD (xs : List D) (lo hi : Option Int) : List D := (xs.drop (HT.sIx xs.length 0 lo)).take (HT.sIx xs.length xs.length hi - HT.sIx xs.length 0 lo)
theorem DaL.cut {K : PySem.W.Frag} {α : List Addr} {H : Hp} {ds : List D} {xs : List V} (l : DaL K α H ds xs) (lo hi : Option Int) : DaL K α H (cutD ds lo hi) (cutV xs lo hi) := by
  unfold cutD cutV
  rw [l.length]
  exact (l.drop _).take _
theorem em_slice {lo hi : Option Expr} {p2 : Pos} (h : EM X ρ s a fun x s1 => OM X ρ s1 lo fun l s2 => OM X ρ s2 hi fun u s3 => VSl X x l u s3 Φ) : EM X ρ s (.Subscript a (.Slice lo hi none p2) pos) Φ := by
  intro α σ H Q so re k
  refine toRE (pe_slice slS_ok pe_sem po_sem po_sem) ?_
  refine h α σ H _ so re fun γ s1 x v H1 w1 d1 h1 => ?_
  refine h1 (α ++ γ) σ H1 _ w1.ok (w1.re re) fun δ s2 l H2 w2 h2 => ?_
  refine h2 _ σ H2 _ w2.ok (w2.re (w1.re re)) fun ε s3 u H3 w3 h3 => ?_
  exact h3 _ H3 v Q w3.ok (w3.da (w2.da d1)) (((k.step so w1).step w1.ok w2).step w2.ok w3)
theorem cutV_whole {xs : List V} {lo hi : Option Int} (h : HT.sIx xs.length 0 lo = 0 ∧ HT.sIx xs.length xs.length hi = xs.length) : cutV xs lo hi = xs := by
  unfold cutV
  rw [h.1, h.2]
  simp
theorem vsl_tup {ds : List D} {lo hi : Option Int} (h : Φ (.tup (cutD ds lo hi)) s) : VSl X (.tup ds) lo hi s Φ := vsl_of sl_tupA fun α H a Q so da k => by
  obtain ⟨p, xs, e, q, l⟩ := da
  refine ⟨p, xs, e, tupAt q, fun w => ?_, fun w r hr => k.newT so (l.cut lo hi) h hr⟩
  have c := l.cut lo hi
  rw [cutV_whole w] at c
  exact k.now so (d := .tup (cutD ds lo hi)) ⟨p, xs, rfl, q, c⟩ h
theorem vsl_lst {ds : List D} {lo hi : Option Int} (h : Φ (.lst (cutD ds lo hi)) s) : VSl X (.lst ds) lo hi s Φ := vsl_of sl_list fun α H a Q so da k => by
  obtain ⟨p, xs, e, n, q, l⟩ := da
  exact ⟨p, xs, e, SqL.of q, fun r hr => k.newL so (l.cut lo hi) h hr⟩
theorem vsl_fro {ds : List D} {lo hi : Option Int} (h : Φ (.lst (cutD ds lo hi)) s) : VSl X (.fro ds) lo hi s Φ := vsl_of sl_list fun α H a Q so da k => by
  obtain ⟨p, xs, e, q, l⟩ := da
  exact ⟨p, xs, e, lstAt q, fun r hr => k.newL so (l.cut lo hi) h hr⟩
/-! ### + and * of tuples and lists -/
theorem v2_addT {xs ys : List D} (hl : xs.length + ys.length ≤ 1000) (h : Φ (.tup (xs ++ ys)) s) : V2 X (binaryOp .Add) (.tup xs) (.tup ys) s Φ := v2_of op_catA fun α H a b Q so da db k => by
  obtain ⟨p, vs, e, q, l⟩ := da
  obtain ⟨r, us, e2, q2, l2⟩ := db
  have n1 := l.length
  have n2 := l2.length
  refine ⟨p, r, vs, us, e, e2, tupAt q, tupAt q2, Nat.le_trans (by omega) (by decide : 1000 ≤ sizeLine), fun z => ?_, fun _ z => ?_, fun _ _ t ht => k.newT so (l.append l2) h ht⟩
  · subst z
    have : xs = [] := List.length_eq_zero_iff.mp n1
    subst this
    exact k.now so (d := .tup ys) ⟨r, us, rfl, q2, l2⟩ h
  · subst z
    have : ys = [] := List.length_eq_zero_iff.mp n2
    subst this
    rw [List.append_nil] at h
    exact k.now so (d := .tup xs) ⟨p, vs, rfl, q, l⟩ h
/-- what is a list: one that is never changed, one of the store -/
inductive IsL (s : Sto) : D → List D → Prop where
  | lst (ds : List D) : IsL s (.lst ds) ds
  | ref {j : Nat} {ds : List D} (h : s[j]? = some (.lst ds)) : IsL s (.ref j) ds
theorem IsL.at_ {K : PySem.W.Frag} {α : List Addr} {H : Hp} {x : D} {ds : List D} {v : V} (h : IsL s x ds) (so : Sok K α s H) (da : Da K α H x v) : ∃ a xs, v = .ref a ∧ H a = some (.lst xs) ∧ DaL K α H ds xs := by
  cases h with
  | lst _ =>
    obtain ⟨p, xs, e, n, q, l⟩ := da
    exact ⟨p, xs, e, q, l⟩
  | ref hc =>
    obtain ⟨p, e, q⟩ := da
    obtain ⟨xs, c1, c2⟩ := so.cel _ p _ e hc
    exact ⟨p, xs, q, c1, c2⟩
theorem v2_addL {x y : D} {xs ys : List D} (hx : IsL s x xs) (hy : IsL s y ys) (hl : xs.length + ys.length ≤ 1000) (h : Φ (.lst (xs ++ ys)) s) : V2 X (binaryOp .Add) x y s Φ := v2_of op_cat fun α H a b Q so da db k => by
  obtain ⟨p, vs, e, q, l⟩ := hx.at_ so da
  obtain ⟨r, us, e2, q2, l2⟩ := hy.at_ so db
  exact ⟨p, r, vs, us, e, e2, q, q2, by rw [← l.length, ← l2.length]; exact Nat.le_trans hl (by decide), fun t ht => k.newL so (l.append l2) h ht⟩
theorem DaL.rep {K : PySem.W.Frag} {α : List Addr} {H : Hp} {ds : List D} {xs : List V} (l : DaL K α H ds xs) : ∀ n : Nat, DaL K α H (List.replicate n ds).flatten (List.replicate n xs).flatten
  | 0 => rfl
  | n + 1 => by
    rw [List.replicate_succ, List.replicate_succ, List.flatten_cons, List.flatten_cons]
    exact l.append (DaL.rep l n)
theorem v2_mulL {x : D} {xs : List D} {n : Int} (hx : IsL s x xs) (h0 : n ≤ 1000) (h1 : -1000 ≤ n) (hl : xs.length ≤ 1000) (h : Φ (.lst (List.replicate n.toNat xs).flatten) s) : V2 X (binaryOp .Mult) x (.int n) s Φ := v2_of op_rep fun α H a b Q so da db k => by
  obtain ⟨p, vs, e, q, l⟩ := hx.at_ so da
  have a1 : vs.length * n.toNat ≤ 1000 * 1000 := Nat.mul_le_mul (by rw [← l.length]; exact hl) (by omega)
  exact ⟨p, n, vs, e, db, q, by omega, by omega, by rw [sizeLine_eq]; omega, fun t ht => k.newL so (l.rep n.toNat) h ht⟩
end
section
/-! tuple * n for any small n -/
theorem tuple_mul1 (l : Addr) (items : Array Value) (n : Nat) (dd : Option Addr) (sl : Array (Option Value)) (x : Int) (u : Tok) (c0 : (decide (x < -(2 ^ 63)) || decide (x ≥ 2 ^ 63)) = false) (c1 : (items.isEmpty || x == 1) = true) :
    Meets (Builtin.«tuple.__mul__» ⟨[.ref l, .int x u], []⟩) (fun _ R s => s.heap.get? l = some { cls := .type "tuple", dict := dd, data := .seq items n, slots := sl } ∧ R (.ok (.ret (Value.ref l))) s) :=
  .of_wp fun prog w A R s h => by
    obtain ⟨hp, g, d, tk, os⟩ := s
    obtain ⟨hl, h⟩ := h
    have f1 := AutoSeq1.idx_int
    wp_walk using wpAny_loadPart' hl
    repeat (first
      | (refine wpAny_ite_false (decide_eq_false (by rw [c0]; exact Bool.false_ne_true)) ?_; wp_walk using wpAny_loadPart' hl)
      | (refine wpAny_ite_true (decide_eq_true (by rw [c1])) ?_; wp_walk using wpAny_loadPart' hl))
    exact ⟨_, rfl, h⟩
theorem tuple_mul0 (l : Addr) (items : Array Value) (n : Nat) (dd : Option Addr) (sl : Array (Option Value)) (x : Int) (u : Tok) (c0 : (decide (x < -(2 ^ 63)) || decide (x ≥ 2 ^ 63)) = false) (c1 : (items.isEmpty || x == 1) = false) (c2 : (decide (x ≤ 0) || items.isEmpty) = true) :
    Meets (Builtin.«tuple.__mul__» ⟨[.ref l, .int x u], []⟩) (fun _ R s => s.heap.get? l = some { cls := .type "tuple", dict := dd, data := .seq items n, slots := sl } ∧
      R (.ok (.ret (Value.ref s.heap.objs.size))) { s with heap := s.heap.push { cls := Value.type "tuple", data := Data.seq #[] }, toks := s.toks }) :=
  .of_wp fun prog w A R s h => by
    obtain ⟨hp, g, d, tk, os⟩ := s
    obtain ⟨hl, h⟩ := h
    have f1 := AutoSeq1.idx_int
    wp_walk using wpAny_loadPart' hl
    repeat (first
      | (refine wpAny_ite_false (decide_eq_false (by rw [c0]; exact Bool.false_ne_true)) ?_; wp_walk using wpAny_loadPart' hl)
      | (refine wpAny_ite_false (decide_eq_false (by rw [c1]; exact Bool.false_ne_true)) ?_; wp_walk using wpAny_loadPart' hl)
      | (refine wpAny_ite_true (decide_eq_true (by rw [c2])) ?_; wp_walk using wpAny_loadPart' hl))
    exact ⟨_, rfl, h⟩
end
end Mp
end T_MpC

section T_MpD
set_option autoImplicit true
set_option maxRecDepth 100000
set_option maxHeartbeats 4000000
namespace Mp
open PySem PySem.Spec PyProof.Rows L2
section
variable {X : Cx} {ρ : Slo} {s : Sto} {Φ : D → Sto → Prop} {pos : Pos} {a b c e : Expr} {es : List Expr}
theorem op_repT1 {pins : List (Addr × Obj)} {sh : Shared} {σ : L2.St} {H : Hp} {l : Addr} {xs : List V} {k : Int} {t : Tok} {Q : VK} (I : Inv X pins σ H sh) (hT : SqT X.K H l xs) (h1 : -1000 ≤ k) (h2 : k ≤ 1000) (hk : xs = [] ∨ k = 1) (q : Q (.ref l) H) :
    wpAny (model X.prog X.w) X.A (binaryOp .Mult (.ref l) (.int k t)) (EP X pins σ Q) X.xe sh := by
  obtain ⟨its, r, ⟨⟨cls, dd, data, sl⟩, ho, hc, n, hd⟩, hs⟩ := I.tuple hT
  simp only at hc hd
  subst hc hd
  have c0 : (decide (k < -(2 ^ 63)) || decide (k ≥ 2 ^ 63)) = false := by
    rw [decide_eq_false (by omega), decide_eq_false (by omega)] <;> rfl
  have c1 : (its.toArray.isEmpty || k == 1) = true := by
    rcases hk with hk | hk
    · subst hk
      cases r
      rfl
    · subst hk
      simp
  exact wpAny_binaryOp_repeat_ref (T := "tuple") (U := "int") (by decide) ⟨_, ho, rfl⟩ (fun s' => typeIs_int s' k t) noFill_tuple_mul F.fills_int_mul F.slot_int_rmul repeat_tuple F.slot_int_index.lookup
    (call_meets F.slot_int_rmul (typeIs_int sh k t) F.entry_int_rmul (F.args_int_rmul_2 _ _) (int_rmul_tuple k t l its.toArray n dd sl)
      ⟨ho, rfl, ⟨_, ho, rfl⟩, call_meets F.slot_tuple_mul ⟨_, ho, rfl⟩ F.entry_tuple_mul (F.args_tuple_mul_2 _ _) (tuple_mul1 l its.toArray n dd sl k t c0 c1) ⟨ho, ⟨.ref l, H, I, rfl, q⟩⟩⟩)
theorem op_repT0 {pins : List (Addr × Obj)} {sh : Shared} {σ : L2.St} {H : Hp} {l : Addr} {xs : List V} {k : Int} {t : Tok} {Q : VK} (I : Inv X pins σ H sh) (hT : SqT X.K H l xs) (h1 : -1000 ≤ k) (h2 : k ≤ 0) (hk : xs ≠ []) (q : ∀ p, H p = none → Q (.ref p) (upd H p (.tup []))) :
    wpAny (model X.prog X.w) X.A (binaryOp .Mult (.ref l) (.int k t)) (EP X pins σ Q) X.xe sh := by
  obtain ⟨its, r, ⟨⟨cls, dd, data, sl⟩, ho, hc, n, hd⟩, hs⟩ := I.tuple hT
  simp only at hc hd
  subst hc hd
  have hi : its.toArray.isEmpty = false := by
    cases its with
    | nil => cases r; exact absurd rfl hk
    | cons a b => rfl
  have c0 : (decide (k < -(2 ^ 63)) || decide (k ≥ 2 ^ 63)) = false := by
    rw [decide_eq_false (by omega), decide_eq_false (by omega)] <;> rfl
  have c1 : (its.toArray.isEmpty || k == 1) = false := by
    rw [hi, Bool.false_or]
    exact beq_eq_false_iff_ne.mpr (by omega)
  have c2 : (decide (k ≤ 0) || its.toArray.isEmpty) = true := by rw [decide_eq_true h2]; rfl
  refine wpAny_binaryOp_repeat_ref (T := "tuple") (U := "int") (by decide) ⟨_, ho, rfl⟩ (fun s' => typeIs_int s' k t) noFill_tuple_mul F.fills_int_mul F.slot_int_rmul repeat_tuple F.slot_int_index.lookup
    (call_meets F.slot_int_rmul (typeIs_int sh k t) F.entry_int_rmul (F.args_int_rmul_2 _ _) (int_rmul_tuple k t l its.toArray n dd sl)
      ⟨ho, rfl, ⟨_, ho, rfl⟩, call_meets F.slot_tuple_mul ⟨_, ho, rfl⟩ F.entry_tuple_mul (F.args_tuple_mul_2 _ _) (tuple_mul0 l its.toArray n dd sl k t c0 c1 c2) ⟨ho, ?_⟩⟩)
  refine ⟨.ref sh.heap.objs.size, _, I.laid (t' := sh.toks) (o := .tup []) (fun b ob q => Heap.get?_push_of_some _ q) (Nat.le_refl _) ?_, rfl, q _ (I.hok.fresh (Nat.le_refl _))⟩
  exact ⟨Nat.zero_le _, [], .nil, IsTup.new _ _⟩
theorem flat_rep1 (d : D) : ∀ n : Nat, (List.replicate n [d]).flatten = List.replicate n d
  | 0 => rfl
  | n + 1 => by rw [List.replicate_succ, List.flatten_cons, flat_rep1 d n]; rfl
theorem v2_mulT {d : D} {n : Int} (h0 : -1000 ≤ n) (h1 : n ≤ 1000) (h : Φ (.tup (List.replicate n.toNat d)) s) : V2 X (binaryOp .Mult) (.tup [d]) (.int n) s Φ := by
  intro α H x y Q so da db k
  refine ⟨fun pins sh σ v u I rx ry => ?_⟩
  obtain ⟨p, vs, e, q, l⟩ := id da
  subst e
  obtain rfl : y = .int n := db
  obtain rfl : v = Value.ref p := rx
  obtain ⟨t, rfl⟩ := ry
  obtain ⟨x0, r, e0, d0, e1⟩ := id l
  cases e1
  subst e0
  by_cases c1 : n = 1
  · subst c1
    exact op_repT1 I (tupAt q) (by omega) (by omega) (.inr rfl) (k.now so (d := .tup [d]) ⟨p, [x0], rfl, q, l⟩ h)
  · by_cases c0 : n ≤ 0
    · have z : n.toNat = 0 := by omega
      rw [z] at h
      exact op_repT0 I (tupAt q) (by omega) (by omega) (by intro z; cases z) fun r hr => k.newT so (ds := []) (xs := []) rfl h hr
    · refine op_repT pins sh σ H (.ref p) (.int n) _ _ Q I rfl ⟨t, rfl⟩ ⟨p, n, [x0], rfl, rfl, tupAt q, (by intro z; cases z), by omega, by omega, Nat.le_of_lt (Nat.lt_of_lt_of_le (by show 1 < 1000; decide) (Nat.le_refl _)), fun r hr => k.newT so ?_ h hr⟩
      have z := DaL.rep l n.toNat
      rw [flat_rep1] at z
      exact z

/-! ### in, not in: flat items -/
def flD : D → Bool
  | .non => true | .int _ => true | .str _ => true | _ => false
def eqD : D → D → Bool
  | .non, .non => true
  | .int i, .int j => decide (i = j)
  | .str x, .str y => decide (x = y)
  | _, _ => false
def inD (x : D) (xs : List D) : Bool := xs.any fun y => eqD y x
theorem flD_v {K : PySem.W.Frag} {α : List Addr} {H : Hp} {d : D} {v : V} (h : Da K α H d v) (f : flD d = true) : flatV v = true := by
  cases d <;> (try (exfalso; cases f; done)) <;> (cases h; rfl)
theorem eqD_v {K : PySem.W.Frag} {α : List Addr} {H : Hp} {d e : D} {v u : V} (h : Da K α H d v) (k : Da K α H e u) (f : flD d = true) (g : flD e = true) : eqV v u = eqD d e := by
  cases d <;> (try (exfalso; cases f; done)) <;> cases e <;> (try (exfalso; cases g; done)) <;> (cases h; cases k; first
      | rfl
      | (show (_ == _) = _; exact Bool.beq_eq_decide_eq _ _))
theorem inD_v {K : PySem.W.Frag} {α : List Addr} {H : Hp} {x : D} {v : V} (h : Da K α H x v) (f : flD x = true) : ∀ {ds : List D} {xs : List V}, DaL K α H ds xs → ds.all flD = true → (xs.all flatV = true ∧ inV v xs = inD x ds)
  | [], _, l, _ => by cases l; exact ⟨rfl, rfl⟩
  | d :: ds, _, l, g => by
    obtain ⟨y, r, e, q, l⟩ := l
    subst e
    have g' : (flD d && ds.all flD) = true := g
    obtain ⟨g1, g2⟩ := Bool.and_eq_true_iff.mp g'
    obtain ⟨i1, i2⟩ := inD_v h f l g2
    refine ⟨?_, ?_⟩
    · show (flatV y && r.all flatV) = true
      rw [flD_v q g1, i1] <;> rfl
    · show (eqV y v || inV v r) = (eqD d x || inD x ds)
      rw [eqD_v q h g1 f, i2]
theorem v2_inT {x : D} {ds : List D} (f : flD x = true) (g : ds.all flD = true) (h : Φ (.bl (inD x ds)) s) : V2 X (compareOp .In) x (.tup ds) s Φ := v2_of op_in_seq fun α H a b Q so da db k => by
  obtain ⟨p, xs, e, q, l⟩ := db
  obtain ⟨i1, i2⟩ := inD_v da f l g
  refine ⟨p, xs, e, .inr (tupAt q), flD_v da f, i1, ?_⟩
  rw [if_neg Bool.false_ne_true, i2]
  exact k.nowB so h
theorem v2_inL {x y : D} {ds : List D} (hy : IsL s y ds) (f : flD x = true) (g : ds.all flD = true) (h : Φ (.bl (inD x ds)) s) : V2 X (compareOp .In) x y s Φ := v2_of op_in_seq fun α H a b Q so da db k => by
  obtain ⟨p, xs, e, q, l⟩ := hy.at_ so db
  obtain ⟨i1, i2⟩ := inD_v da f l g
  refine ⟨p, xs, e, .inl (SqL.of q), flD_v da f, i1, ?_⟩
  rw [if_neg Bool.false_ne_true, i2]
  exact k.nowB so h
theorem v2_ninT {x : D} {ds : List D} (f : flD x = true) (g : ds.all flD = true) (h : Φ (.bl (!inD x ds)) s) : V2 X (compareOp .NotIn) x (.tup ds) s Φ := v2_of op_notIn_seq fun α H a b Q so da db k => by
  obtain ⟨p, xs, e, q, l⟩ := db
  obtain ⟨i1, i2⟩ := inD_v da f l g
  refine ⟨p, xs, e, .inr (tupAt q), flD_v da f, i1, ?_⟩
  rw [if_pos rfl, i2]
  exact k.nowB so h
theorem v2_ninL {x y : D} {ds : List D} (hy : IsL s y ds) (f : flD x = true) (g : ds.all flD = true) (h : Φ (.bl (!inD x ds)) s) : V2 X (compareOp .NotIn) x y s Φ := v2_of op_notIn_seq fun α H a b Q so da db k => by
  obtain ⟨p, xs, e, q, l⟩ := hy.at_ so db
  obtain ⟨i1, i2⟩ := inD_v da f l g
  refine ⟨p, xs, e, .inl (SqL.of q), flD_v da f, i1, ?_⟩
  rw [if_pos rfl, i2]
  exact k.nowB so h

/-! ### deep data: ==, !=, in -/
mutual
def toP : D → Option PyData
  | .non => some .none
  | .bl b => some (.bool b)
  | .int i => some (.int i)
  | .str x => some (.str x)
  | .tup xs => (toPs xs).map PyData.tuple
  | .lst xs => (toPs xs).map PyData.list
  | _ => none
def toPs : List D → Option (List PyData)
  | [] => some []
  | d :: ds => match toP d, toPs ds with
    | some p, some ps => some (p :: ps)
    | _, _ => none
end
mutual
theorem dp_of {K : PySem.W.Frag} {α : List Addr} {H : Hp} : ∀ (d : D) (v : V) (p : PyData), Da K α H d v → toP d = some p → Dp K H v p
  | .non, _, _, h, e => by cases h; cases e; exact .non
  | .bl _, _, _, h, e => by cases h; cases e; exact .bl _
  | .int _, _, _, h, e => by cases h; cases e; exact .int _
  | .str _, _, _, h, e => by cases h; cases e; exact .str _
  | .ty _, _, _, h, e => by cases e
  | .adr _, _, _, h, e => by cases e
  | .ref _, _, _, h, e => by cases e
  | .fro _, _, _, h, e => by cases e
  | .ins _ _ _, _, _, h, e => by cases e
  | .tup xs, _, p, h, e => by
    obtain ⟨a, vs, e1, q, l⟩ := h
    subst e1
    obtain ⟨ps, e2, e3⟩ := Option.map_eq_some_iff.mp (show (toPs xs).map PyData.tuple = some p from e)
    subst e3
    exact .tup (tupAt q) (dps_of xs vs ps l e2)
  | .lst xs, _, p, h, e => by
    obtain ⟨a, vs, e1, n, q, l⟩ := h
    subst e1
    obtain ⟨ps, e2, e3⟩ := Option.map_eq_some_iff.mp (show (toPs xs).map PyData.list = some p from e)
    subst e3
    exact .lst (SqL.of q) (dps_of xs vs ps l e2)
theorem dps_of {K : PySem.W.Frag} {α : List Addr} {H : Hp} : ∀ (ds : List D) (vs : List V) (ps : List PyData), DaL K α H ds vs → toPs ds = some ps → DpAll K H vs ps
  | [], _, _, h, e => by cases h; cases e; exact .nil
  | d :: ds, _, ps, h, e => by
    obtain ⟨x, r, e1, q, l⟩ := h
    subst e1
    have e' : (match toP d, toPs ds with
      | some p, some ps => some (p :: ps)
      | _, _ => none) = some ps := e
    cases h1 : toP d with
    | none => rw [h1] at e'; cases e'
    | some p =>
      cases h2 : toPs ds with
      | none => rw [h1, h2] at e'; cases e'
      | some ps' =>
        rw [h1, h2] at e'
        cases e'
        exact .cons (dp_of d x p q h1) (dps_of ds r ps' l h2)
end
theorem v2_eqP {x y : D} {p q : PyData} {k : Bool} (hu : X.A.units + 64 < cLine) (hx : toP x = some p) (hy : toP y = some q) (s1 : SeqAt.shaped p = true) (s2 : SeqAt.shaped q = true) (hk : PyData.eqv p q = k) (h : Φ (.bl k) s) : V2 X (compareOp .Eq) x y s Φ :=
  v2_of (op_eqD hu) fun α H a b Q so da db kk => ⟨p, q, dp_of x a p da hx, dp_of y b q db hy, s1, s2, by rw [hk]; exact kk.nowB so h⟩
theorem v2_neP {x y : D} {p q : PyData} {k : Bool} (hu : X.A.units + 64 < cLine) (hx : toP x = some p) (hy : toP y = some q) (s1 : SeqAt.shaped p = true) (s2 : SeqAt.shaped q = true) (hk : PyData.eqv p q = k) (h : Φ (.bl (!k)) s) : V2 X (compareOp .NotEq) x y s Φ :=
  v2_of (op_neD hu) fun α H a b Q so da db kk => ⟨p, q, dp_of x a p da hx, dp_of y b q db hy, s1, s2, by rw [hk]; exact kk.nowB so h⟩
/-- a list of the store against a list -/
theorem v2_neLP {x y : D} {xs : List D} {ps : List PyData} {q : PyData} {k : Bool} (hu : X.A.units + 64 < cLine) (hx : IsL s x xs) (hp : toPs xs = some ps) (hy : toP y = some q) (s1 : SeqAt.shaped (.list ps) = true) (s2 : SeqAt.shaped q = true) (hk : PyData.eqv (.list ps) q = k) (h : Φ (.bl (!k)) s) : V2 X (compareOp .NotEq) x y s Φ :=
  v2_of (op_neD hu) fun α H a b Q so da db kk => by
    obtain ⟨p, vs, e, z, l⟩ := hx.at_ so da
    subst e
    exact ⟨.list ps, q, .lst (SqL.of z) (dps_of xs vs ps l hp), dp_of y b q db hy, s1, s2, by rw [hk]; exact kk.nowB so h⟩
theorem op_inDT (hu : X.A.units + 65 < cLine) : OpR X (compareOp .In) (fun x y H Q => ∃ d ds, Dp X.K H x d ∧ Dp X.K H y (.tuple ds) ∧ SeqAt.shaped d = true ∧ SeqAt.shaped (.tuple ds) = true ∧ Q (.bl (ds.any fun z => PyData.eqv z d)) H) := by
  intro pins s σ H x y v u Q I rx ry h
  obtain ⟨d, ds, hd, he, sd, se, q⟩ := h
  obtain ⟨as, r1⟩ := Dp.reads I d x v hd rx
  obtain ⟨bs, r2⟩ := Dp.reads I (.tuple ds) y u he ry
  exact SeqAt.in_tuple_reads r2 r1 (SeqAt.canLay_of_shaped se) (SeqAt.canLay_of_shaped sd) (room_in_shaped sd hu) ⟨.bl _, H, I, rfl, q⟩
theorem op_ninDT (hu : X.A.units + 65 < cLine) : OpR X (compareOp .NotIn) (fun x y H Q => ∃ d ds, Dp X.K H x d ∧ Dp X.K H y (.tuple ds) ∧ SeqAt.shaped d = true ∧ SeqAt.shaped (.tuple ds) = true ∧ Q (.bl (!ds.any fun z => PyData.eqv z d)) H) := by
  intro pins s σ H x y v u Q I rx ry h
  obtain ⟨d, ds, hd, he, sd, se, q⟩ := h
  obtain ⟨as, r1⟩ := Dp.reads I d x v hd rx
  obtain ⟨bs, r2⟩ := Dp.reads I (.tuple ds) y u he ry
  exact SeqAt.notIn_tuple_reads r2 r1 (SeqAt.canLay_of_shaped se) (SeqAt.canLay_of_shaped sd) (room_in_shaped sd hu) ⟨.bl _, H, I, rfl, q⟩
theorem v2_inP {x : D} {ys : List D} {p : PyData} {ps : List PyData} {k : Bool} (hu : X.A.units + 65 < cLine) (hx : toP x = some p) (hy : toPs ys = some ps) (s1 : SeqAt.shaped p = true) (s2 : SeqAt.shaped (.tuple ps) = true) (hk : (ps.any fun z => PyData.eqv z p) = k) (h : Φ (.bl k) s) : V2 X (compareOp .In) x (.tup ys) s Φ :=
  v2_of (op_inDT hu) fun α H a b Q so da db kk => ⟨p, ps, dp_of x a p da hx, dp_of (.tup ys) b _ db (by show (toPs ys).map PyData.tuple = _; rw [hy]; rfl), s1, s2, by rw [hk]; exact kk.nowB so h⟩
theorem v2_ninP {x : D} {ys : List D} {p : PyData} {ps : List PyData} {k : Bool} (hu : X.A.units + 65 < cLine) (hx : toP x = some p) (hy : toPs ys = some ps) (s1 : SeqAt.shaped p = true) (s2 : SeqAt.shaped (.tuple ps) = true) (hk : (ps.any fun z => PyData.eqv z p) = k) (h : Φ (.bl (!k)) s) : V2 X (compareOp .NotIn) x (.tup ys) s Φ :=
  v2_of (op_ninDT hu) fun α H a b Q so da db kk => ⟨p, ps, dp_of x a p da hx, dp_of (.tup ys) b _ db (by show (toPs ys).map PyData.tuple = _; rw [hy]; rfl), s1, s2, by rw [hk]; exact kk.nowB so h⟩
end
end Mp
end T_MpD

section T_MpE
set_option autoImplicit true
set_option maxRecDepth 100000
set_option maxHeartbeats 4000000
namespace Mp
open PySem PySem.Spec PyProof.Rows L2
/-! ### names in lists of names -/
def kIx {κ : Type} [DecidableEq κ] : List κ → κ → Option Nat
  | [], _ => none
  | k :: ks, f => if k = f then some 0 else (kIx ks f).map (· + 1)
theorem kIx_lookup {f : Str} : ∀ {fs : List (Str × V)} {i : Nat} {x : V}, kIx (fs.map (·.1)) f = some i → (fs.map (·.2))[i]? = some x → fs.lookup f = some x
  | [], _, _, h, _ => by cases h
  | (k, v) :: r, i, x, h, hx => by
    have h' : (if k = f then some 0 else (kIx (r.map (·.1)) f).map (· + 1)) = some i := h
    by_cases e : k = f
    · rw [if_pos e] at h'
      cases h'
      subst e
      have hx' : v = x := Option.some.inj hx
      rw [List.lookup_cons, beq_self_eq_true, hx']
    · rw [if_neg e] at h'
      obtain ⟨j, h1, h2⟩ := Option.map_eq_some_iff.mp h'
      subst h2
      have q := kIx_lookup (fs := r) h1 (show (r.map (·.2))[j]? = some x by simpa using hx)
      rw [List.lookup_cons, beq_eq_false_iff_ne.mpr (Ne.symm e)]
      exact q
theorem kIx_none {f : Str} : ∀ {fs : List (Str × V)}, kIx (fs.map (·.1)) f = none → fs.lookup f = none
  | [], _ => rfl
  | (k, v) :: r, h => by
    have h' : (if k = f then some 0 else (kIx (r.map (·.1)) f).map (· + 1)) = none := h
    by_cases e : k = f
    · rw [if_pos e] at h'
      cases h'
    · rw [if_neg e] at h'
      have q := kIx_none (fs := r) (Option.map_eq_none_iff.mp h')
      rw [List.lookup_cons, beq_eq_false_iff_ne.mpr (Ne.symm e)]
      exact q
theorem putF_at {f : Str} {v : V} : ∀ {fs : List (Str × V)} {i : Nat}, kIx (fs.map (·.1)) f = some i → (putF f v fs).map (·.1) = fs.map (·.1) ∧ (putF f v fs).map (·.2) = (fs.map (·.2)).set i v
  | [], _, h => by cases h
  | (k, x) :: r, i, h => by
    have h' : (if k = f then some 0 else (kIx (r.map (·.1)) f).map (· + 1)) = some i := h
    by_cases e : k = f
    · rw [if_pos e] at h'
      cases h'
      subst e
      have q : putF k v ((k, x) :: r) = (k, v) :: r := if_pos rfl
      rw [q]
      exact ⟨rfl, rfl⟩
    · rw [if_neg e] at h'
      obtain ⟨j, h1, h2⟩ := Option.map_eq_some_iff.mp h'
      subst h2
      obtain ⟨q1, q2⟩ := putF_at (v := v) (fs := r) h1
      have q : putF f v ((k, x) :: r) = (k, x) :: putF f v r := if_neg e
      rw [q]
      exact ⟨by rw [List.map_cons, q1]; rfl, by rw [List.map_cons, q2]; rfl⟩
theorem putF_new {f : Str} {v : V} : ∀ {fs : List (Str × V)}, kIx (fs.map (·.1)) f = none → (putF f v fs).map (·.1) = fs.map (·.1) ++ [f] ∧ (putF f v fs).map (·.2) = fs.map (·.2) ++ [v]
  | [], _ => ⟨rfl, rfl⟩
  | (k, x) :: r, h => by
    have h' : (if k = f then some 0 else (kIx (r.map (·.1)) f).map (· + 1)) = none := h
    by_cases e : k = f
    · rw [if_pos e] at h'
      cases h'
    · rw [if_neg e] at h'
      obtain ⟨q1, q2⟩ := putF_new (v := v) (fs := r) (Option.map_eq_none_iff.mp h')
      have q : putF f v ((k, x) :: r) = (k, x) :: putF f v r := if_neg e
      rw [q]
      exact ⟨by rw [List.map_cons, q1]; rfl, by rw [List.map_cons, q2]; rfl⟩
/-- an instance: one that is never changed, one of the store -/
inductive InsV (s : Sto) : D → Addr → List Str → List D → Prop where
  | ins (C : Addr) (ks : List Str) (ds : List D) : InsV s (.ins C ks ds) C ks ds
  | ref {j : Nat} {C : Addr} {ks : List Str} {ds : List D} (h : s[j]? = some (.ins C ks ds)) : InsV s (.ref j) C ks ds
theorem InsV.at_ {K : PySem.W.Frag} {α : List Addr} {H : Hp} {s : Sto} {x : D} {C : Addr} {ks : List Str} {ds : List D} {v : V} (h : InsV s x C ks ds) (so : Sok K α s H) (da : Da K α H x v) :
    ∃ a dx fs, v = .ref a ∧ H a = some (.ins C dx fs) ∧ fs.map (·.1) = ks ∧ DaL K α H ds (fs.map (·.2)) := by
  cases h with
  | ins _ _ _ =>
    obtain ⟨a, dx, fs, e, n, q, ek, l⟩ := da
    exact ⟨a, dx, fs, e, q, ek, l⟩
  | ref hc =>
    obtain ⟨a, e, q⟩ := da
    obtain ⟨dx, fs, c1, c2, c3⟩ := so.cel _ a _ e hc
    exact ⟨a, dx, fs, q, c1, c2, c3⟩
/-- the store, one object changed -/
theorem Wl.put {K : PySem.W.Frag} {α : List Addr} {H : Hp} {s : Sto} (so : Sok K α s H) {j : Nat} {p : Addr} {o : HO} {m : MO} (hj : α[j]? = some p) (c : Cel K α (upd H p o) p m) : Wl K α H [] (s.set j m) (upd H p o) := by
  have hp : p ∈ α := List.mem_of_getElem? hj
  have kp : Kp α H (upd H p o) := fun b u e n => by rw [upd_ne (fun z => n (by rw [z]; exact hp))]; exact e
  refine ⟨kp, (fun _ h => nomatch h), ?_⟩
  rw [List.append_nil]
  refine ⟨by rw [List.length_set, so.len], so.nd, fun i q mm hi hm => ?_⟩
  rw [List.getElem?_set] at hm
  by_cases hij : j = i
  · subst hij
    rw [if_pos rfl] at hm
    rw [hj] at hi
    cases hi
    split at hm
    · cases hm
      exact c
    · cases hm
  · rw [if_neg hij] at hm
    have c0 := so.cel i q mm hi hm
    have hpq : q ≠ p := fun z => by
      subst z
      have hi2 := (List.getElem?_eq_some_iff.mp hi)
      have hj2 := (List.getElem?_eq_some_iff.mp hj)
      exact hij ((List.getElem_inj so.nd).mp (hj2.2.trans hi2.2.symm))
    cases mm with
    | lst ds => obtain ⟨xs, e, l⟩ := c0; exact ⟨xs, by rw [upd_ne hpq]; exact e, l.kp kp⟩
    | dic ks ds => obtain ⟨xs, e, ek, l⟩ := c0; exact ⟨xs, by rw [upd_ne hpq]; exact e, ek, l.kp kp⟩
    | ins C ks ds => obtain ⟨dx, xs, e, ek, l⟩ := c0; exact ⟨dx, xs, by rw [upd_ne hpq]; exact e, ek, l.kp kp⟩
theorem kp_upd {α : List Addr} {H : Hp} {p : Addr} {o : HO} (hp : p ∈ α) : Kp α H (upd H p o) := fun b u e n => by rw [upd_ne (fun z => n (by rw [z]; exact hp))]; exact e

section
variable {X : Cx} {ρ : Slo} {s : Sto} {Φ : D → Sto → Prop} {pos : Pos} {a b c e : Expr} {es : List Expr} {N : En} {st : Stmt} {sts : List Stmt}
theorem em_fld (i : Nat) {f : Str} (h : EM X ρ s e fun x s1 => ∃ C ks ds d, InsV s1 x C ks ds ∧ Cls X.K C ∧ NoAttr X.K C f ∧ kIx ks f = some i ∧ ds[i]? = some d ∧ Φ d s1) (hb : attributeBase e f X.env (eval e X.env) = eval e X.env := by rfl) : EM X ρ s (.Attribute e f pos) Φ := by
  intro α σ H Q so re k
  refine toRE (pe_fld pe_sem hb) (h α σ H _ so re ?_)
  rintro γ s1 x v H1 w1 d1 ⟨C, ks, ds, d, hi, cl, na, hk, hd, q⟩
  obtain ⟨p, dx, fs, e1, e2, e3, l⟩ := hi.at_ w1.ok d1
  obtain ⟨y, h1, h2⟩ := l.get hd
  subst e3
  exact ⟨p, C, dx, fs, y, e1, e2, cl, na, kIx_lookup hk h1, (k.step so w1).now w1.ok h2 q⟩
/-! ### blocks -/
theorem sms_nil (h : N.nx ρ s) : SMs X ρ s [] N := fun α σ H E so re r => Op.mk <| fun pins sh I => wpAny_execs_nil (show SP X pins E .next sh from ⟨σ, H, I, r.nx.now so re h⟩)
theorem sms_cons (h : SM X ρ s st { N with nx := fun ρ' s' => SMs X ρ' s' sts N }) : SMs X ρ s (st :: sts) N := by
  intro α σ H E so re r
  refine toRSs (pss_cons ps_sem pss_sem) (h α σ H _ so re ⟨fun γ s' ρ' σ' H1 w1 re1 q => ?_, r.bk, r.ct, r.rt⟩)
  exact q _ σ' H1 E w1.ok re1 (r.step so w1)
theorem sms_cut (Mid : Slo → Sto → Prop) (h : SM X ρ s st { N with nx := Mid }) (h2 : ∀ ρ' s', Mid ρ' s' → SMs X ρ' s' sts N) : SMs X ρ s (st :: sts) N := by
  refine sms_cons ?_
  intro α σ H E so re r
  exact h α σ H E so re ⟨fun γ s' ρ' σ' H1 w1 re1 q => r.nx γ s' ρ' σ' H1 w1 re1 (h2 ρ' s' q), r.bk, r.ct, r.rt⟩
theorem sm_mono {N' : En} (h : SM X ρ s st N') (h1 : ∀ ρ' s', N'.nx ρ' s' → N.nx ρ' s') (h2 : ∀ d s', N'.rt d s' → N.rt d s') (h3 : ∀ ρ' s', N'.bk ρ' s' → N.bk ρ' s') (h4 : ∀ ρ' s', N'.ct ρ' s' → N.ct ρ' s') : SM X ρ s st N :=
  fun α σ H E so re r => h α σ H E so re ⟨fun γ s' ρ' σ' H1 w1 re1 q => r.nx γ s' ρ' σ' H1 w1 re1 (h1 _ _ q), fun γ s' ρ' σ' H1 w1 re1 q => r.bk γ s' ρ' σ' H1 w1 re1 (h3 _ _ q), fun γ s' ρ' σ' H1 w1 re1 q => r.ct γ s' ρ' σ' H1 w1 re1 (h4 _ _ q), fun γ s' d v H1 w1 da q => r.rt γ s' d v H1 w1 da (h2 _ _ q)⟩
theorem sm_ret (h : EM X ρ s e N.rt) : SM X ρ s (.Return (some e) pos) N := fun α σ H E so re r => toRS (ps_ret pe_sem) (h α σ H _ so re r.rt)
theorem sm_retN (h : N.rt .non s) : SM X ρ s (.Return none pos) N := fun α σ H E so re r => toRS ps_retN (r.rt.nowN so h)
theorem sm_expr (h : EM X ρ s e fun _ s1 => N.nx ρ s1) (hs : swapsWith e none pos.line X.env = pure false := by rfl) : SM X ρ s (.Expr e pos) N := fun α σ H E so re r =>
  toRS (ps_expr pe_sem hs) (h α σ H _ so re fun γ s1 d v H1 w1 da q => r.nx γ s1 ρ σ H1 w1 (w1.re re) q)
theorem sm_if {as bs : List Stmt} (h : TM X ρ s c fun k s1 => Bif k (SMs X ρ s1 as N) (SMs X ρ s1 bs N)) : SM X ρ s (.If c as bs pos) N := by
  intro α σ H E so re r
  refine toRS (ps_if pt_sem pss_sem pss_sem) (h α σ H _ so re fun γ s1 k H1 w1 q => bif_ite ⟨fun z => ?_, fun z => ?_⟩)
  · exact q.1 z _ σ H1 E w1.ok (w1.re re) (r.step so w1)
  · exact q.2 z _ σ H1 E w1.ok (w1.re re) (r.step so w1)
theorem sm_pass (h : N.nx ρ s) : SM X ρ s (.Pass pos) N := fun α σ H E so re r => toRS ps_pass (r.nx.now so re h)
/-! ### targets -/
def RG (X : Cx) (σ : L2.St) (H : Hp) (tg : Expr) (v : V) (Q : L2.St → Hp → Prop) : Prop := Op (∀ (pins : List (Addr × Obj)) (s : Shared) (u : Value), Inv X pins σ H s → RelV v u → wpAny (model X.prog X.w) X.A (assign tg X.env u) (fun _ s' => ∃ σ' H', Inv X pins σ' H' s' ∧ Q σ' H') X.xe s)
def RGs (X : Cx) (σ : L2.St) (H : Hp) (ts : List Expr) (vs : List V) (Q : L2.St → Hp → Prop) : Prop := Op (∀ (pins : List (Addr × Obj)) (s : Shared) (us : List Value), Inv X pins σ H s → Vals vs us →
  wpAny (model X.prog X.w) X.A (assignInOrder ((assignEach ts X.env).map (·.2)) us) (fun _ s' => ∃ σ' H', Inv X pins σ' H' s' ∧ Q σ' H') X.xe s)
theorem pg_sem {tg : Expr} : PG X tg fun v σ H Q => RG X σ H tg v Q := ⟨fun pins s _ _ _ u _ I r h => h.go pins s u I r⟩
theorem pgs_sem {ts : List Expr} : PGs X ts fun vs σ H Q => RGs X σ H ts vs Q := ⟨fun pins s _ _ _ us _ I r h => h.go pins s us I r⟩
def GM (X : Cx) (ρ : Slo) (s : Sto) (tg : Expr) (d : D) (Φ : Slo → Sto → Prop) : Prop := ∀ (α : List Addr) (σ : L2.St) (H : Hp) (v : V) (Q : L2.St → Hp → Prop), Sok X.K α s H → Re X.K α H σ ρ → Da X.K α H d v → KN X.K α H Φ Q → RG X σ H tg v Q
def GMs (X : Cx) (ρ : Slo) (s : Sto) (ts : List Expr) (ds : List D) (Φ : Slo → Sto → Prop) : Prop := ∀ (α : List Addr) (σ : L2.St) (H : Hp) (vs : List V) (Q : L2.St → Hp → Prop), Sok X.K α s H → Re X.K α H σ ρ → DaL X.K α H ds vs → KN X.K α H Φ Q → RGs X σ H ts vs Q
theorem gm_name (i : Nat) {x : Str} {d : D} {Φ : Slo → Sto → Prop} (hN : X.N.Nodup) (h : Φ (ρ.set i (some d)) s) (hi : X.N[i]? = some x := by rfl) (hx : L2.Loc X.env.scope x := by first | exact Or.inl rfl | exact Or.inr rfl) (hf : X.fn x = true ∨ X.env.scope.names.lookup x = some .local := by first | exact .inl rfl | exact .inr rfl) : GM X ρ s (.Name x pos) d Φ :=
  fun α σ H v Q so re da k => Op.mk <| fun pins sh u I r => (pg_name hN hi hx hf).run pins sh σ H v u Q I r (k.now so (re.set i da) h)
theorem gms_nil {Φ : Slo → Sto → Prop} (h : Φ ρ s) : GMs X ρ s [] [] Φ := fun α σ H vs Q so re dl k => Op.mk <| fun pins sh us I r => pgs_nil.run pins sh σ H vs us Q I r ⟨dl, k.now so re h⟩
theorem gms_cons {d : D} {ds : List D} {Φ : Slo → Sto → Prop} (h : GM X ρ s e d fun ρ1 s1 => GMs X ρ1 s1 es ds Φ) (hs : (assignEach (e :: es) X.env).map (·.2) = assign e X.env :: (assignEach es X.env).map (·.2) := by rfl) : GMs X ρ s (e :: es) (d :: ds) Φ :=
  fun α σ H vs Q so re dl k => Op.mk <| fun pins sh us I r => by
    obtain ⟨x, rr, e1, d1, d2⟩ := dl
    subst e1
    exact (pgs_cons pg_sem pgs_sem hs).run pins sh σ H _ us Q I r ⟨x, rr, rfl, h α σ H x _ so re d1 fun γ s1 ρ1 σ1 H1 w1 re1 q => q _ σ1 H1 rr Q w1.ok re1 (w1.dal d2) (k.step so w1)⟩
theorem gm_tup {k n : Nat} {ds : List D} {Φ : Slo → Sto → Prop} (h : GMs X ρ s es ds Φ) (hl : ds.length = n) (hc : X.calm = true := by rfl) (hn : (assignEach es X.env).length = n := by rfl) (hst : (assignEach es X.env).findIdx? (·.1) = none := by rfl) : GM X ρ s (.Tuple es k pos) (.tup ds) Φ :=
  fun α σ H v Q so re da kk => Op.mk <| fun pins sh u I r => by
    obtain ⟨p, xs, e1, q, l⟩ := da
    exact (pg_tup hc pgs_sem hn hst).run pins sh σ H v u Q I r ⟨p, xs, e1, tupAt q, by rw [← l.length, hl], h α σ H xs Q so re l kk⟩
theorem sm_asg {tg : Expr} (h : EM X ρ s e fun d s1 => GM X ρ s1 tg d N.nx) (hs : swapsWithSole [tg] e pos.line X.env = pure false := by rfl) (hw : swappedStores [tg] e X.env = pure none := by rfl) (h1 : (assignEach [tg] X.env).map (·.2) = [assign tg X.env] := by rfl) : SM X ρ s (.Assign [tg] e pos) N :=
  fun α σ H E so re r => toRS (ps_asg pe_sem pg_sem hs hw h1) (h α σ H _ so re fun γ s1 d v H1 w1 da q => q _ σ H1 v E.nx w1.ok (w1.re re) da (r.nx.step so w1))
theorem sm_set (i : Nat) {x : Str} {px : Pos} (hN : X.N.Nodup) (h : EM X ρ s e fun d s1 => N.nx (ρ.set i (some d)) s1) (hi : X.N[i]? = some x := by rfl) (hx : L2.Loc X.env.scope x := by first | exact Or.inl rfl | exact Or.inr rfl) (hs : swapsWith e (some (.Name x px)) pos.line X.env = pure false := by rfl)
    (hf : X.fn x = true ∨ X.env.scope.names.lookup x = some .local := by first | exact .inl rfl | exact .inr rfl) : SM X ρ s (.Assign [.Name x px] e pos) N :=
  fun α σ H E so re r => toRS (ps_set hN hi hx pe_sem hs hf) (h α σ H _ so re fun γ s1 d v H1 w1 da q => r.nx γ s1 _ _ H1 w1 ((w1.re re).set i da) q)
/-- a, b = x, y | a, b, c = x, y, z: names -/
theorem sm_par (i j : Nat) {x y : Str} {px py pt : Pos} {kt k2 pt2} (hN : X.N.Nodup) (h : AM X ρ s [a, b] fun ds s1 => ∃ d f, ds = [d, f] ∧ N.nx ((ρ.set i (some d)).set j (some f)) s1) (hij : i ≠ j) (hw : swappedStores [.Tuple [.Name x px, .Name y py] kt pt] (.Tuple [a, b] k2 pt2) X.env = pure (some [x, y]))
    (hc : X.calm = true := by rfl) (hi : X.N[i]? = some x := by rfl) (hj : X.N[j]? = some y := by rfl) (hx : X.env.scope.names.lookup x = some .local := by rfl) (hy : X.env.scope.names.lookup y = some .local := by rfl)
    (hs : swapsWithSole [.Tuple [.Name x px, .Name y py] kt pt] (.Tuple [a, b] k2 pt2) pos.line X.env = pure false := by rfl) : SM X ρ s (.Assign [.Tuple [.Name x px, .Name y py] kt pt] (.Tuple [a, b] k2 pt2) pos) N :=
  fun α σ H E so re r => toRS (ps_par hc hN hi hj hij hx hy pa_sem hw hs) (h α σ H _ so re (by
    rintro γ s1 ds vs H1 w1 dl ⟨d, f, rfl, q⟩
    obtain ⟨v, r1, rfl, d1, u, r2, rfl, d2, rfl⟩ := dl
    exact ⟨v, u, rfl, r.nx γ s1 _ _ H1 w1 (((w1.re re).set i d1).set j d2) q⟩))
/-! ### stores -/
theorem sm_setL {o i : Expr} (h : EM X ρ s e fun d s1 => EM X ρ s1 o fun x s2 => EM X ρ s2 i fun y s3 => ∃ j ds z n, x = .ref j ∧ s3[j]? = some (.lst ds) ∧ y = .int z ∧ ixN ds.length z = some n ∧ N.nx ρ (s3.set j (.lst (ds.set n d)))) {pos' : Pos}
    (ha : ∀ v, assign (.Subscript o i pos') X.env v = (do
      let ov ← holding [v] (eval o X.env)
      let iv ← holding [v, ov] (eval i X.env)
      standAt pos'
      holding [v, ov, iv] (setItem ov iv v)
      release [v, ov, iv] []) := by intro _; rfl) (hs : swapsWithSole [.Subscript o i pos'] e pos.line X.env = pure false := by rfl) (hw : swappedStores [.Subscript o i pos'] e X.env = pure none := by rfl) (h1 : (assignEach [.Subscript o i pos'] X.env).map (·.2) = [assign (.Subscript o i pos') X.env] := by rfl) :
    SM X ρ s (.Assign [.Subscript o i pos'] e pos) N := by
  intro α σ H E so re r
  refine toRS (ps_asg pe_sem (pg_sub pe_sem pe_sem set_list ha) hs hw h1) (h α σ H _ so re fun γ s1 d v H1 w1 d1 h1 => ?_)
  refine h1 _ σ H1 _ w1.ok (w1.re re) fun δ s2 x u H2 w2 d2 h2 => ?_
  refine h2 _ σ H2 _ w2.ok (w2.re (w1.re re)) ?_
  rintro ε s3 y t H3 w3 d3 ⟨j, ds, z, n, rfl, hc, rfl, hn, q⟩
  obtain ⟨p, e1, e2⟩ := w3.da d2
  obtain ⟨xs, c1, c2⟩ := w3.ok.cel j p _ e1 hc
  refine ⟨p, xs, z, n, e2, d3, c1, by rw [← c2.length]; exact hn, ?_⟩
  have hp : p ∈ ((α ++ γ) ++ δ) ++ ε := List.mem_of_getElem? e1
  have r3 := ((r.step so w1).step w1.ok w2).step w2.ok w3
  refine r3.nx [] _ ρ σ _ (Wl.put w3.ok e1 (m := .lst (ds.set n d)) ⟨_, upd_same, (c2.set n (w3.da (w2.da d1))).kp (kp_upd hp)⟩) ?_ q
  rw [List.append_nil]
  have z1 := w3.re (w2.re (w1.re re))
  exact ⟨z1.len, fun i d e => let ⟨v, h, q⟩ := z1.at_ i d e; ⟨v, h, q.kp (kp_upd hp)⟩⟩
theorem kIx_valV {k : Key} : ∀ {kvs : List (Key × V)} {i : Nat} {x : V}, kIx (kvs.map (·.1)) k = some i → (kvs.map (·.2))[i]? = some x → valV kvs k = some x
  | [], _, _, h, _ => by cases h
  | (c, v) :: r, i, x, h, hx => by
    have h' : (if c = k then some 0 else (kIx (r.map (·.1)) k).map (· + 1)) = some i := h
    unfold valV
    rw [List.find?_cons]
    by_cases e : c = k
    · rw [if_pos e] at h'
      cases h'
      have hx' : v = x := Option.some.inj hx
      rw [decide_eq_true e, hx']
      rfl
    · rw [if_neg e] at h'
      obtain ⟨j, h1, h2⟩ := Option.map_eq_some_iff.mp h'
      subst h2
      rw [decide_eq_false e]
      exact kIx_valV (kvs := r) h1 (show (r.map (·.2))[j]? = some x by simpa using hx)
theorem kIx_valN {k : Key} : ∀ {kvs : List (Key × V)}, kIx (kvs.map (·.1)) k = none → valV kvs k = none
  | [], _ => rfl
  | (c, v) :: r, h => by
    have h' : (if c = k then some 0 else (kIx (r.map (·.1)) k).map (· + 1)) = none := h
    unfold valV
    rw [List.find?_cons]
    by_cases e : c = k
    · rw [if_pos e] at h'
      cases h'
    · rw [if_neg e] at h'
      rw [decide_eq_false e]
      exact kIx_valN (kvs := r) (Option.map_eq_none_iff.mp h')
end
end Mp
end T_MpE

section T_MpF
set_option autoImplicit true
set_option maxRecDepth 100000
set_option maxHeartbeats 4000000
namespace Mp
open PySem PySem.Spec PyProof.Rows L2
theorem putK_at {k : Key} {v : V} : ∀ {kvs : List (Key × V)} {i : Nat}, (kvs.map (·.1)).Nodup → kIx (kvs.map (·.1)) k = some i → (kvs.map fun kv => if kv.1 = k then (kv.1, v) else kv).map (·.1) = kvs.map (·.1) ∧ (kvs.map fun kv => if kv.1 = k then (kv.1, v) else kv).map (·.2) = (kvs.map (·.2)).set i v
  | [], _, _, h => by cases h
  | (c, x) :: r, i, nd, h => by
    have h' : (if c = k then some 0 else (kIx (r.map (·.1)) k).map (· + 1)) = some i := h
    obtain ⟨n1, n2⟩ := List.nodup_cons.mp (show (c :: r.map (·.1)).Nodup from nd)
    by_cases e : c = k
    · rw [if_pos e] at h'
      cases h'
      have q : r.map (fun kv => if kv.1 = k then (kv.1, v) else kv) = r := by
        refine (List.map_congr_left fun kv hkv => ?_).trans (List.map_id r)
        exact if_neg fun z => n1 (by rw [e, ← z]; exact List.mem_map_of_mem hkv)
      rw [List.map_cons, q]
      have e1 : (if ((c, x) : Key × V).1 = k then (((c, x) : Key × V).1, v) else (c, x)) = (c, v) := if_pos e
      rw [e1]
      exact ⟨rfl, rfl⟩
    · rw [if_neg e] at h'
      obtain ⟨j, h1, h2⟩ := Option.map_eq_some_iff.mp h'
      subst h2
      obtain ⟨q1, q2⟩ := putK_at (v := v) (kvs := r) n2 h1
      rw [List.map_cons]
      have e1 : (if ((c, x) : Key × V).1 = k then (((c, x) : Key × V).1, v) else (c, x)) = (c, x) := if_neg e
      rw [e1]
      exact ⟨by rw [List.map_cons, q1]; rfl, by rw [List.map_cons, q2]; rfl⟩
theorem putK_old {k : Key} {v : V} {kvs : List (Key × V)} {i : Nat} (nd : (kvs.map (·.1)).Nodup) (h : kIx (kvs.map (·.1)) k = some i) (hl : i < kvs.length) : (putK kvs k v).map (·.1) = kvs.map (·.1) ∧ (putK kvs k v).map (·.2) = (kvs.map (·.2)).set i v := by
  have hs : (kvs.any fun kv => decide (kv.1 = k)) = true := by
    rw [valV_any, kIx_valV h (x := (kvs.map (·.2))[i]'(by rw [List.length_map]; exact hl)) (List.getElem?_eq_getElem _)]
    rfl
  unfold putK
  rw [if_pos hs]
  exact putK_at nd h
section
variable {X : Cx} {ρ : Slo} {s : Sto} {Φ : D → Sto → Prop} {pos : Pos} {a b c e o i : Expr} {es : List Expr} {N : En} {st : Stmt} {sts : List Stmt}
/-- the slots behind a change of the store -/
theorem Re.upd {K : PySem.W.Frag} {α : List Addr} {H : Hp} {σ : L2.St} {p : Addr} {u : HO} (r : Re K α H σ ρ) (hp : p ∈ α) : Re K (α ++ []) (L2.upd H p u) σ ρ := by
  rw [List.append_nil]
  exact ⟨r.len, fun i d e => let ⟨v, h, q⟩ := r.at_ i d e; ⟨v, h, q.kp (kp_upd hp)⟩⟩
def kD : Key → D
  | .inl i => .int i
  | .inr x => .str x
theorem kD_v {K : PySem.W.Frag} {α : List Addr} {H : Hp} {k : Key} {v : V} (h : Da K α H (kD k) v) : v = kV k := by
  cases k <;> exact h
/-- d[k] -/
theorem em_dget (hu : X.A.units + 1 < cLine) (h : EM X ρ s a fun x s1 => EM X ρ s1 b fun y s2 => ∃ j ks ds k n d, x = .ref j ∧ s2[j]? = some (.dic ks ds) ∧ y = kD k ∧ kIx ks k = some n ∧ ds[n]? = some d ∧ Φ d s2) (hs : NoSl b := by intro _ _; rfl) : EM X ρ s (.Subscript a b pos) Φ := by
  intro α σ H Q so re kk
  refine toRE (pe_dget hu pe_sem pe_sem hs) (h α σ H _ so re fun γ s1 x v H1 w1 d1 h1 => ?_)
  refine h1 _ σ H1 _ w1.ok (w1.re re) ?_
  rintro δ s2 y u H2 w2 d2 ⟨j, ks, ds, k, n, d, rfl, hc, rfl, hk, hd, q⟩
  obtain ⟨p, e1, e2⟩ := w2.da d1
  obtain ⟨kvs, c1, c2, c3⟩ := w2.ok.cel j p _ e1 hc
  subst c2
  obtain ⟨x0, h3, h4⟩ := c3.get hd
  have g := DGet.k (k := k) c1
  rw [kIx_valV hk h3] at g
  exact ⟨p, x0, e2, by rw [kD_v d2]; exact g, ((kk.step so w1).step w1.ok w2).now w2.ok h4 q⟩
/-- k in d, k not in d -/
theorem tm_din (hu : X.A.units + 1 < cLine) {Ψ : Bool → Sto → Prop} (h : EM X ρ s a fun y s1 => EM X ρ s1 b fun x s2 => ∃ j ks ds k, x = .ref j ∧ s2[j]? = some (.dic ks ds) ∧ y = kD k ∧ ks.length = ds.length ∧ Ψ (kIx ks k).isSome s2) (hm : behindInMarks .In b = false := by rfl) : TM X ρ s (.Compare a [.In] [b] pos) Ψ := by
  intro α σ H Q so re kk
  refine toRT (pt_cmp (pc_din hu pe_sem pe_sem) hm) (h α σ H _ so re fun γ s1 y u H1 w1 d1 h1 => ?_)
  refine h1 _ σ H1 _ w1.ok (w1.re re) ?_
  rintro δ s2 x v H2 w2 d2 ⟨j, ks, ds, k, rfl, hc, rfl, hl, q⟩
  obtain ⟨p, e1, e2⟩ := d2
  obtain ⟨kvs, c1, c2, c3⟩ := w2.ok.cel j p _ e1 hc
  subst c2
  refine ⟨p, valV kvs k, e2, by rw [kD_v d1]; exact DGet.k c1, _, rfl, ?_⟩
  have ez : (valV kvs k).isSome = (kIx (kvs.map (·.1)) k).isSome := by
    cases hk : kIx (kvs.map (·.1)) k with
    | none => rw [kIx_valN hk]; rfl
    | some n =>
      have hn : n < (kvs.map (·.2)).length := by
        have := kIx_lt hk
        simpa using this
      rw [kIx_valV hk (List.getElem?_eq_getElem hn)]
      rfl
  rw [ez]
  exact ((kk.step so w1).step w1.ok w2).now w2.ok q
where
  kIx_lt {κ : Type} [DecidableEq κ] {f : κ} : ∀ {ks : List κ} {i : Nat}, kIx ks f = some i → i < ks.length
  | [], _, h => by cases h
  | k :: ks, i, h => by
    have h' : (if k = f then some 0 else (kIx ks f).map (· + 1)) = some i := h
    by_cases e : k = f
    · rw [if_pos e] at h'
      cases h'
      exact Nat.zero_lt_succ _
    · rw [if_neg e] at h'
      obtain ⟨j, h1, h2⟩ := Option.map_eq_some_iff.mp h'
      subst h2
      exact Nat.succ_lt_succ (kIx_lt (ks := ks) h1)
/-- d[k] = e -/
theorem sm_setD {pos' : Pos} (hu : X.A.units + 1 < cLine) (h : EM X ρ s e fun d s1 => EM X ρ s1 o fun x s2 => EM X ρ s2 i fun y s3 => ∃ j ks ds k, x = .ref j ∧ s3[j]? = some (.dic ks ds) ∧ y = kD k ∧ ks.length ≤ 1000 ∧
      ((∃ n, ks.Nodup ∧ kIx ks k = some n ∧ N.nx ρ (s3.set j (.dic ks (ds.set n d)))) ∨ (kIx ks k = none ∧ N.nx ρ (s3.set j (.dic (ks ++ [k]) (ds ++ [d]))))))
    (hs : swapsWith e (some (.Subscript o i pos')) pos.line X.env = pure false := by rfl) : SM X ρ s (.Assign [.Subscript o i pos'] e pos) N := by
  intro α σ H E so re r
  refine toRS (ps_dput hu pe_sem pe_sem pe_sem hs) (h α σ H _ so re fun γ s1 d v H1 w1 d1 h1 => ?_)
  refine h1 _ σ H1 _ w1.ok (w1.re re) fun δ s2 x u H2 w2 d2 h2 => ?_
  refine h2 _ σ H2 _ w2.ok (w2.re (w1.re re)) ?_
  rintro ε s3 y t H3 w3 d3 ⟨j, ks, ds, k, rfl, hc, rfl, hl, q⟩
  obtain ⟨p, e1, e2⟩ := w3.da d2
  obtain ⟨kvs, c1, c2, c3⟩ := w3.ok.cel j p _ e1 hc
  subst c2
  have hp : p ∈ ((α ++ γ) ++ δ) ++ ε := List.mem_of_getElem? e1
  have r3 := ((r.step so w1).step w1.ok w2).step w2.ok w3
  have dv := w3.da (w2.da d1)
  refine ⟨p, upd H3 p (.dK (putK kvs k v)), e2, by rw [kD_v d3]; exact DPut.k c1 (by rw [List.length_map] at hl; exact Nat.lt_of_le_of_lt hl (by decide)), ?_⟩
  rcases q with ⟨n, nd, hk, q⟩ | ⟨hk, q⟩
  · have hn : n < kvs.length := by
      have := tm_din.kIx_lt hk
      rw [List.length_map] at this
      exact this
    obtain ⟨p1, p2⟩ := putK_old (v := v) nd hk hn
    exact r3.nx [] _ ρ σ _ (Wl.put w3.ok e1 (m := .dic (kvs.map (·.1)) (ds.set n d)) ⟨_, upd_same, p1, by rw [p2]; exact (c3.set n dv).kp (kp_upd hp)⟩) ((w3.re (w2.re (w1.re re))).upd hp) q
  · have p1 := putK_new v (kIx_valN hk)
    exact r3.nx [] _ ρ σ _ (Wl.put w3.ok e1 (m := .dic (kvs.map (·.1) ++ [k]) (ds ++ [d])) ⟨_, upd_same, by rw [p1, List.map_append]; rfl, by rw [p1, List.map_append]; exact (c3.append (DaL.one dv)).kp (kp_upd hp)⟩) ((w3.re (w2.re (w1.re re))).upd hp) q
/-- o.f = e, o an instance of the store -/
theorem sm_setF {f : Str} {pos' : Pos} (h : EM X ρ s e fun d s1 => EM X ρ s1 o fun x s2 => ∃ j C ks ds, x = .ref j ∧ s2[j]? = some (.ins C ks ds) ∧ Cls X.K C ∧ NoAttr X.K C f ∧ ks.length < 1000 ∧
      ((∃ n, kIx ks f = some n ∧ N.nx ρ (s2.set j (.ins C ks (ds.set n d)))) ∨ (kIx ks f = none ∧ N.nx ρ (s2.set j (.ins C (ks ++ [f]) (ds ++ [d]))))))
    (hs : swapsWith e (some (.Attribute o f pos')) pos.line X.env = pure false := by rfl) : SM X ρ s (.Assign [.Attribute o f pos'] e pos) N := by
  intro α σ H E so re r
  refine toRS (ps_fld pe_sem pe_sem hs) (h α σ H _ so re fun γ s1 d v H1 w1 d1 h1 => ?_)
  refine h1 _ σ H1 _ w1.ok (w1.re re) ?_
  rintro δ s2 x u H2 w2 d2 ⟨j, C, ks, ds, rfl, hc, cl, na, hl, q⟩
  obtain ⟨p, e1, e2⟩ := d2
  obtain ⟨dx, fs, c1, c2, c3⟩ := w2.ok.cel j p _ e1 hc
  subst c2
  have hp : p ∈ (α ++ γ) ++ δ := List.mem_of_getElem? e1
  have r2 := (r.step so w1).step w1.ok w2
  have dv := w2.da d1
  refine ⟨p, C, dx, fs, e2, c1, cl, na, by rw [List.length_map] at hl; exact hl, ?_⟩
  rcases q with ⟨n, hk, q⟩ | ⟨hk, q⟩
  · obtain ⟨p1, p2⟩ := putF_at (v := v) hk
    exact r2.nx [] _ ρ σ _ (Wl.put w2.ok e1 (m := .ins C (fs.map (·.1)) (ds.set n d)) ⟨_, _, upd_same, p1, by rw [p2]; exact (c3.set n dv).kp (kp_upd hp)⟩) ((w2.re (w1.re re)).upd hp) q
  · obtain ⟨p1, p2⟩ := putF_new (v := v) hk
    exact r2.nx [] _ ρ σ _ (Wl.put w2.ok e1 (m := .ins C (fs.map (·.1) ++ [f]) (ds ++ [d])) ⟨_, _, upd_same, p1, by rw [p2]; exact (c3.append (DaL.one dv)).kp (kp_upd hp)⟩) ((w2.re (w1.re re)).upd hp) q
/-! ### loops -/
theorem sqT_kp {K : PySem.W.Frag} {α : List Addr} {H H1 : Hp} {p : Addr} {xs : List V} (k : Kp α H H1) (q : (Rd H p (.tup xs) ∧ p ∉ α) ∨ WrT K p xs) : SqT K H1 p xs := by
  rcases q with ⟨q, n⟩ | q
  · exact .inl (rd_kp k n q)
  · exact .inr q
/-- what a for's turn asks: the target, the body -/
def TurnM (X : Cx) (tg : Expr) (body : List Stmt) (N : En) (I : Slo → Sto → Prop) (d : D) (ρ : Slo) (s : Sto) : Prop := GM X ρ s tg d fun ρ2 s2 => SMs X ρ2 s2 body { N with nx := I, ct := I, bk := N.nx }
/-- one turn, over the machine -/
theorem turn_run {tg : Expr} {body : List Stmt} {α γ : List Addr} {s s1 : Sto} {H H1 : Hp} {σ1 : L2.St} {E : Ends} {I : Slo → Sto → Prop} {P : L2.St → Hp → Prop} {d : D} {v : V} {ρ1 : Slo} (so : Sok X.K α s H) (r : EnR X.K α H N E) (w : Wl X.K α H γ s1 H1) (re : Re X.K (α ++ γ) H1 σ1 ρ1) (da : Da X.K (α ++ γ) H1 d v)
    (h : TurnM X tg body N I d ρ1 s1) (hI : ∀ γ s' ρ' σ' H', Wl X.K α H γ s' H' → Re X.K (α ++ γ) H' σ' ρ' → I ρ' s' → P σ' H') : RG X σ1 H1 tg v fun σ2 H2 => RSs X σ2 H2 body { E with nx := P, ct := P, bk := E.nx } := by
  refine h _ σ1 H1 v _ w.ok re da fun δ s2 ρ2 σ2 H2 w2 re2 q => ?_
  have wt := w.trans so w2
  have re2' : Re X.K (α ++ (γ ++ δ)) H2 σ2 ρ2 := by rw [← List.append_assoc]; exact re2
  refine q _ σ2 H2 _ wt.ok re2' ⟨?_, ?_, ?_, (r.step so wt).rt⟩
  · exact fun ε s3 ρ3 σ3 H3 w3 re3 qq => hI _ s3 ρ3 σ3 H3 (wt.trans so w3) (by rw [← List.append_assoc]; exact re3) qq
  · exact (r.step so wt).nx
  · exact fun ε s3 ρ3 σ3 H3 w3 re3 qq => hI _ s3 ρ3 σ3 H3 (wt.trans so w3) (by rw [← List.append_assoc]; exact re3) qq
section
variable {tg iter : Expr} {body : List Stmt}
/-- for over a tuple -/
theorem sm_forT (h : EM X ρ s iter fun d s1 => ∃ ds, d = .tup ds ∧ ∃ I : Nat → Slo → Sto → Prop, I 0 ρ s1 ∧ (∀ (i : Nat) (x : D) (ρ' : Slo) (s' : Sto), ds[i]? = some x → I i ρ' s' → TurnM X tg body N (I (i + 1)) x ρ' s') ∧ ∀ ρ' s', I ds.length ρ' s' → N.nx ρ' s')
    (hp : PassesOwn (model X.prog X.w) X.A X.env X.xe := by exact PassesOwn.never) (hc : X.calm = true := by rfl) (hfs : ∀ x, foldedSetIterable iter X.env x = pure x := by intro _; rfl) : SM X ρ s (.For tg iter body [] pos) N := by
  intro α σ H E so re r
  refine toRS (ps_for hp hc (pi_tup pe_sem) pg_sem pss_sem hfs) (h α σ H _ so re ?_)
  rintro γ0 s0 d v H0 w0 d0 ⟨ds, rfl, I, i0, hs, hd⟩
  obtain ⟨p, xs, e1, q, l⟩ := d0
  have r0 := r.step so w0
  refine ⟨p, e1, ⟨xs, tupAt q⟩, for_tup (K := X.K) (a := p) (xs := xs) (g := fun v σ H Q => RG X σ H tg v Q) (tb := fun E σ H => RSs X σ H body E) (D := E) (fun i σ' H' => ∃ γ s' ρ', Wl X.K (α ++ γ0) H0 γ s' H' ∧ Re X.K ((α ++ γ0) ++ γ) H' σ' ρ' ∧ I i ρ' s')
    ⟨[], s0, ρ, Wl.refl w0.ok, by rw [List.append_nil]; exact w0.re re, i0⟩ ?_ ?_ ?_⟩
  · rintro i σ' H' _ ⟨γ, s', ρ', w, _, _⟩
    exact sqT_kp w.kp q
  · rintro i x σ' H' hx ⟨γ, s', ρ', w, re', hi⟩
    have hlt : i < ds.length := by rw [l.length]; exact (List.getElem?_eq_some_iff.mp hx).1
    obtain ⟨y, h1, h2⟩ := l.get (List.getElem?_eq_getElem hlt)
    rw [hx] at h1
    cases h1
    exact turn_run w0.ok r0 w re' (w.da h2) (hs i _ ρ' s' (List.getElem?_eq_getElem hlt) hi) fun γ s'' ρ'' σ'' H'' w'' re'' q => ⟨γ, s'', ρ'', w'', re'', q⟩
  · rintro σ' H' ⟨γ, s', ρ', w, re', hi⟩
    rw [← l.length] at hi
    exact r0.nx γ s' ρ' σ' H' w re' (hd ρ' s' hi)
/-- for over a list that the body leaves as it is -/
theorem sm_forL (h : EM X ρ s iter fun d s1 => ∃ ds, IsL s1 d ds ∧ ∃ I : Nat → Slo → Sto → Prop, I 0 ρ s1 ∧ (∀ (i : Nat) (x : D) (ρ' : Slo) (s' : Sto), ds[i]? = some x → I i ρ' s' → IsL s' d ds ∧ TurnM X tg body N (I (i + 1)) x ρ' s') ∧ ∀ ρ' s', I ds.length ρ' s' → IsL s' d ds ∧ N.nx ρ' s')
    (hp : PassesOwn (model X.prog X.w) X.A X.env X.xe := by exact PassesOwn.never) (hc : X.calm = true := by rfl) (hfs : ∀ x, foldedSetIterable iter X.env x = pure x := by intro _; rfl) : SM X ρ s (.For tg iter body [] pos) N := by
  intro α σ H E so re r
  refine toRS (ps_for hp hc (pi_list pe_sem) pg_sem pss_sem hfs) (h α σ H _ so re ?_)
  rintro γ0 s0 d v H0 w0 d0 ⟨ds, isl, I, i0, hs, hd⟩
  obtain ⟨p, xs, e1, q, l⟩ := isl.at_ w0.ok d0
  have r0 := r.step so w0
  have lists : ∀ (i : Nat) (γ : List Addr) (s' : Sto) (ρ' : Slo) (H' : Hp), i ≤ ds.length → Wl X.K (α ++ γ0) H0 γ s' H' → I i ρ' s' → ∃ ys, H' p = some (.lst ys) ∧ DaL X.K ((α ++ γ0) ++ γ) H' ds ys := fun i γ s' ρ' H' hi w hI => by
    have isl' : IsL s' d ds := by
      by_cases hlt : i < ds.length
      · exact (hs i _ ρ' s' (List.getElem?_eq_getElem hlt) hI).1
      · have : i = ds.length := by omega
        subst this
        exact (hd ρ' s' hI).1
    obtain ⟨p', ys, f1, f2, f3⟩ := isl'.at_ w.ok (w.da d0)
    rw [e1] at f1
    cases f1
    exact ⟨ys, f2, f3⟩
  refine ⟨p, e1, ⟨xs, SqL.of q⟩, ?_⟩
  refine ⟨fun i m σ' H' => m = ds.length - i ∧ i ≤ ds.length ∧ ∃ γ s' ρ', Wl X.K (α ++ γ0) H0 γ s' H' ∧ Re X.K ((α ++ γ0) ++ γ) H' σ' ρ' ∧ I i ρ' s', ⟨ds.length, by simp, Nat.zero_le _, [], s0, ρ, Wl.refl w0.ok, by rw [List.append_nil]; exact w0.re re, i0⟩, ?_⟩
  rintro i m σ' H' ⟨rfl, hi, γ, s', ρ', w, re', hI⟩
  obtain ⟨ys, f2, f3⟩ := lists i γ s' ρ' H' hi w hI
  by_cases hlt : i < ds.length
  · obtain ⟨y, h1, h2⟩ := f3.get (List.getElem?_eq_getElem hlt)
    refine .inr ⟨⟨ys, y, SqL.of f2, h1⟩, fun σ2 H2 => ∃ γ s' ρ', Wl X.K (α ++ γ0) H0 γ s' H2 ∧ Re X.K ((α ++ γ0) ++ γ) H2 σ2 ρ' ∧ I (i + 1) ρ' s', fun σ2 H2 ⟨γ2, s2, ρ2, w2, re2, q2⟩ => ⟨ds.length - (i + 1), by omega, rfl, hlt, γ2, s2, ρ2, w2, re2, q2⟩, fun x H2 yl => ?_⟩
    obtain ⟨rfl, yl⟩ := yl
    have e := yl ys (SqL.of f2)
    rw [h1] at e
    cases e
    exact turn_run w0.ok r0 w re' h2 (hs i _ ρ' s' (List.getElem?_eq_getElem hlt) hI).2 fun γ s'' ρ'' σ'' H'' w'' re'' q => ⟨γ, s'', ρ'', w'', re'', q⟩
  · have : i = ds.length := by omega
    subst this
    exact .inl ⟨⟨ys, SqL.of f2, by rw [← f3.length]; exact Nat.le_refl _⟩, r0.nx γ s' ρ' σ' H' w re' (hd ρ' s' hI).2⟩
/-- for over range(n) -/
theorem sm_forR {x : Str} {p : Pos} (hm : X.mg "range" = none) (h : EM X ρ s e fun d s1 => ∃ n : Nat, d = .int n ∧ n ≤ 1000 ∧ ∃ I : Nat → Slo → Sto → Prop, I 0 ρ s1 ∧ (∀ (i : Nat) (ρ' : Slo) (s' : Sto), i < n → I i ρ' s' → TurnM X tg body N (I (i + 1)) (.int i) ρ' s') ∧ ∀ ρ' s', I n ρ' s' → N.nx ρ' s')
    (hp : PassesOwn (model X.prog X.w) X.A X.env X.xe := by exact PassesOwn.never) (hc : X.calm = true := by rfl) (hg : Gl X "range" := by rfl) {pc : Pos} (hst : starEach [e] X.env = (false, eval e X.env) :: starEach [] X.env := by rfl) : SM X ρ s (.For tg (.Call (.Name "range" p) [e] [] pc) body [] pos) N := by
  intro α σ H E so re r
  refine toRS (ps_for hp hc (pi_range1 hg hm (pa_cons pe_sem pa_nil hst) (hs := hst)) pg_sem pss_sem) (h α σ H _ so re ?_)
  rintro γ0 s0 d v H0 w0 d0 ⟨n, rfl, hn, I, i0, hs, hd⟩
  obtain rfl : v = .int n := d0
  have r0 := r.step so w0
  refine ⟨n, rfl, by omega, by omega, for_range (lo := 0) (n := (n : Int).toNat) (g := fun v σ H Q => RG X σ H tg v Q) (tb := fun E σ H => RSs X σ H body E) (D := E) (fun i σ' H' => ∃ γ s' ρ', Wl X.K (α ++ γ0) H0 γ s' H' ∧ Re X.K ((α ++ γ0) ++ γ) H' σ' ρ' ∧ I i ρ' s')
    ⟨[], s0, ρ, Wl.refl w0.ok, by rw [List.append_nil]; exact w0.re re, i0⟩ ?_ ?_⟩
  · rintro i σ' H' hi ⟨γ, s', ρ', w, re', hI⟩
    have e0 : (0 : Int) + (i : Int) = (i : Int) := Int.zero_add _
    rw [e0]
    exact turn_run w0.ok r0 w re' (d := .int i) rfl (hs i ρ' s' (by omega) hI) fun γ s'' ρ'' σ'' H'' w'' re'' q => ⟨γ, s'', ρ'', w'', re'', q⟩
  · rintro σ' H' ⟨γ, s', ρ', w, re', hI⟩
    rw [Int.toNat_natCast] at hI
    exact r0.nx γ s' ρ' σ' H' w re' (hd ρ' s' hI)
/-- while -/
theorem sm_while (I : Nat → Slo → Sto → Prop) (m : Nat) (h0 : I m ρ s) (h : ∀ (m : Nat) (ρ' : Slo) (s' : Sto), I m ρ' s' → TM X ρ' s' c fun k s1 => Bif k (SMs X ρ' s1 body { N with nx := fun ρ2 s2 => ∃ m', m' < m ∧ I m' ρ2 s2, ct := fun ρ2 s2 => ∃ m', m' < m ∧ I m' ρ2 s2, bk := N.nx }) (N.nx ρ' s1))
    (hp : PassesOwn (model X.prog X.w) X.A X.env X.xe := by exact PassesOwn.never) : SM X ρ s (.While c body [] pos) N := by
  intro α σ H E so re r
  refine toRS (ps_while hp pt_sem pss_sem) ⟨fun m σ' H' => ∃ γ s' ρ', Wl X.K α H γ s' H' ∧ Re X.K (α ++ γ) H' σ' ρ' ∧ I m ρ' s', ⟨m, [], s, ρ, Wl.refl so, by rw [List.append_nil]; exact re, h0⟩, ?_⟩
  rintro n σ' H' ⟨γ, s', ρ', w, re', hI⟩
  have r1 := r.step so w
  refine h n ρ' s' hI _ σ' H' _ w.ok re' fun δ s2 k H2 w2 q => bif_ite ⟨fun z => ?_, fun z => ?_⟩
  · have wt := w.trans so w2
    refine ⟨fun σ3 H3 => ∃ m', m' < n ∧ ∃ γ s' ρ', Wl X.K α H γ s' H3 ∧ Re X.K (α ++ γ) H3 σ3 ρ' ∧ I m' ρ' s', fun σ3 H3 ⟨m', hm, z⟩ => ⟨m', hm, z⟩, ?_⟩
    refine q.1 z _ σ' H2 _ w2.ok (w2.re re') ⟨?_, (r1.step w.ok w2).nx, ?_, (r1.step w.ok w2).rt⟩
    · rintro ε s3 ρ3 σ3 H3 w3 re3 ⟨m', hm, q3⟩
      exact ⟨m', hm, _, s3, ρ3, w.trans so (w2.trans w.ok w3), by rw [← List.append_assoc, ← List.append_assoc]; exact re3, q3⟩
    · rintro ε s3 ρ3 σ3 H3 w3 re3 ⟨m', hm, q3⟩
      exact ⟨m', hm, _, s3, ρ3, w.trans so (w2.trans w.ok w3), by rw [← List.append_assoc, ← List.append_assoc]; exact re3, q3⟩
  · exact (r1.step w.ok w2).nx.now w2.ok (w2.re re') (q.2 z)
end
end
end Mp
end T_MpF

section T_MpG
set_option autoImplicit true
set_option maxRecDepth 100000
set_option maxHeartbeats 4000000
namespace Mp
open PySem PySem.Spec PyProof.Rows L2
/-! ### handles below a bound; what a def leaves behind in the store is dropped -/
mutual
def Bd (n : Nat) : D → Prop
  | .ref i => i < n
  | .tup xs => BdL n xs
  | .lst xs => BdL n xs
  | .fro xs => BdL n xs
  | .ins _ _ xs => BdL n xs
  | _ => True
def BdL (n : Nat) : List D → Prop
  | [] => True
  | d :: ds => Bd n d ∧ BdL n ds
end
def BdM (n : Nat) : MO → Prop
  | .lst ds => BdL n ds
  | .dic _ ds => BdL n ds
  | .ins _ _ ds => BdL n ds
section
variable {K : PySem.W.Frag} {α γ : List Addr} {H : Hp} {s : Sto}
mutual
theorem Da.bd : ∀ (d : D) (v : V), Da K α H d v → Bd α.length d
  | .non, _, _ => True.intro
  | .bl _, _, _ => True.intro
  | .int _, _, _ => True.intro
  | .str _, _, _ => True.intro
  | .ty _, _, _ => True.intro
  | .adr _, _, _ => True.intro
  | .ref i, _, h => by
    obtain ⟨a, e, _⟩ := h
    exact (List.getElem?_eq_some_iff.mp e).1
  | .tup ds, _, h => by
    obtain ⟨a, xs, e, q, l⟩ := h
    exact DaL.bd ds xs l
  | .lst ds, _, h => by
    obtain ⟨a, xs, e, n, q, l⟩ := h
    exact DaL.bd ds xs l
  | .fro ds, _, h => by
    obtain ⟨a, xs, e, q, l⟩ := h
    exact DaL.bd ds xs l
  | .ins C ks ds, _, h => by
    obtain ⟨a, dx, fs, e, n, q, ek, l⟩ := h
    exact DaL.bd ds _ l
theorem DaL.bd : ∀ (ds : List D) (xs : List V), DaL K α H ds xs → BdL α.length ds
  | [], _, _ => True.intro
  | d :: ds, _, h => by
    obtain ⟨x, r, e, q, l⟩ := h
    exact ⟨Da.bd d x q, DaL.bd ds r l⟩
end
mutual
theorem Da.drop : ∀ (d : D) (v : V), Da K (α ++ γ) H d v → Bd α.length d → Da K α H d v
  | .non, _, h, _ => h
  | .bl _, _, h, _ => h
  | .int _, _, h, _ => h
  | .str _, _, h, _ => h
  | .ty _, _, h, _ => h
  | .adr _, _, h, _ => h
  | .ref i, _, h, b => by
    obtain ⟨a, e, q⟩ := h
    exact ⟨a, by rw [List.getElem?_append_left (show i < α.length from b)] at e; exact e, q⟩
  | .tup ds, _, h, b => by
    obtain ⟨a, xs, e, q, l⟩ := h
    refine ⟨a, xs, e, ?_, DaL.drop' ds xs l b⟩
    rcases q with ⟨q, n⟩ | q
    · exact .inl ⟨q, fun z => n (List.mem_append_left _ z)⟩
    · exact .inr q
  | .lst ds, _, h, b => by
    obtain ⟨a, xs, e, n, q, l⟩ := h
    exact ⟨a, xs, e, fun z => n (List.mem_append_left _ z), q, DaL.drop' ds xs l b⟩
  | .fro ds, _, h, b => by
    obtain ⟨a, xs, e, q, l⟩ := h
    refine ⟨a, xs, e, ?_, DaL.drop' ds xs l b⟩
    rcases q with ⟨q, n⟩ | q
    · exact .inl ⟨q, fun z => n (List.mem_append_left _ z)⟩
    · exact .inr q
  | .ins C ks ds, _, h, b => by
    obtain ⟨a, dx, fs, e, n, q, ek, l⟩ := h
    exact ⟨a, dx, fs, e, fun z => n (List.mem_append_left _ z), q, ek, DaL.drop' ds _ l b⟩
theorem DaL.drop' : ∀ (ds : List D) (xs : List V), DaL K (α ++ γ) H ds xs → BdL α.length ds → DaL K α H ds xs
  | [], _, h, _ => h
  | d :: ds, _, h, b => by
    obtain ⟨x, r, e, q, l⟩ := h
    exact ⟨x, r, e, Da.drop d x q b.1, DaL.drop' ds r l b.2⟩
end
theorem Sok.bd (so : Sok K α s H) : ∀ m ∈ s, BdM s.length m := fun m hm => by
  obtain ⟨i, hi, e⟩ := List.mem_iff_getElem.mp hm
  have hi' : i < α.length := by rw [so.len]; exact hi
  have c := so.cel i α[i] m (List.getElem?_eq_getElem hi') (by rw [List.getElem?_eq_getElem hi, e])
  cases m with
  | lst ds => obtain ⟨xs, _, l⟩ := c; rw [← so.len]; exact DaL.bd ds _ l
  | dic ks ds => obtain ⟨xs, _, _, l⟩ := c; rw [← so.len]; exact DaL.bd ds _ l
  | ins C ks ds => obtain ⟨dx, xs, _, _, l⟩ := c; rw [← so.len]; exact DaL.bd ds _ l
theorem Sok.drop {s1 g : Sto} (so : Sok K (α ++ γ) (s1 ++ g) H) (hl : s1.length = α.length) (b : ∀ m ∈ s1, BdM s1.length m) : Sok K α s1 H := by
  refine ⟨hl.symm, (List.nodup_append.mp so.nd).1, fun i a m e q => ?_⟩
  have c := so.cel i a m (get_app e) (by rw [List.getElem?_append_left (List.getElem?_eq_some_iff.mp q).1]; exact q)
  have bm := b m (List.mem_of_getElem? q)
  rw [hl] at bm
  cases m with
  | lst ds => obtain ⟨xs, e, l⟩ := c; exact ⟨xs, e, DaL.drop' ds xs l bm⟩
  | dic ks ds => obtain ⟨xs, e, ek, l⟩ := c; exact ⟨xs, e, ek, DaL.drop' ds _ l bm⟩
  | ins C ks ds => obtain ⟨dx, xs, e, ek, l⟩ := c; exact ⟨dx, xs, e, ek, DaL.drop' ds _ l bm⟩
/-- wanted behind a def that leaves garbage: s its store at the start -/
def Drp (s : Sto) (Φ : D → Sto → Prop) : D → Sto → Prop := fun d s' => ∃ s1 g, s' = s1 ++ g ∧ s1.length = s.length ∧ Bd s.length d ∧ ((∀ m ∈ s, BdM s.length m) → ∀ m ∈ s1, BdM s.length m) ∧ Φ d s1
theorem K1.drp {Φ : D → Sto → Prop} {Q : VK} (so : Sok K α s H) (k : K1 K α H Φ Q) : K1 K α H (Drp s Φ) Q := by
  rintro γ s' d v H1 w da ⟨s1, g, rfl, hl, bd, bm, q⟩
  have hl' : s1.length = α.length := hl.trans so.len.symm
  have so1 : Sok K α s1 H1 := w.ok.drop hl' fun m hm => by rw [hl]; exact bm so.bd m hm
  exact k [] s1 d v H1 ⟨w.kp, (fun _ h => nomatch h), by rw [List.append_nil]; exact so1⟩ (da_nil (Da.drop d v da (by rw [so.len]; exact bd))) q
end
/-! ### contracts -/
abbrev Wt := List D → Sto → (D → Sto → Prop) → Prop
def spM (K : PySem.W.Frag) (W : Wt) : Sp := fun vs H Q _ => ∃ (α : List Addr) (s : Sto) (ds : List D) (Φ : D → Sto → Prop), Sok K α s H ∧ DaL K α H ds vs ∧ W ds s Φ ∧ K1 K α H Φ Q
def startD (N : List Str) (ds : List D) : Slo := ds.map some ++ List.replicate (N.length - ds.length) none
theorem re_start {K : PySem.W.Frag} {α : List Addr} {H : Hp} {N : List Str} {ds : List D} {vs : List V} (l : DaL K α H ds vs) : Re K α H (L2.start N vs) (startD N ds) := by
  have e := l.length
  refine ⟨?_, fun i d h => ?_⟩
  · unfold L2.start startD
    rw [List.length_append, List.length_append, List.length_map, List.length_map, List.length_replicate, List.length_replicate, e]
  · unfold startD at h
    unfold L2.start
    by_cases hi : i < ds.length
    · rw [List.getElem?_append_left (by rw [List.length_map]; exact hi), List.getElem?_map] at h
      cases q : ds[i]? with
      | none => rw [q] at h; cases h
      | some x =>
        rw [q] at h
        cases h
        obtain ⟨v, h1, h2⟩ := l.get q
        refine ⟨v, ?_, h2⟩
        rw [List.getElem?_append_left (by rw [List.length_map, ← e]; exact hi), List.getElem?_map, h1]
        rfl
    · rw [List.getElem?_append_right (by rw [List.length_map]; exact Nat.le_of_not_lt hi)] at h
      rw [List.getElem?_replicate] at h
      split at h <;> cases h
section
variable {P : Program} {w : World} {K : PySem.W.Frag} {mg : Str → Option Value} {base : Heap}
theorem def_ok {x qual : Str} {params : Arguments} {body : List Stmt} {scope : Scope} {dvs : List V} {kws : List (Str × V)} {f : Addr} {fd : FuncData} {N ps : List Str} {k : Nat} {W : Wt} (F : FunD K x qual params body scope dvs kws f fd) (S : FnScope N ps scope)
    (len : ∀ ds s Φ, W ds s Φ → ds.length = ps.length)
    (hb : ∀ (cdv : Value) (A : Around) (outer : List PySem.Env) (sh : Shared) (H : Hp) (E : XK), Room k (A.deeper (envOfC qual scope sh.heap.objs.size f cdv)) → ∀ (ds : List D) (s : Sto) (Φ : D → Sto → Prop), W ds s Φ →
      SMs (cxOf CX0 P w K mg base N qual scope f cdv A outer sh H E).nox (startD N ds) s body { nx := fun _ s' => Φ .non s', rt := Φ }) : FnOk P w K mg base CX0 (k + 1) f fd ps (spM K W) := by
  refine F.ok S (fun vs H Q E h => ?_) fun cdv A outer sh H vs Q E hr h => ?_
  · obtain ⟨α, s, ds, Φ, so, dl, q, _⟩ := h
    rw [← dl.length]
    exact len ds s Φ q
  · obtain ⟨α, s, ds, Φ, so, dl, q, kk⟩ := h
    have z := hb cdv A outer sh H E hr ds s Φ q
    refine ⟨_, PSs.nox (pss_sem (X := (cxOf CX0 P w K mg base N qual scope f cdv A outer sh H E).nox)), ?_⟩
    exact z α _ H _ so (re_start dl) ⟨fun γ s' ρ' σ' H1 w1 re1 qq => kk γ s' .non .non H1 w1 rfl qq, fun _ _ _ _ _ _ _ z => z.elim, fun _ _ _ _ _ _ _ z => z.elim, kk⟩
/-- .. that leaves garbage in the store -/
theorem def_okD {x qual : Str} {params : Arguments} {body : List Stmt} {scope : Scope} {dvs : List V} {kws : List (Str × V)} {f : Addr} {fd : FuncData} {N ps : List Str} {k : Nat} {W : Wt} (F : FunD K x qual params body scope dvs kws f fd) (S : FnScope N ps scope)
    (len : ∀ ds s Φ, W ds s Φ → ds.length = ps.length)
    (hb : ∀ (cdv : Value) (A : Around) (outer : List PySem.Env) (sh : Shared) (H : Hp) (E : XK), Room k (A.deeper (envOfC qual scope sh.heap.objs.size f cdv)) → ∀ (ds : List D) (s : Sto) (Φ : D → Sto → Prop), W ds s Φ →
      SMs (cxOf CX0 P w K mg base N qual scope f cdv A outer sh H E).nox (startD N ds) s body { nx := fun _ s' => Drp s Φ .non s', rt := Drp s Φ }) : FnOk P w K mg base CX0 (k + 1) f fd ps (spM K W) := by
  refine F.ok S (fun vs H Q E h => ?_) fun cdv A outer sh H vs Q E hr h => ?_
  · obtain ⟨α, s, ds, Φ, so, dl, q, _⟩ := h
    rw [← dl.length]
    exact len ds s Φ q
  · obtain ⟨α, s, ds, Φ, so, dl, q, kk⟩ := h
    have z := hb cdv A outer sh H E hr ds s Φ q
    have kd := kk.drp so
    refine ⟨_, PSs.nox (pss_sem (X := (cxOf CX0 P w K mg base N qual scope f cdv A outer sh H E).nox)), ?_⟩
    exact z α _ H _ so (re_start dl) ⟨fun γ s' ρ' σ' H1 w1 re1 qq => kd γ s' .non .non H1 w1 rfl qq, fun _ _ _ _ _ _ _ z => z.elim, fun _ _ _ _ _ _ _ z => z.elim, kd⟩
end
structure GFn (P : Program) (w : World) (K : PySem.W.Frag) (mg : Str → Option Value) (base : Heap) (x : Str) (k : Nat) (W : Wt) : Prop where
  ex : ∃ (f : Addr) (fd : FuncData) (ps : List Str), mg x = some (.ref f) ∧ PySem.W.keepIn K (.ref f) = true ∧ FnOk P w K mg base CX0 k f fd ps (spM K W) ∧ Binds K fd ps []
structure MFn (P : Program) (w : World) (K : PySem.W.Frag) (mg : Str → Option Value) (base : Heap) (C : Addr) (m : Str) (k : Nat) (W : Wt) : Prop where
  cl : Cls K C
  ex : ∃ (f : Addr) (fd : FuncData) (ps : List Str), Meth K C m f ∧ FnOk P w K mg base CX0 k f fd ps (spM K W) ∧ Binds K fd ps []
/-- a property: its getter -/
structure PFn (P : Program) (w : World) (K : PySem.W.Frag) (mg : Str → Option Value) (base : Heap) (C : Addr) (m : Str) (k : Nat) (W : Wt) : Prop where
  cl : Cls K C
  ex : ∃ (p f : Addr) (fd : FuncData) (ps : List Str), PropOf K C m p f ∧ FnOk P w K mg base CX0 k f fd ps (spM K W) ∧ Binds K fd ps []
section
variable {X : Cx} {ρ : Slo} {s : Sto} {Φ : D → Sto → Prop} {pos apos p : Pos} {e o : Expr} {es : List Expr} {x m : Str} {k : Nat} {W : Wt} {C : Addr}
theorem em_call (G : GFn X.prog X.w X.K X.mg X.base x k W) (hr : Room k X.A) (h : AM X ρ s (e :: es) fun ds s1 => W ds s1 Φ) (hg : Gl X x := by rfl) (hdb : (x == ("__debug__" : Str)) = false := by decide) (he : starEach (e :: es) X.env = (false, eval e X.env) :: starEach es X.env := by rfl) (hpl : (backTo pos (starEach es X.env)).any (·.1) = false := by rfl) : EM X ρ s (.Call (.Name x p) (e :: es) [] pos) Φ := by
  intro α σ H Q so re kk
  obtain ⟨f, fd, ps, hm, hk, F, hb⟩ := G.ex
  refine toRE (pe_call F hr hg hm hk hb .nil pass0 pa_sem hdb he hpl) (h α σ H _ so re fun γ s1 ds vs H1 w1 d1 q => ?_)
  rw [List.append_nil]
  exact ⟨_, s1, ds, Φ, w1.ok, d1, q, kk.step so w1⟩
theorem em_call0 (G : GFn X.prog X.w X.K X.mg X.base x k W) (hr : Room k X.A) (h : W [] s Φ) (hg : Gl X x := by rfl) (hdb : (x == ("__debug__" : Str)) = false := by decide) : EM X ρ s (.Call (.Name x p) [] [] pos) Φ := by
  intro α σ H Q so re kk
  obtain ⟨f, fd, ps, hm, hk, F, hb⟩ := G.ex
  exact toRE (pe_call0 F hr hg hm hk hb .nil pass0 hdb) ⟨_, s, [], Φ, so, rfl, h, kk⟩
theorem em_meth {pl : Sem Bool} (M : MFn X.prog X.w X.K X.mg X.base C m k W) (hr : Room k X.A) (h : EM X ρ s o fun d s1 => ∃ ks ds, InsV s1 d C ks ds ∧ kIx ks m = none ∧ AM X ρ s1 (e :: es) fun fs s2 => W (d :: fs) s2 Φ)
    (hst : starEach (e :: es) X.env = (false, eval e X.env) :: starEach es X.env := by rfl) (hpl : (backTo pos (starEach es X.env)).any (·.1) = false := by rfl)
    (ht : eval (.Call (.Attribute o m apos) (e :: es) [] pos) X.env = (do
      let ov ← eval o X.env
      standAt apos.atName
      let (f, first) ← holding [ov] (getMethod ov m pl)
      callWith pos f first (backTo pos (starEach (e :: es) X.env)) (backToKw pos (keywordEach [] X.env))) := by rfl) : EM X ρ s (.Call (.Attribute o m apos) (e :: es) [] pos) Φ := by
  intro α σ H Q so re kk
  obtain ⟨f, fd, ps, hm, F, hb⟩ := M.ex
  refine toRE (pe_meth (pl := pl) pe_sem M.cl hm F hr hb .nil pass0 pa_sem hst hpl ht) (h α σ H _ so re ?_)
  rintro γ s1 d v H1 w1 d1 ⟨ks, ds, hi, hk, q⟩
  obtain ⟨a, dx, fs, e1, e2, e3, l⟩ := hi.at_ w1.ok d1
  subst e3
  refine ⟨a, dx, fs, e1, e2, kIx_none hk, q _ σ H1 _ w1.ok (w1.re re) fun δ s2 es' vs H2 w2 d2 q2 => ?_⟩
  rw [List.append_nil]
  subst e1
  exact ⟨_, s2, d :: es', Φ, w2.ok, ⟨_, _, rfl, w2.da d1, d2⟩, q2, (kk.step so w1).step w1.ok w2⟩
theorem em_meth0 {pl : Sem Bool} (M : MFn X.prog X.w X.K X.mg X.base C m k W) (hr : Room k X.A) (h : EM X ρ s o fun d s1 => ∃ ks ds, InsV s1 d C ks ds ∧ kIx ks m = none ∧ W [d] s1 Φ)
    (ht : eval (.Call (.Attribute o m apos) [] [] pos) X.env = (do
      let ov ← eval o X.env
      standAt apos.atName
      let (f, first) ← holding [ov] (getMethod ov m pl)
      callWith pos f first (backTo pos (starEach [] X.env)) (backToKw pos (keywordEach [] X.env))) := by rfl) : EM X ρ s (.Call (.Attribute o m apos) [] [] pos) Φ := by
  intro α σ H Q so re kk
  obtain ⟨f, fd, ps, hm, F, hb⟩ := M.ex
  refine toRE (pe_meth0 (pl := pl) pe_sem M.cl hm F hr hb .nil pass0 ht) (h α σ H _ so re ?_)
  rintro γ s1 d v H1 w1 d1 ⟨ks, ds, hi, hk, q⟩
  obtain ⟨a, dx, fs, e1, e2, e3, l⟩ := hi.at_ w1.ok d1
  subst e3 e1
  refine ⟨a, dx, fs, rfl, e2, kIx_none hk, ?_⟩
  exact ⟨_, s1, [d], Φ, w1.ok, DaL.one d1, q, kk.step so w1⟩
theorem em_prop (M : PFn X.prog X.w X.K X.mg X.base C m k W) (hr : Room (k + 1) X.A) (h : EM X ρ s e fun d s1 => ∃ ks ds, InsV s1 d C ks ds ∧ W [d] s1 Φ) (hab : attributeBase e m X.env (eval e X.env) = eval e X.env := by rfl) : EM X ρ s (.Attribute e m pos) Φ := by
  intro α σ H Q so re kk
  obtain ⟨pp, f, fd, ps, hm, F, hb⟩ := M.ex
  refine toRE (pe_prop pe_sem M.cl hm F hr hb .nil pass0 hab) (h α σ H _ so re ?_)
  rintro γ s1 d v H1 w1 d1 ⟨ks, ds, hi, q⟩
  obtain ⟨a, dx, fs, e1, e2, e3, l⟩ := hi.at_ w1.ok d1
  subst e1
  exact ⟨a, dx, fs, rfl, e2, _, s1, [d], Φ, w1.ok, DaL.one d1, q, kk.step so w1⟩
/-! ### a new instance -/
theorem bd_mono {n m : Nat} (h : n ≤ m) : True := trivial
/-- it stays in the store -/
theorem K1.make {K : PySem.W.Frag} {α : List Addr} {H : Hp} {s : Sto} (so : Sok K α s H) {x dx : Addr} (hx : H x = none) (hdx : H dx = none) (hne : dx ≠ x) :
    Wl K α H [x] (s ++ [.ins C [] []]) (upd (upd H dx (.own x)) x (.ins C dx [])) := by
  have w1 := Wl.new so hdx (o := .own x)
  have so1 : Sok K α s (upd H dx (.own x)) := so.grow fun b u e => by rw [upd_ne (ne_of_none e hdx)]; exact e
  have hx1 : upd H dx (.own x) x = none := by rw [upd_ne (Ne.symm hne)]; exact hx
  have w2 := Wl.cell so1 (o := .ins C dx []) (m := .ins C [] []) hx1 ⟨dx, [], upd_same, rfl, rfl⟩
  refine ⟨fun b u e n => w2.kp b u (by rw [upd_ne (ne_of_none e hdx)]; exact e) n, fun a ha => ?_, w2.ok⟩
  cases List.mem_singleton.mp ha
  exact hx
structure MkC (P : Program) (w : World) (K : PySem.W.Frag) (mg : Str → Option Value) (base : Heap) (x : Str) (C : Addr) (k : Nat) (W : Wt) : Prop where
  ex : ∃ (f : Addr) (fd : FuncData) (ps : List Str), mg x = some (.ref C) ∧ Mk K C f ∧ FnOk P w K mg base CX0 k f fd ps (spM K W) ∧ Binds K fd ps []
theorem em_make (M : MkC X.prog X.w X.K X.mg X.base x C k W) (hr : Room (k + 1) X.A) (h : AM X ρ s (e :: es) fun ds s1 => W (.ref s1.length :: ds) (s1 ++ [.ins C [] []]) fun d s2 => d = .non ∧ Φ (.ref s1.length) s2)
    (hg : Gl X x := by rfl) (hdb : (x == ("__debug__" : Str)) = false := by decide) (he : starEach (e :: es) X.env = (false, eval e X.env) :: starEach es X.env := by rfl) (hpl : (backTo pos (starEach es X.env)).any (·.1) = false := by rfl) : EM X ρ s (.Call (.Name x p) (e :: es) [] pos) Φ := by
  intro α σ H Q so re kk
  obtain ⟨f, fd, ps, hm, Mm, F, hb⟩ := M.ex
  refine toRE (pe_make Mm F hr hg hm hb .nil pass0 pa_sem hdb he hpl) (h α σ H _ so re fun γ s1 ds vs H1 w1 d1 q => ?_)
  intro a dx ha hdx hne
  rw [List.append_nil]
  have w2 := K1.make (C := C) w1.ok ha hdx hne
  refine ⟨_, _, .ref s1.length :: ds, _, w2.ok, ⟨_, _, rfl, ref_new w1.ok, w2.dal d1⟩, q, ?_⟩
  rintro δ s2 d v H2 w3 d3 ⟨rfl, q3⟩
  exact ⟨d3, ((kk.step so w1).step w1.ok w2) δ s2 (.ref s1.length) _ H2 w3 (w3.da (ref_new w1.ok)) q3⟩
/-- it is never changed again -/
theorem em_makeD (M : MkC X.prog X.w X.K X.mg X.base x C k W) (hr : Room (k + 1) X.A) (h : AM X ρ s (e :: es) fun ds s1 => W (.ref s1.length :: ds) (s1 ++ [.ins C [] []]) fun d s2 => d = .non ∧ ∃ ks fs, s2 = s1 ++ [.ins C ks fs] ∧ (BdL s1.length ds → BdL s1.length fs) ∧ Φ (.ins C ks fs) s1)
    (hg : Gl X x := by rfl) (hdb : (x == ("__debug__" : Str)) = false := by decide) (he : starEach (e :: es) X.env = (false, eval e X.env) :: starEach es X.env := by rfl) (hpl : (backTo pos (starEach es X.env)).any (·.1) = false := by rfl) : EM X ρ s (.Call (.Name x p) (e :: es) [] pos) Φ := by
  intro α σ H Q so re kk
  obtain ⟨f, fd, ps, hm, Mm, F, hb⟩ := M.ex
  refine toRE (pe_make Mm F hr hg hm hb .nil pass0 pa_sem hdb he hpl) (h α σ H _ so re fun γ s1 ds vs H1 w1 d1 q => ?_)
  intro a dx ha hdx hne
  rw [List.append_nil]
  have w2 := K1.make (C := C) w1.ok ha hdx hne
  refine ⟨_, _, .ref s1.length :: ds, _, w2.ok, ⟨_, _, rfl, ref_new w1.ok, w2.dal d1⟩, q, ?_⟩
  rintro δ s2 d v H2 w3 d3 ⟨rfl, ks, fs, rfl, bd, q3⟩
  refine ⟨d3, ?_⟩
  have wt := w2.trans w1.ok w3
  have len1 : s1.length = (α ++ γ).length := w1.ok.len.symm
  have so2 : Sok X.K (α ++ γ) s1 H2 := wt.ok.drop len1 fun m hm => w1.ok.bd m hm
  have c := w3.ok.cel s1.length a (.ins C ks fs) (by
      rw [List.append_assoc, List.getElem?_append_right (by rw [← len1]; exact Nat.le_refl _), ← len1, Nat.sub_self]
      rfl) (by rw [List.getElem?_append_right (Nat.le_refl _), Nat.sub_self]; rfl)
  obtain ⟨dx', fs', c1, c2, c3⟩ := c
  have hbd : BdL (α ++ γ).length fs := by rw [← len1]; exact bd (by rw [len1]; exact DaL.bd ds vs d1)
  have na : a ∉ α ++ γ := w1.ok.free ha
  have c3' : DaL X.K (α ++ γ) H2 fs (fs'.map (·.2)) := by
    rw [List.append_assoc] at c3
    exact DaL.drop' fs _ c3 hbd
  exact (kk.step so w1) [] s1 (.ins C ks fs) _ H2 ⟨wt.kp, (fun _ h => nomatch h), by rw [List.append_nil]; exact so2⟩ (da_nil ⟨a, dx', fs', rfl, na, c1, c2, c3'⟩) q3
end
end Mp
end T_MpG

section T_MpH
set_option autoImplicit true
set_option maxRecDepth 100000
set_option maxHeartbeats 4000000
namespace Mp
open PySem PySem.Spec PyProof.Rows L2
/-! ### what is walked -/
/-- the iterator J gives the items ds, one after another, while G holds of the store -/
structure IterD (K : PySem.W.Frag) (α : List Addr) (H : Hp) (J : It) (ds : List D) (G : Sto → Prop) : Prop where
  go : ∀ (i : Nat) (γ : List Addr) (s' : Sto) (H' : Hp), i < ds.length → Wl K α H γ s' H' → G s' → J.go i H'
  stop : ∀ (γ : List Addr) (s' : Sto) (H' : Hp), Wl K α H γ s' H' → G s' → J.stop ds.length H'
  yld : ∀ (i : Nat) (d : D) (γ : List Addr) (s' : Sto) (H' : Hp) (v : V) (H2 : Hp), ds[i]? = some d → Wl K α H γ s' H' → G s' → J.yld i H' v H2 → (∀ b o, H' b = some o → H2 b = some o) ∧ Da K (α ++ γ) H2 d v
def RI (X : Cx) (σ : L2.St) (H : Hp) (tg iter : Expr) (R : It → Hp → Prop) : Prop := Op (∀ (pins : List (Addr × Obj)) (s : Shared), Inv X pins σ H s → wpAny (model X.prog X.w) X.A (eval iter X.env) (fun v s1 => wpAny (model X.prog X.w) X.A (pyIter v) (PIE X pins σ tg R) X.xe s1) X.xe s)
theorem pi_sem {X : Cx} {tg iter : Expr} : PI X tg iter fun σ H R => RI X σ H tg iter R := ⟨fun pins s _ _ _ I h => h.go pins s I⟩
def IM (X : Cx) (ρ : Slo) (s : Sto) (tg iter : Expr) (Φ : List D → (Sto → Prop) → Sto → Prop) : Prop := ∀ (α : List Addr) (σ : L2.St) (H : Hp) (R : It → Hp → Prop), Sok X.K α s H → Re X.K α H σ ρ →
  (∀ (γ : List Addr) (s' : Sto) (ds : List D) (G : Sto → Prop) (J : It) (H1 : Hp), Wl X.K α H γ s' H1 → IterD X.K (α ++ γ) H1 J ds G → Φ ds G s' → R J H1) → RI X σ H tg iter R
theorem Wl.ext {K : PySem.W.Frag} {α γ : List Addr} {s s' : Sto} {H H1 H2 : Hp} (so : Sok K α s H) (w : Wl K α H γ s' H1) (k : ∀ b o, H1 b = some o → H2 b = some o) : Wl K α H γ s' H2 := by
  have z := w.trans so (Wl.grow w.ok k)
  rw [List.append_nil] at z
  exact z
section
variable {X : Cx} {ρ : Slo} {s : Sto} {Φ : D → Sto → Prop} {pos : Pos} {a b c e : Expr} {es : List Expr} {N : En} {tg iter : Expr} {body : List Stmt} {Ψ : List D → (Sto → Prop) → Sto → Prop}
theorem im_tup (h : EM X ρ s iter fun d s1 => ∃ ds, d = .tup ds ∧ Ψ ds (fun _ => True) s1) : IM X ρ s tg iter Ψ := by
  intro α σ H R so re k
  refine ⟨fun pins sh I => ?_⟩
  refine (pi_tup (tg := tg) pe_sem).run pins sh σ H R I (h α σ H _ so re ?_)
  rintro γ s1 d v H1 w1 d1 ⟨ds, rfl, q⟩
  obtain ⟨p, xs, e1, q1, l⟩ := d1
  refine ⟨p, e1, ⟨xs, tupAt q1⟩, k γ s1 ds _ _ H1 w1 ⟨fun i δ s' H' hi w _ => ?_, fun δ s' H' w _ => ?_, fun i d δ s' H' v H2 hd w _ y => ?_⟩ q⟩
  · exact ⟨xs, xs[i]'(by rw [← l.length]; exact hi), sqT_kp w.kp q1, List.getElem?_eq_getElem _⟩
  · exact ⟨xs, sqT_kp w.kp q1, by rw [l.length]; exact Nat.le_refl _⟩
  · obtain ⟨rfl, y⟩ := y
    obtain ⟨x, h1, h2⟩ := (w.dal l).get hd
    have := y xs (sqT_kp w.kp q1)
    rw [h1] at this
    cases this
    exact ⟨fun _ _ z => z, h2⟩
theorem im_lst (h : EM X ρ s iter fun d s1 => ∃ ds, IsL s1 d ds ∧ Ψ ds (fun s' => IsL s' d ds) s1) : IM X ρ s tg iter Ψ := by
  intro α σ H R so re k
  refine ⟨fun pins sh I => ?_⟩
  refine (pi_list (tg := tg) pe_sem).run pins sh σ H R I (h α σ H _ so re ?_)
  rintro γ s1 d v H1 w1 d1 ⟨ds, isl, q⟩
  obtain ⟨p, xs, e1, q1, l⟩ := isl.at_ w1.ok d1
  have at' : ∀ {δ : List Addr} {s' : Sto} {H' : Hp}, Wl X.K (α ++ γ) H1 δ s' H' → IsL s' d ds → ∃ ys, H' p = some (.lst ys) ∧ DaL X.K ((α ++ γ) ++ δ) H' ds ys := fun {δ s' H'} w g => by
    obtain ⟨p', ys, f1, f2, f3⟩ := g.at_ w.ok (w.da d1)
    rw [e1] at f1
    cases f1
    exact ⟨ys, f2, f3⟩
  refine ⟨p, e1, ⟨xs, SqL.of q1⟩, k γ s1 ds _ _ H1 w1 ⟨fun i δ s' H' hi w g => ?_, fun δ s' H' w g => ?_, fun i d δ s' H' v H2 hd w g y => ?_⟩ q⟩
  · obtain ⟨ys, f2, f3⟩ := at' w g
    exact ⟨ys, ys[i]'(by rw [← f3.length]; exact hi), SqL.of f2, List.getElem?_eq_getElem _⟩
  · obtain ⟨ys, f2, f3⟩ := at' w g
    exact ⟨ys, SqL.of f2, by rw [f3.length]; exact Nat.le_refl _⟩
  · obtain ⟨ys, f2, f3⟩ := at' w g
    obtain ⟨rfl, y⟩ := y
    obtain ⟨x, h1, h2⟩ := f3.get hd
    have := y ys (SqL.of f2)
    rw [h1] at this
    cases this
    exact ⟨fun _ _ z => z, h2⟩
def intsD (n : Nat) : List D := (List.range n).map fun i => .int (i : Nat)
theorem intsD_at {n i : Nat} (h : i < n) : (intsD n)[i]? = some (.int (i : Nat)) := by
  unfold intsD
  rw [List.getElem?_map, List.getElem?_range h]
  rfl
theorem intsD_len (n : Nat) : (intsD n).length = n := by unfold intsD; rw [List.length_map, List.length_range]
theorem im_range {p : Pos} (hm : X.mg "range" = none) (h : EM X ρ s e fun d s1 => ∃ n : Nat, d = .int n ∧ n ≤ 1000 ∧ Ψ (intsD n) (fun _ => True) s1) (hg : Gl X "range" := by rfl) (hst : starEach [e] X.env = [(false, eval e X.env)] := by rfl) : IM X ρ s tg (.Call (.Name "range" p) [e] [] pos) Ψ := by
  intro α σ H R so re k
  refine ⟨fun pins sh I => ?_⟩
  refine (pi_range1 (tg := tg) hg hm (pa_cons pe_sem pa_nil hst) (hs := hst)).run pins sh σ H R I (h α σ H _ so re ?_)
  rintro γ s1 d v H1 w1 d1 ⟨n, rfl, hn, q⟩
  obtain rfl : v = .int n := d1
  refine ⟨n, rfl, by omega, by omega, k γ s1 _ _ _ H1 w1 ⟨fun i δ s' H' hi w g => ?_, fun δ s' H' w g => ?_, fun i d δ s' H' v H2 hd w g y => ?_⟩ q⟩
  · rw [intsD_len] at hi
    show i < (n : Int).toNat
    omega
  · show (n : Int).toNat ≤ (intsD n).length
    rw [intsD_len]
    omega
  · obtain ⟨rfl, rfl⟩ := y
    have hi : i < n := by
      have := (List.getElem?_eq_some_iff.mp hd).1
      rw [intsD_len] at this
      exact this
    rw [intsD_at hi] at hd
    cases hd
    refine ⟨fun _ _ z => z, ?_⟩
    show V.int (0 + (i : Int)) = V.int (i : Int)
    rw [Int.zero_add]
def enumD (ds : List D) : List D := (List.range ds.length).map fun i => .tup [.int (i : Nat), ds.getD i .non]
theorem enumD_at {ds : List D} {i : Nat} {d : D} (h : ds[i]? = some d) : (enumD ds)[i]? = some (.tup [.int (i : Nat), d]) := by
  unfold enumD
  have hi := (List.getElem?_eq_some_iff.mp h).1
  rw [List.getElem?_map, List.getElem?_range hi]
  simp [h]
theorem enumD_len (ds : List D) : (enumD ds).length = ds.length := by unfold enumD; rw [List.length_map, List.length_range]
theorem da_pair {K : PySem.W.Frag} {α : List Addr} {H : Hp} {T : Addr} {d f : D} {x y : V} (hT : H T = none) (nT : T ∉ α) (d1 : Da K α H d x) (d2 : Da K α H f y) : Da K α (upd H T (.tup [x, y])) (.tup [d, f]) (.ref T) := by
  have kp : Kp α H (upd H T (.tup [x, y])) := fun b u e _ => by rw [upd_ne (ne_of_none e hT)]; exact e
  exact ⟨T, [x, y], rfl, .inl ⟨.inl upd_same, nT⟩, x, [y], rfl, d1.kp kp, y, [], rfl, d2.kp kp, rfl⟩
theorem im_enumL {p tpos : Pos} {elts : List Expr} {kk : Nat} (hm : X.mg "enumerate" = none) (h : EM X ρ s e fun d s1 => ∃ ds, IsL s1 d ds ∧ Ψ (enumD ds) (fun s' => IsL s' d ds) s1) (hg : Gl X "enumerate" := by rfl) (hst : starEach [e] X.env = [(false, eval e X.env)] := by rfl) : IM X ρ s (.Tuple elts kk tpos) (.Call (.Name "enumerate" p) [e] [] pos) Ψ := by
  intro α σ H R so re k
  refine ⟨fun pins sh I => ?_⟩
  refine (pi_enum hg hm (pa_cons pe_sem pa_nil hst) hst).run pins sh σ H R I (h α σ H _ so re ?_)
  rintro γ s1 d v H1 w1 d1 ⟨ds, isl, q⟩
  obtain ⟨p, xs, e1, q1, l⟩ := isl.at_ w1.ok d1
  subst e1
  have at' : ∀ {δ : List Addr} {s' : Sto} {H' : Hp}, Wl X.K (α ++ γ) H1 δ s' H' → IsL s' d ds → ∃ ys, H' p = some (.lst ys) ∧ DaL X.K ((α ++ γ) ++ δ) H' ds ys := fun {δ s' H'} w g => by
    obtain ⟨p', ys, f1, f2, f3⟩ := g.at_ w.ok (w.da d1)
    cases f1
    exact ⟨ys, f2, f3⟩
  refine ⟨p, xs, rfl, SqL.of q1, k γ s1 _ _ _ H1 w1 ⟨fun i δ s' H' hi w g => ?_, fun δ s' H' w g => ?_, fun i d δ s' H' v H2 hd w g y => ?_⟩ q⟩
  · obtain ⟨ys, f2, f3⟩ := at' w g
    rw [enumD_len] at hi
    exact ⟨ys, ys[i]'(by rw [← f3.length]; exact hi), SqL.of f2, List.getElem?_eq_getElem _⟩
  · obtain ⟨ys, f2, f3⟩ := at' w g
    exact ⟨ys, SqL.of f2, by rw [enumD_len, f3.length]; exact Nat.le_refl _⟩
  · obtain ⟨ys, f2, f3⟩ := at' w g
    have hi : i < ds.length := by
      have := (List.getElem?_eq_some_iff.mp hd).1
      rw [enumD_len] at this
      exact this
    rw [enumD_at (List.getElem?_eq_getElem hi)] at hd
    cases hd
    obtain ⟨T, x, rfl, hT, rfl, hx⟩ := y
    obtain ⟨x', h1, h2⟩ := f3.get (List.getElem?_eq_getElem hi)
    have := hx ys (SqL.of f2)
    rw [h1] at this
    cases this
    exact ⟨fun b u e => by rw [upd_ne (ne_of_none e hT)]; exact e, da_pair hT (w.ok.free hT) rfl h2⟩
/-- for -/
theorem sm_for (h : IM X ρ s tg iter fun ds G s1 => ∃ I : Nat → Slo → Sto → Prop, I 0 ρ s1 ∧ (∀ (i : Nat) (x : D) (ρ' : Slo) (s' : Sto), ds[i]? = some x → I i ρ' s' → G s' ∧ TurnM X tg body N (I (i + 1)) x ρ' s') ∧ ∀ ρ' s', I ds.length ρ' s' → G s' ∧ N.nx ρ' s')
    (hp : PassesOwn (model X.prog X.w) X.A X.env X.xe := by exact PassesOwn.never) (hc : X.calm = true := by rfl) (hfs : ∀ x, foldedSetIterable iter X.env x = pure x := by intro _; rfl) : SM X ρ s (.For tg iter body [] pos) N := by
  intro α σ H E so re r
  refine toRS (ps_for hp hc pi_sem pg_sem pss_sem hfs) (h α σ H _ so re ?_)
  rintro γ0 s0 ds G J H0 w0 it ⟨I, i0, hs, hd⟩
  have r0 := r.step so w0
  refine ⟨fun i m σ' H' => m = ds.length - i ∧ i ≤ ds.length ∧ ∃ γ s' ρ', Wl X.K (α ++ γ0) H0 γ s' H' ∧ Re X.K ((α ++ γ0) ++ γ) H' σ' ρ' ∧ I i ρ' s', ⟨ds.length, by simp, Nat.zero_le _, [], s0, ρ, Wl.refl w0.ok, by rw [List.append_nil]; exact w0.re re, i0⟩, ?_⟩
  rintro i m σ' H' ⟨rfl, hi, γ, s', ρ', w, re', hI⟩
  by_cases hlt : i < ds.length
  · obtain ⟨g, tm⟩ := hs i _ ρ' s' (List.getElem?_eq_getElem hlt) hI
    refine .inr ⟨it.go i γ s' H' hlt w g, fun σ2 H2 => ∃ γ s' ρ', Wl X.K (α ++ γ0) H0 γ s' H2 ∧ Re X.K ((α ++ γ0) ++ γ) H2 σ2 ρ' ∧ I (i + 1) ρ' s', fun σ2 H2 ⟨γ2, s2, ρ2, w2, re2, q2⟩ => ⟨ds.length - (i + 1), by omega, rfl, hlt, γ2, s2, ρ2, w2, re2, q2⟩, fun x H2 yl => ?_⟩
    obtain ⟨k2, d2⟩ := it.yld i _ γ s' H' x H2 (List.getElem?_eq_getElem hlt) w g yl
    have w2 := w.ext w0.ok k2
    exact turn_run w0.ok r0 w2 ⟨re'.len, fun j d e => let ⟨v, h, q⟩ := re'.at_ j d e; ⟨v, h, q.kp fun b o e _ => k2 b o e⟩⟩ d2 tm fun γ s'' ρ'' σ'' H'' w'' re'' q => ⟨γ, s'', ρ'', w'', re'', q⟩
  · have : i = ds.length := by omega
    subst this
    obtain ⟨g, q⟩ := hd ρ' s' hI
    exact .inl ⟨it.stop γ s' H' w g, r0.nx γ s' ρ' σ' H' w re' q⟩
end
/-! ### list comprehensions -/
def wipeD (ρ : Slo) : List Nat → Slo
  | [] => ρ
  | v :: vs => (wipeD ρ vs).set v none
theorem wipe_re {K : PySem.W.Frag} {α : List Addr} {H : Hp} {σ : L2.St} {ρ : Slo} (r : Re K α H σ ρ) : ∀ vs : List Nat, Re K α H (wipe σ vs) (wipeD ρ vs)
  | [] => r
  | v :: vs => by
    have ih := wipe_re r vs
    have e1 : wipe σ (v :: vs) = (wipe σ vs).set v none := rfl
    refine ⟨by rw [e1]; show ((wipe σ vs).set v none).length = ((wipeD ρ vs).set v none).length; rw [List.length_set, List.length_set, ih.len], fun i d h => ?_⟩
    have h' : ((wipeD ρ vs).set v none)[i]? = some (some d) := h
    rw [List.getElem?_set] at h'
    by_cases hv : v = i
    · rw [if_pos hv] at h'
      split at h' <;> cases h'
    · rw [if_neg hv] at h'
      obtain ⟨x, q1, q2⟩ := ih.at_ i d h'
      exact ⟨x, by rw [e1, List.getElem?_set, if_neg hv]; exact q1, q2⟩
theorem wipe_at {σ : L2.St} : ∀ (vs : List Nat) (j : Nat), (wipe σ vs)[j]? = if j ∈ vs then (σ[j]?).map (fun _ => none) else σ[j]?
  | [], j => by rw [if_neg (by simp)]; rfl
  | v :: vs, j => by
    have ih := wipe_at (σ := σ) vs j
    show ((wipe σ vs).set v none)[j]? = _
    rw [List.getElem?_set]
    by_cases hv : v = j
    · subst hv
      rw [if_pos rfl, if_pos List.mem_cons_self]
      by_cases hl : v < (wipe σ vs).length
      · rw [if_pos hl]
        rw [wipe_length] at hl
        rw [List.getElem?_eq_getElem hl]
        rfl
      · rw [if_neg hl]
        rw [wipe_length] at hl
        rw [List.getElem?_eq_none (Nat.le_of_not_lt hl)]
        rfl
    · rw [if_neg hv, ih]
      by_cases hj : j ∈ vs
      · rw [if_pos hj, if_pos (List.mem_cons_of_mem _ hj)]
      · rw [if_neg hj, if_neg (fun z => (List.mem_cons.mp z).elim (fun q => hv q.symm) hj)]
theorem wipe_set {σ : L2.St} {vs : List Nat} {i : Nat} {v : Option V} (hi : i ∈ vs) : wipe (σ.set i v) vs = wipe σ vs := by
  apply List.ext_getElem?
  intro j
  rw [wipe_at, wipe_at]
  by_cases hj : j ∈ vs
  · rw [if_pos hj, if_pos hj, List.getElem?_set]
    by_cases hij : i = j
    · subst hij
      rw [if_pos rfl]
      by_cases hl : i < σ.length
      · rw [if_pos hl, List.getElem?_eq_getElem hl]; rfl
      · rw [if_neg hl, List.getElem?_eq_none (Nat.le_of_not_lt hl)]
    · rw [if_neg hij]
  · rw [if_neg hj, if_neg hj, List.getElem?_set, if_neg (fun z => hj (by rw [← z]; exact hi))]
theorem wipe_wipe {σ : L2.St} {vs : List Nat} : wipe (wipe σ vs) vs = wipe σ vs := by
  apply List.ext_getElem?
  intro j
  rw [wipe_at, wipe_at]
  by_cases hj : j ∈ vs
  · rw [if_pos hj, if_pos hj]
    cases σ[j]? <;> rfl
  · rw [if_neg hj, if_neg hj]
/-- the target of a comprehension: names, a pair of names, a name beside a pair of names -/
inductive Tgt where
  | one (i : Nat) | two (i j : Nat) | nest (i j k : Nat)
def Tgt.slots : Tgt → List Nat
  | .one i => [i] | .two i j => [i, j] | .nest i j k => [i, j, k]
def Tgt.g (K : PySem.W.Frag) : Tgt → TG
  | .one i => gName i
  | .two i j => gTup K 2 (gCons (gName i) (gCons (gName j) gNil))
  | .nest i j k => gTup K 2 (gCons (gName i) (gCons (gTup K 2 (gCons (gName j) (gCons (gName k) gNil))) gNil))
def Tgt.bind (ρ : Slo) : Tgt → D → Option Slo
  | .one i, d => some (ρ.set i (some d))
  | .two i j, .tup [a, b] => some ((ρ.set i (some a)).set j (some b))
  | .nest i j k, .tup [a, .tup [b, c]] => some (((ρ.set i (some a)).set j (some b)).set k (some c))
  | _, _ => none
theorem tgt_ok {K : PySem.W.Frag} {α : List Addr} {H : Hp} {σ : L2.St} {ρ ρ2 : Slo} {vs : List Nat} (t : Tgt) (hv : ∀ i ∈ t.slots, i ∈ vs) {d : D} {v : V} (re : Re K α H (wipe σ vs) ρ) (da : Da K α H d v) (hb : t.bind ρ d = some ρ2) {R : L2.St → Hp → Prop} (h : ∀ σ2, wipe σ2 vs = wipe σ vs → Re K α H σ2 ρ2 → R σ2 H) : t.g K v (wipe σ vs) H R := by
  cases t with
  | one i =>
    cases hb
    exact h _ ((wipe_set (hv i (by simp [Tgt.slots]))).trans wipe_wipe) (re.set i da)
  | two i j =>
    have hd : ∃ a b, d = .tup [a, b] := by
      unfold Tgt.bind at hb
      split at hb
      · rename_i e; cases e
      · rename_i a b e _; exact ⟨_, _, rfl⟩
      · rename_i e; cases e
      · cases hb
    obtain ⟨a, b, rfl⟩ := hd
    cases hb
    obtain ⟨p, xs, rfl, q, x, r, rfl, d1, y, r2, rfl, d2, rfl⟩ := da
    refine ⟨p, [x, y], rfl, tupAt q, rfl, x, [y], rfl, y, [], rfl, rfl, ?_⟩
    exact h _ (((wipe_set (hv j (by simp [Tgt.slots]))).trans (wipe_set (hv i (by simp [Tgt.slots])))).trans wipe_wipe) ((re.set i d1).set j d2)
  | nest i j k =>
    have hd : ∃ a b c, d = .tup [a, .tup [b, c]] := by
      unfold Tgt.bind at hb
      split at hb
      · rename_i e; cases e
      · rename_i e; cases e
      · exact ⟨_, _, _, rfl⟩
      · cases hb
    obtain ⟨a, b, c, rfl⟩ := hd
    cases hb
    obtain ⟨p, xs, rfl, q, x, r, rfl, d1, y, r2, rfl, d2, rfl⟩ := da
    obtain ⟨p2, xs2, rfl, q2, x2, r3, rfl, d3, y2, r4, rfl, d4, rfl⟩ := d2
    refine ⟨p, [x, .ref p2], rfl, tupAt q, rfl, x, [.ref p2], rfl, .ref p2, [], rfl, ⟨p2, [x2, y2], rfl, tupAt q2, rfl, x2, [y2], rfl, y2, [], rfl, rfl, ?_⟩⟩
    exact ⟨rfl, h _ ((((wipe_set (hv k (by simp [Tgt.slots]))).trans (wipe_set (hv j (by simp [Tgt.slots])))).trans (wipe_set (hv i (by simp [Tgt.slots])))).trans wipe_wipe) (((re.set i d1).set j d3).set k d4)⟩
end Mp
end T_MpH

section T_MpI
set_option autoImplicit true
set_option maxRecDepth 100000
set_option maxHeartbeats 4000000
namespace Mp
open PySem PySem.Spec PyProof.Rows L2
section
variable {X : Cx} {ρ : Slo} {s : Sto} {Φ : D → Sto → Prop} {pos : Pos} {elt tg iter : Expr} {ifs : List Expr} {scope : Scope}
/-- the comprehension's own context -/
abbrev Blk (X : Cx) (scope : Scope) (sh : Shared) (H : Hp) (C : Addr) (cl : List (Str × Addr)) (fp : List Addr) : Cx := X.blk sh H scope (compEnvC scope cl C X.env) fp
def TsB (X : Cx) (scope : Scope) (ρ : Slo) (s : Sto) (ifs : List Expr) (Φ : Bool → Sto → Prop) : Prop := match ifs with
  | [] => Φ true s
  | [c] => ∀ sh H C cl fp, TM (Blk X scope sh H C cl fp) ρ s c Φ
  | _ => False
def tsT (X : Cx) (scope : Scope) (ifs : List Expr) : TT := match ifs with
  | [] => tYes
  | [c] => fun σ H Q => ∀ sh H0 C cl fp, RT (Blk X scope sh H0 C cl fp) σ H c Q
  | _ => fun _ _ _ => False
theorem tsT_ok (sh : Shared) (H : Hp) (C : Addr) (cl : List (Str × Addr)) (fp : List Addr) : PTs (Blk X scope sh H C cl fp) ifs (tsT X scope ifs) := by
  match ifs with
  | [] => exact pts_nil
  | [c] => exact pts_one ⟨fun pins s σ H' Q I h => (h sh H C cl fp).go pins s I⟩
  | _ :: _ :: _ => exact ⟨fun pins s σ H' Q I h => h.elim⟩
theorem tsT_run {α : List Addr} {σ : L2.St} {H : Hp} {Q : Bool → Hp → Prop} {Ψ : Bool → Sto → Prop} (h : TsB X scope ρ s ifs Ψ) (so : Sok X.K α s H) (re : Re X.K α H σ ρ) (k : KB X.K α H Ψ Q) : tsT X scope ifs σ H Q := by
  match ifs, h with
  | [], h => exact k.now so h
  | [c], h => exact fun sh H0 C cl fp => h sh H0 C cl fp α σ H Q so re k
theorem app_nil_of_len {α γ : List Addr} {n : Nat} (h : (α ++ γ).length = n) (h2 : α.length = n) : γ = [] := by
  rw [List.length_append, h2] at h
  exact List.length_eq_zero_iff.mp (by omega)
/-- what a comprehension asks -/
def LcM (X : Cx) (ρ : Slo) (s : Sto) (elt tg iter : Expr) (ifs : List Expr) (scope : Scope) (own : List (Str × Nat)) (t : Tgt) (Φ : D → Sto → Prop) : Prop := ∀ (α : List Addr) (σ : L2.St) (H : Hp) (Q : VK), Sok X.K α s H → Re X.K α H σ ρ → K1 X.K α H Φ Q →
  tLc (fun σ H R => RI X σ H tg iter R) (t.g X.K) (tsT X scope ifs) (fun σ H Q => ∀ sh H0 C cl fp, RE (Blk X scope sh H0 C cl fp) σ H elt Q) (own.map (·.2)) σ H Q
theorem em_of_lc {own : List (Str × Nat)} {t : Tgt} (hN : X.N.Nodup) (ok : BlkOk X.N X.env.scope scope own) (hg : ∀ sh H C cl fp, PG (Blk X scope sh H C cl fp) tg (t.g X.K)) (h : LcM X ρ s elt tg iter ifs scope own t Φ)
    (hc : X.calm = true := by rfl) (hs : ∀ x, foldedSetIterable iter X.env x = pure x := by intro _; rfl) : EM X ρ s (.ListComp elt [⟨tg, iter, ifs, 0⟩] scope pos) Φ := by
  intro α σ H Q so re kk
  exact toRE (pe_lc (te := fun σ H Q => ∀ sh H0 C cl fp, RE (Blk X scope sh H0 C cl fp) σ H elt Q) (tt := tsT X scope ifs) hc hN pi_sem ok hg tsT_ok (fun sh H0 C cl fp => ⟨fun pins s' σ' H' Q' I h => (h sh H0 C cl fp).go pins s' I⟩) hs) (h α σ H Q so re kk)
/-- y = [.. for ..] -/
theorem sm_of_lc {own : List (Str × Nat)} {t : Tgt} {y : Str} {py spos : Pos} {N : En} (i : Nat) (hN : X.N.Nodup) (ok : BlkOk X.N X.env.scope scope own) (hg : ∀ sh H C cl fp, PG (Blk X scope sh H C cl fp) tg (t.g X.K)) (h : LcM X ρ s elt tg iter ifs scope own t fun d s1 => N.nx (ρ.set i (some d)) s1)
    (hi : X.N[i]? = some y := by rfl) (hyl : X.env.scope.names.lookup y = some .local := by rfl) (hsw : swapsWith (.ListComp elt [⟨tg, iter, ifs, 0⟩] scope pos) (some (.Name y py)) spos.line X.env = pure true := by rfl)
    (hc : X.calm = true := by rfl) (hs : ∀ x, foldedSetIterable iter X.env x = pure x := by intro _; rfl) : SM X ρ s (.Assign [.Name y py] (.ListComp elt [⟨tg, iter, ifs, 0⟩] scope pos) spos) N := by
  intro α σ H E so re r
  exact toRS (ps_setLc (te := fun σ H Q => ∀ sh H0 C cl fp, RE (Blk X scope sh H0 C cl fp) σ H elt Q) (tt := tsT X scope ifs) hc hN hi hyl hsw pi_sem ok hg tsT_ok (fun sh H0 C cl fp => ⟨fun pins s' σ' H' Q' I h => (h sh H0 C cl fp).go pins s' I⟩) hs)
    (h α σ H _ so re fun γ s1 d v H1 w1 da q => r.nx γ s1 _ _ H1 w1 ((w1.re re).set i da) q)
theorem lc_m {own : List (Str × Nat)} (t : Tgt) (hv : ∀ i ∈ t.slots, i ∈ own.map (·.2))
    (h : IM X ρ s tg iter fun ds G s0 => ∃ I : Nat → List D → Sto → Prop, I 0 [] s0 ∧
      (∀ (i : Nat) (x : D) (acc : List D) (s' : Sto), ds[i]? = some x → I i acc s' → s'.length = s0.length ∧ G (s' ++ [.lst acc]) ∧ ∃ ρ2, t.bind (wipeD ρ (own.map (·.2))) x = some ρ2 ∧
        TsB X scope ρ2 (s' ++ [.lst acc]) ifs fun b s3 => Bif b (∀ sh H C cl fp, EM (Blk X scope sh H C cl fp) ρ2 s3 elt fun y s4 => ∃ s5, s4 = s5 ++ [.lst acc] ∧ s5.length = s0.length ∧ acc.length ≤ 1000 ∧ I (i + 1) (acc ++ [y]) s5) (∃ s5, s3 = s5 ++ [.lst acc] ∧ s5.length = s0.length ∧ I (i + 1) acc s5)) ∧
      ∀ acc s', I ds.length acc s' → s'.length = s0.length ∧ G (s' ++ [.lst acc]) ∧ ((∀ m ∈ s0, BdM s0.length m) → (∀ m ∈ s', BdM s0.length m)) ∧ BdL s0.length acc ∧ Φ (.lst acc) s') : LcM X ρ s elt tg iter ifs scope own t Φ := by
  intro α σ H Q so re kk
  refine h α σ H _ so re ?_
  rintro γ0 s0 ds G J H0 w0 it ⟨I, i0, step, done⟩
  intro Dn hDn
  have kk0 := kk.step so w0
  have so0 := w0.ok
  refine ⟨fun i m H' => m = ds.length - i ∧ i ≤ ds.length ∧ ∃ s' acc, Wl X.K (α ++ γ0) H0 [Dn] (s' ++ [.lst acc]) H' ∧ s'.length = s0.length ∧ I i acc s', ⟨ds.length, by simp, Nat.zero_le _, s0, [], Wl.cell so0 hDn (m := .lst []) ⟨[], upd_same, rfl⟩, rfl, i0⟩, ?_⟩
  rintro i m H' ⟨rfl, hi, s', acc, w, hl, hI⟩
  by_cases hlt : i < ds.length
  · obtain ⟨_, g, ρ2, hb, body⟩ := step i _ acc s' (List.getElem?_eq_getElem hlt) hI
    refine .inr ⟨it.go i [Dn] _ H' hlt w g, fun H2 => ∃ s' acc, Wl X.K (α ++ γ0) H0 [Dn] (s' ++ [.lst acc]) H2 ∧ s'.length = s0.length ∧ I (i + 1) acc s', fun H2 ⟨s2, acc2, z⟩ => ⟨ds.length - (i + 1), by omega, rfl, hlt, s2, acc2, z⟩, fun v H2 y => ?_⟩
    obtain ⟨k2, d2⟩ := it.yld i _ [Dn] _ H' v H2 (List.getElem?_eq_getElem hlt) w g y
    have w2 := w.ext so0 k2
    have re2 : Re X.K ((α ++ γ0) ++ [Dn]) H2 (wipe σ (own.map (·.2))) (wipeD ρ (own.map (·.2))) := wipe_re (w2.re (w0.re re)) _
    refine tgt_ok t hv re2 d2 hb fun σ2 hw re3 => ⟨hw, ?_⟩
    have lenA : ((α ++ γ0) ++ [Dn]).length = s0.length + 1 := by rw [w2.ok.len, List.length_append, hl] <;> rfl
    refine tsT_run body w2.ok re3 fun δ s3 b H3 w3 q => bif_ite ⟨fun z => ?_, fun z => ?_⟩
    · intro sh Hb C cl fp
      refine q.1 z sh Hb C cl fp _ σ2 H3 _ w3.ok (w3.re re3) ?_
      rintro ε s4 yd yv H4 w4 dy ⟨s5, rfl, hl5, hla, hI5⟩
      have lenB : (((α ++ γ0) ++ [Dn]) ++ δ ++ ε).length = s0.length + 1 := by rw [w4.ok.len, List.length_append, hl5] <;> rfl
      have e0 : δ ++ ε = [] := app_nil_of_len (α := (α ++ γ0) ++ [Dn]) (by rw [← List.append_assoc]; exact lenB) lenA
      obtain ⟨rfl, rfl⟩ := List.append_eq_nil_iff.mp e0
      have w34 := w3.trans w2.ok w4
      have wt := w2.trans so0 w34
      simp only [List.append_nil] at wt w4 w34 dy
      have c := wt.ok.cel s0.length Dn (.lst acc) (by rw [← so0.len, List.getElem?_append_right (Nat.le_refl _), Nat.sub_self]; rfl) (by rw [← hl5, List.getElem?_append_right (Nat.le_refl _), Nat.sub_self]; rfl)
      obtain ⟨vacc, c1, c2⟩ := c
      have hp : Dn ∈ (α ++ γ0) ++ [Dn] := by simp
      refine ⟨vacc, c1, by rw [← c2.length]; exact Nat.lt_of_le_of_lt hla (by decide), s5, acc ++ [yd], ?_, hl5, hI5⟩
      have wp := Wl.put wt.ok (j := s0.length) (p := Dn) (m := .lst (acc ++ [yd])) (o := .lst (vacc ++ [yv])) (by rw [← so0.len, List.getElem?_append_right (Nat.le_refl _), Nat.sub_self]; rfl) ⟨_, upd_same, (c2.append (DaL.one dy)).kp (kp_upd hp)⟩
      have es : (s5 ++ [MO.lst acc]).set s0.length (.lst (acc ++ [yd])) = s5 ++ [.lst (acc ++ [yd])] := by
        rw [← hl5, List.set_append_right _ _ (Nat.le_refl _), Nat.sub_self]
        rfl
      rw [es] at wp
      have wz := wt.trans so0 wp
      rw [List.append_nil] at wz
      exact wz
    · obtain ⟨s5, rfl, hl5, hI5⟩ := q.2 z
      have lenB : (((α ++ γ0) ++ [Dn]) ++ δ).length = s0.length + 1 := by rw [w3.ok.len, List.length_append, hl5] <;> rfl
      have e0 : δ = [] := app_nil_of_len lenB lenA
      subst e0
      have wt := w2.trans so0 w3
      rw [List.append_nil] at wt
      exact ⟨s5, acc, wt, hl5, hI5⟩
  · have : i = ds.length := by omega
    subst this
    obtain ⟨_, g, bd, bl, q⟩ := done acc s' hI
    refine .inl ⟨it.stop [Dn] _ H' w g, ?_⟩
    have len0 : s'.length = (α ++ γ0).length := by rw [hl, so0.len]
    have so1 : Sok X.K (α ++ γ0) s' H' := w.ok.drop len0 fun m hm => by rw [hl]; exact bd so0.bd m hm
    have c := w.ok.cel s0.length Dn (.lst acc) (by rw [← so0.len, List.getElem?_append_right (Nat.le_refl _), Nat.sub_self]; rfl) (by rw [← hl, List.getElem?_append_right (Nat.le_refl _), Nat.sub_self]; rfl)
    obtain ⟨vacc, c1, c2⟩ := c
    have nD : Dn ∉ α ++ γ0 := so0.free hDn
    exact kk0 [] s' (.lst acc) (.ref Dn) H' ⟨w.kp, (fun _ h => nomatch h), by rw [List.append_nil]; exact so1⟩ (da_nil ⟨Dn, vacc, rfl, nD, c1, DaL.drop' acc vacc c2 (by rw [so0.len]; exact bl)⟩) q
theorem em_lc {own : List (Str × Nat)} (t : Tgt) (hN : X.N.Nodup) (ok : BlkOk X.N X.env.scope scope own) (hv : ∀ i ∈ t.slots, i ∈ own.map (·.2)) (hg : ∀ sh H C cl fp, PG (Blk X scope sh H C cl fp) tg (t.g X.K))
    (h : IM X ρ s tg iter fun ds G s0 => ∃ I : Nat → List D → Sto → Prop, I 0 [] s0 ∧
      (∀ (i : Nat) (x : D) (acc : List D) (s' : Sto), ds[i]? = some x → I i acc s' → s'.length = s0.length ∧ G (s' ++ [.lst acc]) ∧ ∃ ρ2, t.bind (wipeD ρ (own.map (·.2))) x = some ρ2 ∧
        TsB X scope ρ2 (s' ++ [.lst acc]) ifs fun b s3 => Bif b (∀ sh H C cl fp, EM (Blk X scope sh H C cl fp) ρ2 s3 elt fun y s4 => ∃ s5, s4 = s5 ++ [.lst acc] ∧ s5.length = s0.length ∧ acc.length ≤ 1000 ∧ I (i + 1) (acc ++ [y]) s5) (∃ s5, s3 = s5 ++ [.lst acc] ∧ s5.length = s0.length ∧ I (i + 1) acc s5)) ∧
      ∀ acc s', I ds.length acc s' → s'.length = s0.length ∧ G (s' ++ [.lst acc]) ∧ ((∀ m ∈ s0, BdM s0.length m) → (∀ m ∈ s', BdM s0.length m)) ∧ BdL s0.length acc ∧ Φ (.lst acc) s')
    (hc : X.calm = true := by rfl) (hs : ∀ x, foldedSetIterable iter X.env x = pure x := by intro _; rfl) : EM X ρ s (.ListComp elt [⟨tg, iter, ifs, 0⟩] scope pos) Φ := em_of_lc hN ok hg (lc_m t hv h) hc hs
theorem IsL.app {d : D} {ds : List D} {g : Sto} (h : IsL s d ds) : IsL (s ++ g) d ds := by
  cases h with
  | lst _ => exact .lst _
  | ref h => exact .ref (by rw [List.getElem?_append_left (List.getElem?_eq_some_iff.mp h).1]; exact h)
theorem bdL_of {n : Nat} : ∀ {ds : List D}, (∀ d ∈ ds, Bd n d) → BdL n ds
  | [], _ => True.intro
  | d :: ds, h => ⟨h d List.mem_cons_self, bdL_of fun x hx => h x (List.mem_cons_of_mem _ hx)⟩
theorem bdL_at {n : Nat} : ∀ {ds : List D}, BdL n ds → ∀ d ∈ ds, Bd n d
  | [], _, d, hd => nomatch hd
  | _ :: ds, h, d, hd => by
    rcases List.mem_cons.mp hd with e | e
    · rw [e]; exact h.1
    · exact bdL_at h.2 d e
/-- a comprehension that changes nothing: which are kept, what is made of each -/
theorem lcP_m {own : List (Str × Nat)} (t : Tgt)
    (h : IM X ρ s tg iter fun ds G s0 => ∃ (keep : D → Bool) (val : D → D), (∀ m, G (s0 ++ [m])) ∧ ds.length ≤ 1000 ∧
      (∀ x ∈ ds, ∃ ρ2, t.bind (wipeD ρ (own.map (·.2))) x = some ρ2 ∧ ∀ s' m, s' = s0 ++ [m] → TsB X scope ρ2 s' ifs fun b s3 => b = keep x ∧ s3 = s' ∧ (b = true → ∀ sh H C cl fp, EM (Blk X scope sh H C cl fp) ρ2 s' elt fun y s4 => y = val x ∧ s4 = s')) ∧
      (∀ x ∈ ds, keep x = true → Bd s0.length (val x)) ∧ Φ (.lst ((ds.filter keep).map val)) s0) (hv : ∀ i ∈ t.slots, i ∈ own.map (·.2)) : LcM X ρ s elt tg iter ifs scope own t Φ := by
  refine lc_m t hv ?_
  intro α σ H R so re k
  refine h α σ H R so re fun γ s0 ds G J H1 w it => ?_
  rintro ⟨keep, val, g, hl, body, bd, q⟩
  refine k γ s0 ds G J H1 w it ⟨fun i acc s' => s' = s0 ∧ acc = ((ds.take i).filter keep).map val, ⟨rfl, rfl⟩, ?_, ?_⟩
  · rintro i x acc s' hx ⟨rfl, rfl⟩
    obtain ⟨ρ2, hb, hbody⟩ := body x (List.mem_of_getElem? hx)
    refine ⟨rfl, g _, ρ2, hb, ?_⟩
    have z := hbody (s' ++ [MO.lst (((ds.take i).filter keep).map val)]) (.lst (((ds.take i).filter keep).map val)) rfl
    have et : ds.take (i + 1) = ds.take i ++ [x] := by
      rw [List.take_add_one, hx]
      rfl
    have alen : (((ds.take i).filter keep).map val).length ≤ 1000 := by
      rw [List.length_map]
      exact Nat.le_trans (List.length_filter_le _ _) (by rw [List.length_take]; omega)
    have fin : ∀ (b : Bool) (s3 : Sto), (b = keep x ∧ s3 = s' ++ [.lst (((ds.take i).filter keep).map val)] ∧ (b = true → ∀ sh H C cl fp, EM (Blk X scope sh H C cl fp) ρ2 (s' ++ [.lst (((ds.take i).filter keep).map val)]) elt fun y s4 => y = val x ∧ s4 = s' ++ [.lst (((ds.take i).filter keep).map val)])) →
        Bif b (∀ sh H C cl fp, EM (Blk X scope sh H C cl fp) ρ2 s3 elt fun y s4 => ∃ s5, s4 = s5 ++ [.lst (((ds.take i).filter keep).map val)] ∧ s5.length = s'.length ∧ (((ds.take i).filter keep).map val).length ≤ 1000 ∧ (s5 = s' ∧ (((ds.take i).filter keep).map val) ++ [y] = ((ds.take (i + 1)).filter keep).map val)) (∃ s5, s3 = s5 ++ [.lst (((ds.take i).filter keep).map val)] ∧ s5.length = s'.length ∧ (s5 = s' ∧ (((ds.take i).filter keep).map val) = ((ds.take (i + 1)).filter keep).map val)) := by
      rintro b s3 ⟨rfl, rfl, he⟩
      refine ⟨fun hb => fun sh H C cl fp => em_mono (he hb sh H C cl fp) ?_, fun hb => ⟨s', rfl, rfl, rfl, ?_⟩⟩
      · rintro y s4 ⟨rfl, rfl⟩
        refine ⟨s', rfl, rfl, alen, rfl, ?_⟩
        rw [et, List.filter_append, List.map_append, List.filter_cons_of_pos hb]
        rfl
      · rw [et, List.filter_append, List.filter_cons_of_neg (by rw [hb]; exact Bool.false_ne_true)]
        rw [List.filter_nil, List.append_nil]
    match ifs, z with
    | [], z => exact fin _ _ z
    | [c], z =>
      intro sh Hc C cl fp α σ H Q so re kb
      exact z sh Hc C cl fp α σ H Q so re fun γ s3 b H1 w qq => kb γ s3 b H1 w (fin b s3 qq)
  · rintro acc s' ⟨rfl, rfl⟩
    rw [List.take_length]
    refine ⟨rfl, g _, fun hb => hb, bdL_of fun d hd => ?_, q⟩
    obtain ⟨x, hx, rfl⟩ := List.mem_map.mp hd
    obtain ⟨hx1, hx2⟩ := List.mem_filter.mp hx
    exact bd x hx1 hx2
theorem em_lcP {own : List (Str × Nat)} (t : Tgt) (hN : X.N.Nodup) (ok : BlkOk X.N X.env.scope scope own)
    (h : IM X ρ s tg iter fun ds G s0 => ∃ (keep : D → Bool) (val : D → D), (∀ m, G (s0 ++ [m])) ∧ ds.length ≤ 1000 ∧
      (∀ x ∈ ds, ∃ ρ2, t.bind (wipeD ρ (own.map (·.2))) x = some ρ2 ∧ ∀ s' m, s' = s0 ++ [m] → TsB X scope ρ2 s' ifs fun b s3 => b = keep x ∧ s3 = s' ∧ (b = true → ∀ sh H C cl fp, EM (Blk X scope sh H C cl fp) ρ2 s' elt fun y s4 => y = val x ∧ s4 = s')) ∧
      (∀ x ∈ ds, keep x = true → Bd s0.length (val x)) ∧ Φ (.lst ((ds.filter keep).map val)) s0)
    (hg : ∀ sh H C cl fp, PG (Blk X scope sh H C cl fp) tg (t.g X.K))
    (hv : ∀ i ∈ t.slots, i ∈ own.map (·.2) := by decide) (hc : X.calm = true := by rfl) (hs : ∀ x, foldedSetIterable iter X.env x = pure x := by intro _; rfl) : EM X ρ s (.ListComp elt [⟨tg, iter, ifs, 0⟩] scope pos) Φ := em_of_lc hN ok hg (lcP_m t h hv) hc hs
theorem sm_lcP {own : List (Str × Nat)} {y : Str} {py spos : Pos} {N : En} (i : Nat) (t : Tgt) (hN : X.N.Nodup) (ok : BlkOk X.N X.env.scope scope own)
    (h : IM X ρ s tg iter fun ds G s0 => ∃ (keep : D → Bool) (val : D → D), (∀ m, G (s0 ++ [m])) ∧ ds.length ≤ 1000 ∧
      (∀ x ∈ ds, ∃ ρ2, t.bind (wipeD ρ (own.map (·.2))) x = some ρ2 ∧ ∀ s' m, s' = s0 ++ [m] → TsB X scope ρ2 s' ifs fun b s3 => b = keep x ∧ s3 = s' ∧ (b = true → ∀ sh H C cl fp, EM (Blk X scope sh H C cl fp) ρ2 s' elt fun y s4 => y = val x ∧ s4 = s')) ∧
      (∀ x ∈ ds, keep x = true → Bd s0.length (val x)) ∧ N.nx (ρ.set i (some (.lst ((ds.filter keep).map val)))) s0)
    (hg : ∀ sh H C cl fp, PG (Blk X scope sh H C cl fp) tg (t.g X.K)) (hv : ∀ i ∈ t.slots, i ∈ own.map (·.2) := by decide)
    (hi : X.N[i]? = some y := by rfl) (hyl : X.env.scope.names.lookup y = some .local := by rfl) (hsw : swapsWith (.ListComp elt [⟨tg, iter, ifs, 0⟩] scope pos) (some (.Name y py)) spos.line X.env = pure true := by rfl)
    (hc : X.calm = true := by rfl) (hs : ∀ x, foldedSetIterable iter X.env x = pure x := by intro _; rfl) : SM X ρ s (.Assign [.Name y py] (.ListComp elt [⟨tg, iter, ifs, 0⟩] scope pos) spos) N := sm_of_lc i hN ok hg (lcP_m t h hv) hi hyl hsw hc hs
end
/-! ### the targets -/
section
variable {X : Cx} {scope : Scope} {pos p1 p2 p3 p4 : Pos}
theorem tg_one {x : Str} (i : Nat) (hN : X.N.Nodup) (hi : X.N[i]? = some x := by rfl) (hx : (compEnvC scope [] 0 X.env).scope.names.lookup x = some .local := by rfl) : ∀ sh H C cl fp, PG (Blk X scope sh H C cl fp) (.Name x pos) ((Tgt.one i).g X.K) :=
  fun sh H C cl fp => pg_name (X := Blk X scope sh H C cl fp) hN hi (.inl hx) (.inr hx)
theorem tg_two {x y : Str} {k : Nat} (i j : Nat) (hN : X.N.Nodup) (hc : X.calm = true := by rfl) (hi : X.N[i]? = some x := by rfl) (hj : X.N[j]? = some y := by rfl) (hx : (compEnvC scope [] 0 X.env).scope.names.lookup x = some .local := by rfl) (hy : (compEnvC scope [] 0 X.env).scope.names.lookup y = some .local := by rfl) :
    ∀ sh H C cl fp, PG (Blk X scope sh H C cl fp) (.Tuple [.Name x p1, .Name y p2] k pos) ((Tgt.two i j).g X.K) :=
  fun sh H C cl fp => pg_tup (X := Blk X scope sh H C cl fp) hc (pgs_cons (pg_name hN hi (.inl hx) (.inr hx)) (pgs_cons (pg_name hN hj (.inl hy) (.inr hy)) pgs_nil))
theorem tg_nest {x y z : Str} {k k2 : Nat} (i j l : Nat) (hN : X.N.Nodup) (hc : X.calm = true := by rfl) (hi : X.N[i]? = some x := by rfl) (hj : X.N[j]? = some y := by rfl) (hl : X.N[l]? = some z := by rfl) (hx : (compEnvC scope [] 0 X.env).scope.names.lookup x = some .local := by rfl) (hy : (compEnvC scope [] 0 X.env).scope.names.lookup y = some .local := by rfl) (hz : (compEnvC scope [] 0 X.env).scope.names.lookup z = some .local := by rfl) :
    ∀ sh H C cl fp, PG (Blk X scope sh H C cl fp) (.Tuple [.Name x p1, .Tuple [.Name y p2, .Name z p3] k2 p4] k pos) ((Tgt.nest i j l).g X.K) :=
  fun sh H C cl fp => pg_tup (X := Blk X scope sh H C cl fp) hc (pgs_cons (pg_name hN hi (.inl hx) (.inr hx)) (pgs_cons (pg_tup hc (pgs_cons (pg_name hN hj (.inl hy) (.inr hy)) (pgs_cons (pg_name hN hl (.inl hz) (.inr hz)) pgs_nil))) pgs_nil))
end
end Mp
end T_MpI

section T_MpJ
set_option autoImplicit true
set_option maxRecDepth 100000
set_option maxHeartbeats 4000000
namespace Mp
open PySem PySem.Spec PyProof.Rows L2
section
variable {X : Cx} {ρ : Slo} {s : Sto} {Φ : D → Sto → Prop} {pos apos p : Pos} {e o f : Expr} {es : List Expr} {x : Str}
/-! ### calls of built-ins -/
theorem em_callB {id : String} (hm : X.mg x = none) (h : AM X ρ s (e :: es) fun ds s1 => VC X (.builtin id) ds s1 Φ) (hg : Gl X x := by rfl) (hv : bootBuiltins x = some (.builtin id) := by decide +kernel) (hn : x ≠ "__name__" := by decide) (hdb : (x == ("__debug__" : Str)) = false := by decide)
    (he : starEach (e :: es) X.env = (false, eval e X.env) :: starEach es X.env := by rfl) (hpl : (backTo pos (starEach es X.env)).any (·.1) = false := by rfl) : EM X ρ s (.Call (.Name x p) (e :: es) [] pos) Φ := by
  intro α σ H Q so re k
  refine toRE (pe_callB callS_ok hg hm hv pa_sem hn hdb he hpl) (h α σ H _ so re fun γ s1 ds vs H1 w1 d1 q => ?_)
  exact q _ H1 vs Q w1.ok d1 (k.step so w1)
theorem em_callTy {T : String} (hm : X.mg x = none) (h : AM X ρ s (e :: es) fun ds s1 => VC X (.type T) ds s1 Φ) (hg : Gl X x := by rfl) (hv : bootBuiltins x = some (.type T) := by decide +kernel) (hn : x ≠ "__name__" := by decide) (hdb : (x == ("__debug__" : Str)) = false := by decide)
    (he : starEach (e :: es) X.env = (false, eval e X.env) :: starEach es X.env := by rfl) (hpl : (backTo pos (starEach es X.env)).any (·.1) = false := by rfl) : EM X ρ s (.Call (.Name x p) (e :: es) [] pos) Φ := by
  intro α σ H Q so re k
  refine toRE (pe_callTy callS_ok hg hm hv pa_sem hn hdb he hpl) (h α σ H _ so re fun γ s1 ds vs H1 w1 d1 q => ?_)
  exact q _ H1 vs Q w1.ok d1 (k.step so w1)
theorem vc_lenT {ds : List D} (h : Φ (.int (ds.length : Int)) s) : VC X (.builtin "len") [.tup ds] s Φ := vc_of call_len_seq fun α H vs Q so dl k => by
  obtain ⟨v, r, rfl, ⟨p, xs, rfl, q, l⟩, rfl⟩ := dl
  exact ⟨p, xs, rfl, .inr (tupAt q), by rw [← l.length]; exact k.nowI so h⟩
theorem vc_lenL {d : D} {ds : List D} (hd : IsL s d ds) (h : Φ (.int (ds.length : Int)) s) : VC X (.builtin "len") [d] s Φ := vc_of call_len_seq fun α H vs Q so dl k => by
  obtain ⟨v, r, rfl, d1, rfl⟩ := dl
  obtain ⟨p, xs, rfl, q, l⟩ := hd.at_ so d1
  exact ⟨p, xs, rfl, .inl (SqL.of q), by rw [← l.length]; exact k.nowI so h⟩
theorem vc_abs {i : Int} (h : Φ (.int (if i < 0 then -i else i)) s) : VC X (.builtin "abs") [.int i] s Φ := vc_of call_abs fun α H vs Q so dl k => by
  obtain ⟨v, r, rfl, rfl, rfl⟩ := dl
  exact ⟨i, rfl, k.nowI so h⟩
theorem vc_min {i j : Int} (hc : X.calm = true) (h : Φ (.int (if j < i then j else i)) s) : VC X (.builtin "min") [.int i, .int j] s Φ := vc_of (call_min2 hc) fun α H vs Q so dl k => by
  obtain ⟨v, r, rfl, rfl, v, r, rfl, rfl, rfl⟩ := dl
  exact ⟨i, j, rfl, k.nowI so h⟩
theorem vc_max {i j : Int} (hc : X.calm = true) (h : Φ (.int (if j > i then j else i)) s) : VC X (.builtin "max") [.int i, .int j] s Φ := vc_of (call_max2 hc) fun α H vs Q so dl k => by
  obtain ⟨v, r, rfl, rfl, v, r, rfl, rfl, rfl⟩ := dl
  exact ⟨i, j, rfl, k.nowI so h⟩
theorem vc_intB {b : Bool} (h : Φ (.int (if b then 1 else 0)) s) : VC X (.type "int") [.bl b] s Φ := vc_of call_int1 fun α H vs Q so dl k => by
  obtain ⟨v, r, rfl, rfl, rfl⟩ := dl
  exact .inr ⟨b, rfl, k.nowI so h⟩
/-- list(x), a list that is never changed | one of the store -/
inductive IsQ (s : Sto) : D → List D → Prop where
  | tup (ds : List D) : IsQ s (.tup ds) ds
  | lst {d : D} {ds : List D} (h : IsL s d ds) : IsQ s d ds
theorem IsQ.at_ {K : PySem.W.Frag} {α : List Addr} {H : Hp} {x : D} {ds : List D} {v : V} (h : IsQ s x ds) (so : Sok K α s H) (da : Da K α H x v) : ∃ a xs, v = .ref a ∧ (SqL K H a xs ∨ SqT K H a xs) ∧ DaL K α H ds xs := by
  cases h with
  | tup _ =>
    obtain ⟨p, xs, e, q, l⟩ := da
    exact ⟨p, xs, e, .inr (tupAt q), l⟩
  | lst h =>
    obtain ⟨p, xs, e, q, l⟩ := h.at_ so da
    exact ⟨p, xs, e, .inl (SqL.of q), l⟩
theorem vc_list {d : D} {ds : List D} (hd : IsQ s d ds) (h : Φ (.lst ds) s) : VC X (.type "list") [d] s Φ := vc_of call_list_of fun α H vs Q so dl k => by
  obtain ⟨v, r, rfl, d1, rfl⟩ := dl
  obtain ⟨p, xs, rfl, q, l⟩ := hd.at_ so d1
  exact ⟨p, xs, rfl, q, fun r hr => k.newL so l h hr⟩
theorem vc_listC {d : D} {ds : List D} (hd : IsQ s d ds) (h : Φ (.ref s.length) (s ++ [.lst ds])) : VC X (.type "list") [d] s Φ := vc_of call_list_of fun α H vs Q so dl k => by
  obtain ⟨v, r, rfl, d1, rfl⟩ := dl
  obtain ⟨p, xs, rfl, q, l⟩ := hd.at_ so d1
  exact ⟨p, xs, rfl, q, fun r hr => k.newC so l h hr⟩
theorem vc_tupL {d : D} {ds : List D} (hd : IsL s d ds) (h : Φ (.tup ds) s) : VC X (.type "tuple") [d] s Φ := vc_of call_tuple_of fun α H vs Q so dl k => by
  obtain ⟨v, r, rfl, d1, rfl⟩ := dl
  obtain ⟨p, xs, rfl, q, l⟩ := hd.at_ so d1
  exact ⟨p, xs, rfl, .inl ⟨SqL.of q, fun r hr => k.newT so l h hr⟩⟩
def blsD (bs : List Bool) : List D := bs.map D.bl
theorem dal_bls {K : PySem.W.Frag} {α : List Addr} {H : Hp} : ∀ {bs : List Bool} {xs : List V}, DaL K α H (blsD bs) xs → xs = bs.map V.bl
  | [], _, h => by cases h; rfl
  | b :: bs, _, h => by
    obtain ⟨v, r, rfl, rfl, l⟩ := h
    rw [dal_bls (bs := bs) l]
    rfl
theorem dal_ints {K : PySem.W.Frag} {α : List Addr} {H : Hp} : ∀ {ns : List Int} {xs : List V}, DaL K α H (ns.map D.int) xs → xs = ns.map V.int
  | [], _, h => by cases h; rfl
  | b :: bs, _, h => by
    obtain ⟨v, r, rfl, rfl, l⟩ := h
    rw [dal_ints (ns := bs) l]
    rfl
theorem ints_dal {K : PySem.W.Frag} {α : List Addr} {H : Hp} : ∀ ns : List Int, DaL K α H (ns.map D.int) (ns.map V.int)
  | [] => rfl
  | b :: bs => ⟨_, _, rfl, rfl, ints_dal bs⟩
theorem vc_all {d : D} {ds : List D} {bs : List Bool} (hc : X.calm = true) (hd : IsL s d ds) (e : ds = blsD bs) (h : Φ (.bl (bs.all id)) s) : VC X (.builtin "all") [d] s Φ := vc_of (cr_all hc) fun α H vs Q so dl k => by
  obtain ⟨v, r, rfl, d1, rfl⟩ := dl
  subst e
  obtain ⟨p, xs, rfl, q, l⟩ := hd.at_ so d1
  cases dal_bls l
  exact ⟨p, bs, rfl, SqL.of q, k.nowB so h⟩
theorem vc_any {d : D} {ds : List D} {bs : List Bool} (hc : X.calm = true) (hd : IsL s d ds) (e : ds = blsD bs) (h : Φ (.bl (bs.any id)) s) : VC X (.builtin "any") [d] s Φ := vc_of (cr_any hc) fun α H vs Q so dl k => by
  obtain ⟨v, r, rfl, d1, rfl⟩ := dl
  subst e
  obtain ⟨p, xs, rfl, q, l⟩ := hd.at_ so d1
  cases dal_bls l
  exact ⟨p, bs, rfl, SqL.of q, k.nowB so h⟩
/-- sorted of ints -/
theorem vc_sorted {d : D} {ds : List D} {ns : List Int} (hd : IsL s d ds) (e : ds = ns.map D.int) (hl : ns.length < 64) (h : ∀ ns' : List Int, ns'.Perm ns → ns'.Pairwise (· ≤ ·) → Φ (.lst (ns'.map D.int)) s) : VC X (.builtin "sorted") [d] s Φ := vc_of cr_sorted fun α H vs Q so dl k => by
  obtain ⟨v, r, rfl, d1, rfl⟩ := dl
  subst e
  obtain ⟨p, xs, rfl, q, l⟩ := hd.at_ so d1
  cases dal_ints l
  exact ⟨p, ns, rfl, SqL.of q, hl, fun ns' r hp hs hr => k.newL so (ints_dal ns') (h ns' hp hs) hr⟩
/-- the name of a value's type -/
def tyD : D → String
  | .non => "NoneType" | .bl _ => "bool" | .int _ => "int" | .str _ => "str" | .tup _ => "tuple" | .lst _ => "list" | _ => ""
theorem vc_isi (d : D) (ty T : String) (b : Bool) (h : Φ (.bl b) s) (hty : tyD d = ty := by rfl) (hk : kitB ty T = some b := by decide +kernel) (ht : ty ≠ "" := by decide) : VC X (.builtin "isinstance") [d, .ty T] s Φ := vc_of call_isi fun α H vs Q so dl k => by
  obtain ⟨v, r, rfl, d1, u, r2, rfl, rfl, rfl⟩ := dl
  subst hty
  have ty : TyX X.K H v (.type (tyD d)) := by
    cases d with
    | non => cases d1; exact .base .non
    | bl _ => cases d1; exact .base (.bl _)
    | int _ => cases d1; exact .base (.int _)
    | str _ => cases d1; exact .base (.str _)
    | tup ds =>
      obtain ⟨a, xs, rfl, q, _⟩ := d1
      rcases q with ⟨q, _⟩ | ⟨ob, its, n, q1, q2, _⟩
      · rcases q with q | ⟨ob, q⟩
        · exact .base (.tup q)
        · exact .fTuple q
      · exact .kTuple q1 q2
    | lst ds =>
      obtain ⟨a, xs, rfl, _, q, _⟩ := d1
      exact .base (.lst q)
    | _ => exact absurd rfl ht
  exact ⟨v, .ty T, _, .type T, b, rfl, .ty T, ty, kit_ty hk, k.nowB so h⟩
/-! ### list(range(n)), tuple(range(n)) -/
theorem rgD {K : PySem.W.Frag} {α : List Addr} {H : Hp} (n : Nat) : DaL K α H (intsD n) (rgV 0 (n : Int)) := by
  have : ∀ l : List Nat, DaL K α H (l.map fun i => .int (i : Nat)) (l.map fun i => V.int (0 + (i : Nat))) := fun l => by
    induction l with
    | nil => exact rfl
    | cons a l ih => exact ⟨_, _, rfl, by show V.int _ = V.int _; rw [Int.zero_add], ih⟩
  unfold intsD rgV
  have e : ((n : Int) - 0).toNat = n := by omega
  rw [e]
  exact this _
theorem em_listRg {pr : Pos} (hm : X.mg "list" = none) (hm2 : X.mg "range" = none) (h : EM X ρ s e fun d s1 => ∃ n : Nat, d = .int n ∧ n ≤ 1000 ∧ Φ (.lst (intsD n)) s1) (hc : X.calm = true := by rfl) (hg : Gl X "list" := by rfl) (hg2 : Gl X "range" := by rfl) {pr2 : Pos}
    (na : starEach [e] X.env = (false, eval e X.env) :: starEach [] X.env := by rfl) (na2 : starEach [.Call (.Name "range" pr) [e] [] pr2] X.env = (false, eval (.Call (.Name "range" pr) [e] [] pr2) X.env) :: starEach [] X.env := by rfl) : EM X ρ s (.Call (.Name "list" p) [.Call (.Name "range" pr) [e] [] pr2] [] pos) Φ := by
  intro α σ H Q so re k
  refine toRE (pe_listRg hc hg hm (prg_1 hg2 hm2 pe_sem na) na2) (h α σ H _ so re ?_)
  rintro γ s1 d v H1 w1 d1 ⟨n, rfl, hn, q⟩
  obtain rfl : v = .int n := d1
  exact ⟨(n : Int), rfl, RgOk.of_le (by omega) (by omega) (by omega) (by omega), fun r hr => (k.step so w1).newL w1.ok (rgD n) q hr⟩
theorem em_tupRg {pr : Pos} (hm : X.mg "tuple" = none) (hm2 : X.mg "range" = none) (h : EM X ρ s e fun d s1 => ∃ n : Nat, d = .int n ∧ n ≤ 1000 ∧ Φ (.tup (intsD n)) s1) (hc : X.calm = true := by rfl) (hg : Gl X "tuple" := by rfl) (hg2 : Gl X "range" := by rfl) {pr2 : Pos}
    (na : starEach [e] X.env = (false, eval e X.env) :: starEach [] X.env := by rfl) (na2 : starEach [.Call (.Name "range" pr) [e] [] pr2] X.env = (false, eval (.Call (.Name "range" pr) [e] [] pr2) X.env) :: starEach [] X.env := by rfl) : EM X ρ s (.Call (.Name "tuple" p) [.Call (.Name "range" pr) [e] [] pr2] [] pos) Φ := by
  intro α σ H Q so re k
  refine toRE (pe_tupRg hc hg hm (prg_1 hg2 hm2 pe_sem na) na2) (h α σ H _ so re ?_)
  rintro γ s1 d v H1 w1 d1 ⟨n, rfl, hn, q⟩
  obtain rfl : v = .int n := d1
  exact ⟨(n : Int), rfl, RgOk.of_le (by omega) (by omega) (by omega) (by omega), fun r hr => (k.step so w1).newT w1.ok (rgD n) q hr⟩
/-! ### methods of lists -/
theorem em_append {cpos : Pos} (h : EM X ρ s o fun x s1 => ∃ j, x = .ref j ∧ (∃ ds, s1[j]? = some (.lst ds)) ∧ EM X ρ s1 e fun d s2 => ∃ ds, s2[j]? = some (.lst ds) ∧ ds.length ≤ 1000 ∧ Φ .non (s2.set j (.lst (ds ++ [d]))))
    (hbase : attributeBase o "append" X.env (eval o X.env) = eval o X.env := by rfl)
    (hfew : ((backTo cpos (starEach [e] X.env)).all (fun x => !x.1) && (backToKw cpos (keywordEach [] X.env)).all (fun x => x.1.isSome)
      && decide (([e] : List Expr).length + ([] : List Keyword).length + (if ([] : List Keyword).isEmpty then 0 else 1) < 30)) = true := by rfl)
    (hline : (apos.endLine == cpos.line) = true := by rfl) (hs : starEach [e] X.env = (false, eval e X.env) :: starEach [] X.env := by rfl) : EM X ρ s (.Call (.Attribute o "append" apos) [e] [] cpos) Φ := by
  intro α σ H Q so re k
  refine toRE (pe_bm PySem.F.plainAttrs_list PySem.F.slot_list_append PySem.F.type_list_append mt_append pe_sem (pa_cons pe_sem pa_nil hs) hbase hfew hline hs rfl) (h α σ H _ so re ?_)
  rintro γ s1 x v H1 w1 d1 ⟨j, rfl, ⟨ds, hds⟩, he⟩
  obtain ⟨a, e1, e2⟩ := id d1
  obtain ⟨xs, c1, c2⟩ := w1.ok.cel j a _ e1 hds
  subst e2
  refine ⟨.inl ⟨rfl, xs, SqL.of c1⟩, he _ σ H1 _ w1.ok (w1.re re) ?_⟩
  rintro δ s2 d u H2 w2 d2 ⟨ds2, hds2, hl, q⟩
  have e1' := get_app (γ := δ) e1
  obtain ⟨ys, f1, f2⟩ := w2.ok.cel j a _ e1' hds2
  have hp : a ∈ (α ++ γ) ++ δ := List.mem_of_getElem? e1'
  refine ⟨a, ys, u, rfl, rfl, f1, by rw [← f2.length]; exact Nat.lt_of_le_of_lt hl (by decide), ?_⟩
  exact ((k.step so w1).step w1.ok w2) [] _ .non .non _ (Wl.put w2.ok e1' (m := .lst (ds2 ++ [d])) ⟨_, upd_same, (f2.append (DaL.one d2)).kp (kp_upd hp)⟩) rfl q
theorem em_pop {cpos : Pos} (h : EM X ρ s o fun x s1 => ∃ j ds d, x = .ref j ∧ s1[j]? = some (.lst (ds ++ [d])) ∧ Φ d (s1.set j (.lst ds)))
    (hbase : attributeBase o "pop" X.env (eval o X.env) = eval o X.env := by rfl) (hline : (apos.endLine == cpos.line) = true := by rfl) : EM X ρ s (.Call (.Attribute o "pop" apos) [] [] cpos) Φ := by
  intro α σ H Q so re k
  refine toRE (pe_bm0 PySem.F.plainAttrs_list PySem.F.slot_list_pop PySem.F.type_list_pop mt_pop pe_sem hbase hline) (h α σ H _ so re ?_)
  rintro γ s1 x v H1 w1 d1 ⟨j, ds, d, rfl, hds, q⟩
  obtain ⟨a, e1, e2⟩ := id d1
  obtain ⟨xs, c1, c2⟩ := w1.ok.cel j a _ e1 hds
  subst e2
  have hp : a ∈ α ++ γ := List.mem_of_getElem? e1
  have hl := c2.length
  rw [List.length_append, List.length_singleton] at hl
  obtain ⟨y, h1, h2⟩ := c2.get (i := xs.length - 1) (d := d) (by rw [← hl, Nat.add_sub_cancel, List.getElem?_append_right (Nat.le_refl _), Nat.sub_self]; rfl)
  refine ⟨.inl ⟨rfl, xs, SqL.of c1⟩, a, xs, y, rfl, rfl, c1, h1, ?_⟩
  have c3 : DaL X.K (α ++ γ) H1 ds xs.dropLast := by
    have z := c2.take ds.length
    rw [List.take_left] at z
    rw [List.dropLast_eq_take]
    have : xs.length - 1 = ds.length := by omega
    rw [this]
    exact z
  exact (k.step so w1) [] _ d y _ (Wl.put w1.ok e1 (m := .lst ds) ⟨_, upd_same, c3.kp (kp_upd hp)⟩) (by rw [List.append_nil]; exact h2.kp (kp_upd hp)) q
end
end Mp
end T_MpJ

section T_MpK
set_option autoImplicit true
set_option maxRecDepth 100000
set_option maxHeartbeats 4000000
namespace Mp
open PySem PySem.Spec PyProof.Rows L2
/-! ### promises by positional values and keywords -/
abbrev WtK := List D → List D → Sto → (D → Sto → Prop) → Prop
def spK (K : PySem.W.Frag) (W : WtK) (vs zs : List V) (H : Hp) (Q : VK) : Prop := ∃ (α : List Addr) (s : Sto) (ds es : List D) (Φ : D → Sto → Prop), Sok K α s H ∧ DaL K α H ds vs ∧ DaL K α H es zs ∧ W ds es s Φ ∧ K1 K α H Φ Q
def FnRK (P : Program) (w : World) (K : PySem.W.Frag) (mg : Str → Option Value) (base : Heap) (ks : List Str) (k : Nat) (f : Addr) (W : WtK) : Prop :=
  ∀ (A : Around) (outer : List PySem.Env) (s : Shared) (H : Hp) (us ws : List Value) (vs zs : List V) (Q : VK) (E : XK), Room k A → Env0 P w K mg base A outer s H → Vals vs us → Vals zs ws → zs.length = ks.length → spK K W vs zs H Q →
    codeAny (model P w) A (.call (.ref f) ⟨us, ks.zip ws⟩) (CR CX0 outer P w H s Q E) s
section
variable {P : Program} {w : World} {K : PySem.W.Frag} {mg : Str → Option Value} {base : Heap}
theorem FnRK.r {k : Nat} {f : Addr} {W : WtK} (F : FnRK P w K mg base [] k f W) : FnR P w K mg base CX0 k f (spM K fun ds s Φ => W ds [] s Φ) := by
  intro A outer s H us vs Q E hr e0 r h
  obtain ⟨α, st, ds, Φ, so, dl, q, kk⟩ := h
  exact F A outer s H us [] vs [] Q E hr e0 r .nil rfl ⟨α, st, ds, [], Φ, so, dl, rfl, q, kk⟩
/-- what is wanted behind the body: at once | behind the garbage -/
structure Bh (R : Sto → (D → Sto → Prop) → D → Sto → Prop) : Prop where
  ok : ∀ {K : PySem.W.Frag} {α : List Addr} {H : Hp} {s : Sto} {Φ : D → Sto → Prop} {Q : VK}, Sok K α s H → K1 K α H Φ Q → K1 K α H (R s Φ) Q
theorem bh_id : Bh fun _ Φ => Φ := ⟨fun _ k => k⟩
theorem bh_drp : Bh Drp := ⟨fun so k => k.drp so⟩
theorem def_star {x qual pv : Str} {params : Arguments} {body : List Stmt} {scope : Scope} {kws : List (Str × V)} {f : Addr} {fd : FuncData} {N ps ks : List Str} {k : Nat} {W : WtK} {R : Sto → (D → Sto → Prop) → D → Sto → Prop} (B : Bh R)
    (F : FunD K x qual params body scope [] kws f fd) (S : FnScope N (ps ++ (ks ++ [pv])) scope)
    (hb : ∀ (kV doc pm : Value) (an : Option Addr) (cdv ct : Value) (us rest ws : List Value), us.length = ps.length → ws.length = ks.length →
      bindArgs (PySem.W.fnOf x qual params body scope .none kV doc pm an cdv ct) ⟨us ++ rest, ks.zip ws⟩ = (newTuple rest >>= fun t => pure ((ps ++ (ks ++ [pv])).zip (us ++ (ws ++ [t])))))
    (len : ∀ ds es s Φ, W ds es s Φ → ps.length ≤ ds.length ∧ ds.length ≤ 1000)
    (hbody : ∀ (cdv : Value) (A : Around) (outer : List PySem.Env) (sh : Shared) (H : Hp) (E : XK), Room k (A.deeper (envOfC qual scope sh.heap.objs.size f cdv)) → ∀ (ds es : List D) (s : Sto) (Φ : D → Sto → Prop), W ds es s Φ →
      SMs (cxOf CX0 P w K mg base N qual scope f cdv A outer sh H E).nox (startD N (ds.take ps.length ++ (es ++ [.tup (ds.drop ps.length)]))) s body { nx := fun _ s' => R s Φ .non s', rt := R s Φ }) : FnRK P w K mg base ks (k + 1) f W := by
  intro A outer s H us ws vs zs Q E hr e0 r rz hzl h
  obtain ⟨α, st, ds, es, Φ, so, dl, el, q, kk⟩ := h
  obtain ⟨l1, l2⟩ := len ds es st Φ q
  have lv := dl.length
  obtain ⟨oc, od, dV, kV, doc, pm, an, cdv, ct, osl, rfl, lk, hcd, hD, _⟩ := F.ex
  have edV : dV = .none := by
    rcases hD with ⟨_, e⟩ | ⟨e, _⟩
    · exact e
    · exact absurd rfl e
  subst edV
  have ev : vs = vs.take ps.length ++ vs.drop ps.length := (List.take_append_drop _ _).symm
  rw [ev] at r
  obtain ⟨u1, u2, eu, r1, r2⟩ := StX.vals_split r
  subst eu
  have hn : H s.heap.objs.size = Option.none := e0.hok.fresh (Nat.le_refl _)
  have hl1 : u1.length = ps.length := by
    rw [← r1.length, List.length_take]
    omega
  have hzz : (vs.drop ps.length).length ≤ sizeLine := by
    rw [List.length_drop]
    exact Nat.le_trans (by omega) (by decide : 1000 ≤ sizeLine)
  have hl2 : u2.length ≤ sizeLine := by rw [← r2.length]; exact hzz
  have hws : ws.length = ks.length := by rw [← rz.length]; exact hzl
  refine StX.run_bnd lk hcd S hr e0 (G := fun xs H2 => ∃ p, H p = Option.none ∧ xs = vs.take ps.length ++ (zs ++ [V.ref p]) ∧ H2 = L2.upd H p (.tup (vs.drop ps.length))) (fun A' Ex Q' h => ?_) fun s2 H2 xs ⟨p, hp, ex, eH⟩ hr' => ?_
  · rw [hb kV doc pm an cdv ct u1 u2 ws hl1 hws]
    refine wpAny_bind (wpAny_newTuple (wpAny_pure ?_) hl2)
    have new : ObjOk P w (L2.upd H s.heap.objs.size (.tup (vs.drop ps.length))) (s.heap.push ({ cls := .type "tuple", data := .seq u2.toArray } : Obj)) s.heap.objs.size (.tup (vs.drop ps.length)) := ⟨hzz, u2, r2, ⟨_, Heap.get?_push_size _ rfl, rfl, _, rfl⟩⟩
    have un := StX.un_laid (fs := frs outer) (s := s) (o := ({ cls := .type "tuple", data := .seq u2.toArray } : Obj)) (u := .tup (vs.drop ps.length)) hn
    exact h _ _ (vs.take ps.length ++ (zs ++ [V.ref s.heap.objs.size])) (u1 ++ (ws ++ [Value.ref s.heap.objs.size])) (StX.env0_laid e0 new) un rfl (fun e s' z => z.elim) (r1.append (rz.append (.cons rfl .nil)))
      (by rw [List.length_append, List.length_append, List.length_append, List.length_append, List.length_take, hzl]; simp; omega) ⟨_, hn, rfl, rfl⟩
  · subst ex eH
    have w1 := Wl.new (o := .tup (vs.drop ps.length)) so hp
    have so1 : Sok K α st (L2.upd H p (.tup (vs.drop ps.length))) := so.grow fun b u e => by rw [upd_ne (ne_of_none e hp)]; exact e
    have kp : Kp α H (L2.upd H p (.tup (vs.drop ps.length))) := fun b u e _ => by rw [upd_ne (ne_of_none e hp)]; exact e
    have dt : Da K α (L2.upd H p (.tup (vs.drop ps.length))) (.tup (ds.drop ps.length)) (.ref p) := ⟨p, _, rfl, .inl ⟨.inl upd_same, so.free hp⟩, (dl.drop _).kp kp⟩
    have dall := ((dl.take ps.length).kp kp).append ((el.kp kp).append (DaL.one dt))
    have z := hbody cdv A outer s2 (L2.upd H p (.tup (vs.drop ps.length))) E hr' ds es st Φ q
    have kd : K1 K α (L2.upd H p (.tup (vs.drop ps.length))) (R st Φ) Q := by
      have k2 := B.ok so1 (kk.step so w1 |> fun z => (by rw [List.append_nil] at z; exact z : K1 K α (L2.upd H p (.tup (vs.drop ps.length))) Φ Q))
      exact k2
    refine ⟨_, PSs.nox (pss_sem (X := (cxOf CX0 P w K mg base N qual scope f cdv A outer s2 (L2.upd H p (.tup (vs.drop ps.length))) E).nox)), ?_⟩
    exact z α _ _ _ so1 (re_start dall) ⟨fun γ s' ρ' σ' H1 w1 re1 qq => kd γ s' .non .non H1 w1 rfl qq, fun _ _ _ _ _ _ _ z => z.elim, fun _ _ _ _ _ _ _ z => z.elim, kd⟩
/-- an ordinary def, by positional values -/
theorem fnOk_rk {k : Nat} {f : Addr} {fd : FuncData} {ps : List Str} {W : Wt} (F : FnOk P w K mg base CX0 k f fd ps (spM K W)) (hb : Binds K fd ps []) : FnRK P w K mg base [] k f (fun ds _ s Φ => W ds s Φ) := by
  intro A outer s H us ws vs zs Q E hr e0 r rz hzl h
  obtain ⟨α, st, ds, es, Φ, so, dl, el, q, kk⟩ := h
  have := F.raw hb .nil A outer s H us vs Q E hr e0 r (by show spM K W (vs ++ []) H Q E; rw [List.append_nil]; exact ⟨α, st, ds, Φ, so, dl, q, kk⟩)
  exact this
/-- a def with keyword-only parameters (all given), no star -/
theorem fnOk_kw {k : Nat} {f : Addr} {fd : FuncData} {ps ks : List Str} {n : Nat} {W : Wt} {gV : List V → List V → List V} {g : List Value → List Value → List Value} (F : FnOk P w K mg base CX0 k f fd ps (spM K W)) (hb : KBn K fd ps n ks g gV)
    (hg : ∀ vs zs, gV vs zs = vs ++ zs) : FnRK P w K mg base ks k f (fun ds es s Φ => ds.length = n ∧ W (ds ++ es) s Φ) := by
  intro A outer s H us ws vs zs Q E hr e0 r rz hzl h
  obtain ⟨α, st, ds, es, Φ, so, dl, el, ⟨hn, q⟩, kk⟩ := h
  have l1 : us.length = n := by rw [← r.length, ← dl.length]; exact hn
  have l2 : ws.length = ks.length := by rw [← rz.length]; exact hzl
  refine F.run A outer s H ⟨us, ks.zip ws⟩ (g us ws) (gV vs zs) Q E hr e0 (hb.to s us ws (e0.mod.kin.keeps fun b o e => (e0.bs b o e).1) l1 l2) (hb.rel r rz) ?_
  rw [hg]
  exact ⟨α, st, ds ++ es, Φ, so, dl.append el, q, kk⟩
end
/-! ### defs of the module, methods, classmethods, classes: by positional values and keywords -/
structure GFnK (P : Program) (w : World) (K : PySem.W.Frag) (mg : Str → Option Value) (base : Heap) (x : Str) (ks : List Str) (k : Nat) (W : WtK) : Prop where
  ex : ∃ (f : Addr), mg x = some (.ref f) ∧ PySem.W.keepIn K (.ref f) = true ∧ FnRK P w K mg base ks k f W
structure MFnK (P : Program) (w : World) (K : PySem.W.Frag) (mg : Str → Option Value) (base : Heap) (C : Addr) (m : Str) (ks : List Str) (k : Nat) (W : WtK) : Prop where
  cl : Cls K C
  ex : ∃ (f : Addr), BMeth K C m f ∧ FnRK P w K mg base ks k f W
structure CFnK (P : Program) (w : World) (K : PySem.W.Frag) (mg : Str → Option Value) (base : Heap) (C : Addr) (m : Str) (ks : List Str) (k : Nat) (W : WtK) : Prop where
  ex : ∃ (mc : Value) (p g : Addr), ClX.CRead K C mc ∧ ClX.CMet K C mc m p g ∧ FnRK P w K mg base ks k g W
structure MkCK (P : Program) (w : World) (K : PySem.W.Frag) (mg : Str → Option Value) (base : Heap) (x : Str) (C : Addr) (ks : List Str) (k : Nat) (W : WtK) : Prop where
  ex : ∃ (f : Addr), mg x = some (.ref C) ∧ Mk K C f ∧ FnRK P w K mg base ks k f W
section
variable {X : Cx} {ρ : Slo} {s : Sto} {Φ : D → Sto → Prop} {pos apos p sp : Pos} {e o e2 : Expr} {es : List Expr} {x m : Str} {k : Nat} {W : WtK} {C : Addr} {kws : List Keyword} {ks : List Str}
/-- *e in a list of arguments -/
theorem am_star {Ψ : List D → Sto → Prop} (h : EM X ρ s e fun d s1 => ∃ ds, IsQ s1 d ds ∧ AM X ρ s1 es fun fs s2 => Ψ (ds ++ fs) s2) (hs : starEach (.Starred e p :: es) X.env = (true, eval e X.env) :: starEach es X.env := by rfl) : AM X ρ s (.Starred e p :: es) Ψ := by
  intro α σ H Q so re k
  refine toRA (StX.pa_star pe_sem pa_sem hs) (h α σ H _ so re ?_)
  rintro γ s1 d v H1 w1 d1 ⟨ds, hq, q⟩
  obtain ⟨a, xs, e1, h1, l⟩ := hq.at_ w1.ok d1
  refine ⟨a, xs, e1, h1.symm, q _ σ H1 _ w1.ok (w1.re re) fun δ s2 fs us H2 w2 d2 q2 => ?_⟩
  exact (k.step so w1) δ s2 (ds ++ fs) (xs ++ us) H2 w2 ((w2.dal l).append d2) q2
theorem run_rk {pins : List (Addr × Obj)} {σ : L2.St} {H : Hp} {sh : Shared} {f : Addr} {Q : VK} {us ws : List Value} {vs zs : List V} (F : FnRK X.prog X.w X.K X.mg X.base ks k f W) (hr : Room k X.A) (I : Inv X pins σ H sh) (r : Vals vs us) (rz : Vals zs ws) (hz : zs.length = ks.length) (h : spK X.K W vs zs H Q) :
    codeAny (model X.prog X.w) X.A (.call (.ref f) ⟨us, ks.zip ws⟩) (fun r s' => match r with | .ok (.ret v) => EP X pins σ Q v s' | .ok _ => False | .error e => X.xe e s') sh := by
  refine codeAny_mono (F X.A X.stack sh H us ws vs zs Q E0 hr I.env0 r rz hz h) fun r s' hq => ?_
  cases r with
  | error e => exact pass0 (X := X) pins σ H sh e s' I hq
  | ok fl =>
    cases fl with
    | ret u => exact I.after hq
    | next => exact False.elim hq
    | brk => exact False.elim hq
    | cont => exact False.elim hq
/-- f(e, .., *y) -/
theorem em_callS2 (G : GFnK X.prog X.w X.K X.mg X.base x [] k W) (hr : Room k X.A) (h : AM X ρ s (e :: es) fun ds s1 => W ds [] s1 Φ) (hg : Gl X x := by rfl) (hd : (x == ("__debug__" : Str)) = false := by decide) (he : starEach (e :: es) X.env = (false, eval e X.env) :: starEach es X.env := by rfl) (hst : (backTo pos (starEach es X.env)).any (·.1) = true := by rfl) :
    EM X ρ s (.Call (.Name x p) (e :: es) [] pos) Φ := by
  intro α σ H Q so re kk
  obtain ⟨f, hm, hk, F⟩ := G.ex
  refine toRE (StX.pe_callS2 F.r hr hk hg hm pass0 pa_sem hd he hst) (h α σ H _ so re fun γ s1 ds vs H1 w1 d1 q => ?_)
  exact ⟨_, s1, ds, Φ, w1.ok, d1, q, kk.step so w1⟩
/-- f(*y) -/
theorem em_callS1 (G : GFnK X.prog X.w X.K X.mg X.base x [] k W) (hr : Room k X.A) (h : EM X ρ s e fun d s1 => ∃ ds, IsQ s1 d ds ∧ W ds [] s1 Φ) (hg : Gl X x := by rfl) (hd : (x == ("__debug__" : Str)) = false := by decide) (hst : starEach [.Starred e sp] X.env = [(true, eval e X.env)] := by rfl) :
    EM X ρ s (.Call (.Name x p) [.Starred e sp] [] pos) Φ := by
  intro α σ H Q so re kk
  obtain ⟨f, hm, hk, F⟩ := G.ex
  refine toRE (StX.pe_callS1 F.r hr hk hg hm pass0 pe_sem hd hst) (h α σ H _ so re ?_)
  rintro γ s1 d v H1 w1 d1 ⟨ds, hq, q⟩
  obtain ⟨a, xs, e1, h1, l⟩ := hq.at_ w1.ok d1
  exact ⟨a, xs, e1, h1.symm, _, s1, ds, Φ, w1.ok, l, q, kk.step so w1⟩
/-- o.m(e, ..) -/
theorem em_methR {pl : Sem Bool} (M : MFnK X.prog X.w X.K X.mg X.base C m [] k W) (hr : Room k X.A) (h : EM X ρ s o fun d s1 => ∃ ks ds, InsV s1 d C ks ds ∧ kIx ks m = none ∧ AM X ρ s1 (e :: es) fun fs s2 => W (d :: fs) [] s2 Φ)
    (hst : starEach (e :: es) X.env = (false, eval e X.env) :: starEach es X.env := by rfl) (hpl : (backTo pos (starEach es X.env)).any (·.1) = false := by rfl)
    (ht : eval (.Call (.Attribute o m apos) (e :: es) [] pos) X.env = (do
      let ov ← eval o X.env
      standAt apos.atName
      let (f, first) ← holding [ov] (getMethod ov m pl)
      callWith pos f first (backTo pos (starEach (e :: es) X.env)) (backToKw pos (keywordEach [] X.env))) := by rfl) : EM X ρ s (.Call (.Attribute o m apos) (e :: es) [] pos) Φ := by
  intro α σ H Q so re kk
  obtain ⟨f, hm, F⟩ := M.ex
  refine toRE (pe_methR (pl := pl) pe_sem M.cl hm.mt F.r hr pass0 pa_sem hst hpl ht) (h α σ H _ so re ?_)
  rintro γ s1 d v H1 w1 d1 ⟨ks, ds, hi, hk, q⟩
  obtain ⟨a, dx, fs, e1, e2, e3, l⟩ := hi.at_ w1.ok d1
  subst e3
  refine ⟨a, dx, fs, e1, e2, kIx_none hk, q _ σ H1 _ w1.ok (w1.re re) fun δ s2 es' vs H2 w2 d2 q2 => ?_⟩
  exact ⟨_, s2, d :: es', Φ, w2.ok, ⟨_, _, rfl, w2.da d1, d2⟩, q2, (kk.step so w1).step w1.ok w2⟩
/-- o.m( *y), y a tuple -/
theorem em_methS (M : MFnK X.prog X.w X.K X.mg X.base C m [] k W) (hr : Room k X.A) (h : EM X ρ s o fun d s1 => ∃ ks ds, InsV s1 d C ks ds ∧ kIx ks m = none ∧ EM X ρ s1 e fun y s2 => ∃ fs, y = .tup fs ∧ W (d :: fs) [] s2 Φ)
    (hbase : attributeBase o m X.env (eval o X.env) = eval o X.env := by rfl) : EM X ρ s (.Call (.Attribute o m apos) [.Starred e sp] [] pos) Φ := by
  intro α σ H Q so re kk
  obtain ⟨f, hm, F⟩ := M.ex
  refine toRE (pe_methS pe_sem M.cl hm F.r hr pass0 pe_sem hbase) (h α σ H _ so re ?_)
  rintro γ s1 d v H1 w1 d1 ⟨ks, ds, hi, hk, q⟩
  obtain ⟨a, dx, fs, e1, e2, e3, l⟩ := hi.at_ w1.ok d1
  subst e3
  refine ⟨a, dx, fs, e1, e2, kIx_none hk, fun c hc => ?_⟩
  have wq := Wl.new (o := .met f a) w1.ok hc
  have so1 : Sok X.K (α ++ γ) s1 (L2.upd H1 c (.met f a)) := w1.ok.grow fun b u e => by rw [upd_ne (ne_of_none e hc)]; exact e
  have wq' : Wl X.K α H γ s1 (L2.upd H1 c (.met f a)) := w1.ext so fun b u e => by rw [upd_ne (ne_of_none e hc)]; exact e
  have nc : c ∉ α ++ γ := w1.ok.free hc
  refine q _ σ _ _ so1 (wq'.re re) ?_
  rintro δ s2 y u H2 w2 d2 ⟨gs, rfl, q2⟩
  obtain ⟨b, ys, e4, e5, l2⟩ := d2
  refine ⟨b, ys, e4, tupAt e5, w2.kp c _ upd_same nc, ?_⟩
  subst e1
  have d1' : Da X.K (α ++ γ) (L2.upd H1 c (.met f a)) d (.ref a) := d1.kp fun b u e _ => by rw [upd_ne (ne_of_none e hc)]; exact e
  exact ⟨_, s2, d :: gs, Φ, w2.ok, ⟨_, _, rfl, w2.da d1', l2⟩, q2, (kk.step so wq').step so1 w2⟩
/-- o.m(e, *y) -/
theorem em_methSB (M : MFnK X.prog X.w X.K X.mg X.base C m [] k W) (hr : Room k X.A) (h : EM X ρ s o fun d s1 => ∃ ks ds, InsV s1 d C ks ds ∧ kIx ks m = none ∧ EM X ρ s1 e fun z s2 => EM X ρ s2 e2 fun y s3 => ∃ fs, IsQ s3 y fs ∧ W (d :: z :: fs) [] s3 Φ)
    (hbase : attributeBase o m X.env (eval o X.env) = eval o X.env := by rfl) (hst : starEach [e, .Starred e2 p] X.env = [(false, eval e X.env), (true, eval e2 X.env)] := by rfl) : EM X ρ s (.Call (.Attribute o m apos) [e, .Starred e2 p] [] pos) Φ := by
  intro α σ H Q so re kk
  obtain ⟨f, hm, F⟩ := M.ex
  refine toRE (pe_methSB pe_sem M.cl hm F.r hr pass0 pe_sem pe_sem hbase hst) (h α σ H _ so re ?_)
  rintro γ s1 d v H1 w1 d1 ⟨ks, ds, hi, hk, q⟩
  obtain ⟨a, dx, fs, e1, e2, e3, l⟩ := hi.at_ w1.ok d1
  subst e3
  refine ⟨a, dx, fs, e1, e2, kIx_none hk, fun c hc => ?_⟩
  have so1 : Sok X.K (α ++ γ) s1 (L2.upd H1 c (.met f a)) := w1.ok.grow fun b u e => by rw [upd_ne (ne_of_none e hc)]; exact e
  have wq' : Wl X.K α H γ s1 (L2.upd H1 c (.met f a)) := w1.ext so fun b u e => by rw [upd_ne (ne_of_none e hc)]; exact e
  have nc : c ∉ α ++ γ := w1.ok.free hc
  have d1' : Da X.K (α ++ γ) (L2.upd H1 c (.met f a)) d (.ref a) := by
    subst e1
    exact d1.kp fun b u e _ => by rw [upd_ne (ne_of_none e hc)]; exact e
  refine q _ σ _ _ so1 (wq'.re re) fun δ s2 z zv H2 w2 dz q2 => ?_
  refine q2 _ σ H2 _ w2.ok (w2.re (wq'.re re)) ?_
  rintro ε s3 y u H3 w3 d2 ⟨gs, hq, q3⟩
  obtain ⟨b, ys, e4, e5, l2⟩ := hq.at_ w3.ok d2
  have nc2 : c ∉ (α ++ γ) ++ δ := fun z => by
    rcases List.mem_append.mp z with z | z
    · exact nc z
    · have := w2.fr c z
      rw [upd_same] at this
      cases this
  refine ⟨b, ys, e4, e5.symm, w3.kp c _ (w2.kp c _ upd_same nc) nc2, ?_⟩
  subst e1
  exact ⟨_, s3, d :: z :: gs, Φ, w3.ok, ⟨_, _, rfl, w3.da (w2.da d1'), _, _, rfl, w3.da dz, l2⟩, q3, ((kk.step so wq').step so1 w2).step w2.ok w3⟩
/-! ### keywords -/
def RK (X : Cx) (σ : L2.St) (H : Hp) (kws : List Keyword) (Q : List V → Hp → Prop) : Prop := Op (∀ (pos : Pos) (pins : List (Addr × Obj)) (s : Shared), Inv X pins σ H s → wpAny (model X.prog X.w) X.A (evalAll ((backToKw pos (keywordEach kws X.env)).map (·.2))) (AP X pins σ Q) X.xe s)
theorem pk_sem : PK X kws fun σ H Q => RK X σ H kws Q := ⟨fun pos pins s _ _ _ I h => h.go pos pins s I⟩
def KM (X : Cx) (ρ : Slo) (s : Sto) (kws : List Keyword) (Φ : List D → Sto → Prop) : Prop := ∀ (α : List Addr) (σ : L2.St) (H : Hp) (Q : List V → Hp → Prop), Sok X.K α s H → Re X.K α H σ ρ → KA X.K α H Φ Q → RK X σ H kws Q
theorem toRK {t : TA} (h : PK X kws t) {σ : L2.St} {H : Hp} {Q : List V → Hp → Prop} (q : t σ H Q) : RK X σ H kws Q := Op.mk <| fun pos pins s I => h.run pos pins s σ H Q I q
theorem km_nil {Ψ : List D → Sto → Prop} (h : Ψ [] s) : KM X ρ s [] Ψ := fun α σ H Q so re k => toRK pk_nil (k.now so (d := []) (v := []) rfl h)
theorem km_cons {Ψ : List D → Sto → Prop} {nm : Option Str} {kpos : Pos} (h : EM X ρ s e fun d s1 => KM X ρ s1 kws fun ds s2 => Ψ (d :: ds) s2) : KM X ρ s (⟨nm, e, kpos⟩ :: kws) Ψ := by
  intro α σ H Q so re k
  refine toRK (pk_cons pe_sem pk_sem) (h α σ H _ so re fun γ s1 d v H1 w1 d1 q => ?_)
  exact q _ σ H1 _ w1.ok (w1.re re) fun δ s2 ds vs H2 w2 d2 q2 => (k.step so w1) δ s2 (d :: ds) (v :: vs) H2 w2 ⟨_, _, rfl, w2.da d1, d2⟩ q2
/-- f(e, .., k = v, ..) -/
theorem em_callK (G : GFnK X.prog X.w X.K X.mg X.base x ks k W) (hr : Room k X.A) (h : AM X ρ s (e :: es) fun ds s1 => KM X ρ s1 kws fun zs s2 => zs.length = ks.length ∧ W ds zs s2 Φ) (hg : Gl X x := by rfl)
    (hall : (backToKw pos (keywordEach kws X.env)).all (·.1.isSome) = true := by rfl) (hks : (backToKw pos (keywordEach kws X.env)).filterMap (·.1) = ks := by rfl)
    (hdb : (x == ("__debug__" : Str)) = false := by decide) (he : starEach (e :: es) X.env = (false, eval e X.env) :: starEach es X.env := by rfl)
    (hpl : ((backTo pos (starEach (e :: es) X.env)).any (·.1) || (backToKw pos (keywordEach kws X.env)).any (·.1.isNone)) = false := by rfl) : EM X ρ s (.Call (.Name x p) (e :: es) kws pos) Φ := by
  intro α σ H Q so re kk
  refine ⟨fun pins sh I => ?_⟩
  obtain ⟨f, hm, hk, F⟩ := G.ex
  refine wpAny_Call_Name_kw (ld_glob I hg hm ?_ hdb)
  refine PySem.W.callWith_KW (h₀ := X.base) I.ok.mod.kin hk hall (thn ((h α σ H (fun vs H1 => RK X σ H1 kws fun zs H2 => zs.length = ks.length ∧ spK X.K W vs zs H2 Q) so re (fun γ s1 ds vs H1 w1 d1 q => ?_)).go pos pins sh I) fun us s1 ⟨vs, H1, I1, r, q⟩ => ?_) hpl he
  · refine q _ σ H1 _ w1.ok (w1.re re) ?_
    rintro δ s2 zs us H2 w2 d2 ⟨hl, q2⟩
    exact ⟨by rw [← d2.length]; exact hl, _, s2, ds, zs, Φ, w2.ok, w2.dal d1, d2, q2, (kk.step so w1).step w1.ok w2⟩
  · refine thn (q.go pos pins s1 I1) fun ws s2 ⟨zs, H2, I2, rz, hl, q2⟩ => ⟨I2.kIn, ?_⟩
    rw [hks]
    exact wpAny_call (run_rk F hr I2 r rz hl q2)
/-- the making -/
theorem run_makeRK {pins : List (Addr × Obj)} {σ : L2.St} {H : Hp} {sh : Shared} {f : Addr} {Q : VK} {us ws : List Value} {vs zs : List V} (M : Mk X.K C f) (F : FnRK X.prog X.w X.K X.mg X.base ks k f W) (hr : Room (k + 1) X.A) (I : Inv X pins σ H sh) (r : Vals vs us) (rz : Vals zs ws) (l2 : zs.length = ks.length)
    (h : ∀ x dx, H x = none → H dx = none → dx ≠ x → spK X.K W (.ref x :: vs) zs (L2.upd (L2.upd H dx (.own x)) x (.ins C dx [])) (fun v H2 => v = .non ∧ Q (.ref x) H2)) :
    wpAny (model X.prog X.w) X.A (call (.ref C) us (ks.zip ws)) (EP X pins σ Q) X.xe sh := by
  have hq := h (sh.heap.objs.size + 1) sh.heap.objs.size (I.hok.fresh (Nat.le_succ _)) (I.hok.fresh (Nat.le_refl _)) (Nat.ne_of_lt (Nat.lt_succ_self _))
  have I2 := Inv.made (C := C) I
  have r1 : Vals (V.ref (sh.heap.objs.size + 1) :: vs) (Value.ref (sh.heap.objs.size + 1) :: us) := .cons rfl r
  refine wpAny_call (make_map (f := f) I.kIn M.makes M.init (beq_iff_eq.mp M.fn) (codeAny_mono (F _ X.stack _ _ (Value.ref (sh.heap.objs.size + 1) :: us) ws _ _ _ E0 (hr.make C us (ks.zip ws))
    (I2.env0.make C us (ks.zip ws)) r1 rz l2 hq) fun r s' hq' => ?_))
  cases r with
  | error e => exact pass0 (X := X) pins σ _ _ e s' I2 hq'
  | ok fl =>
    cases fl with
    | ret u =>
      obtain ⟨v, H', I3, rv, ev, q3⟩ := I2.after hq'
      subst ev
      exact ⟨rv, ⟨V.ref (sh.heap.objs.size + 1), H', I3, rfl, q3⟩⟩
    | next => exact False.elim hq'
    | brk => exact False.elim hq'
    | cont => exact False.elim hq'
/-- what making asks of the layer: kept in the store | frozen -/
def MkQ (W : WtK) (C : Addr) (ds zs : List D) (s1 : Sto) (Φ : D → Sto → Prop) : Prop := W (.ref s1.length :: ds) zs (s1 ++ [.ins C [] []]) fun d s2 => d = .non ∧ Φ (.ref s1.length) s2
def MkF (W : WtK) (C : Addr) (ds zs : List D) (s1 : Sto) (Φ : D → Sto → Prop) : Prop := W (.ref s1.length :: ds) zs (s1 ++ [.ins C [] []]) fun d s2 => d = .non ∧ ∃ ks fs, s2 = s1 ++ [.ins C ks fs] ∧ (BdL s1.length ds → BdL s1.length zs → BdL s1.length fs) ∧ Φ (.ins C ks fs) s1
theorem mkQ_run {α : List Addr} {H1 : Hp} {s1 : Sto} {ds zs : List D} {vs ws : List V} {Q : VK} (so : Sok X.K α s1 H1) (d1 : DaL X.K α H1 ds vs) (d2 : DaL X.K α H1 zs ws) (kk : K1 X.K α H1 Φ Q) (q : MkQ W C ds zs s1 Φ) :
    ∀ x dx, H1 x = none → H1 dx = none → dx ≠ x → spK X.K W (.ref x :: vs) ws (L2.upd (L2.upd H1 dx (.own x)) x (.ins C dx [])) (fun v H2 => v = .non ∧ Q (.ref x) H2) := by
  intro a dx ha hdx hne
  have w2 := K1.make (C := C) so ha hdx hne
  refine ⟨_, _, .ref s1.length :: ds, zs, _, w2.ok, ⟨_, _, rfl, ref_new so, w2.dal d1⟩, w2.dal d2, q, ?_⟩
  rintro δ s2 d v H2 w3 d3 ⟨rfl, q3⟩
  exact ⟨d3, (kk.step so w2) δ s2 (.ref s1.length) _ H2 w3 (w3.da (ref_new so)) q3⟩
theorem mkF_run {α : List Addr} {H1 : Hp} {s1 : Sto} {ds zs : List D} {vs ws : List V} {Q : VK} (so : Sok X.K α s1 H1) (d1 : DaL X.K α H1 ds vs) (d2 : DaL X.K α H1 zs ws) (kk : K1 X.K α H1 Φ Q) (q : MkF W C ds zs s1 Φ) :
    ∀ x dx, H1 x = none → H1 dx = none → dx ≠ x → spK X.K W (.ref x :: vs) ws (L2.upd (L2.upd H1 dx (.own x)) x (.ins C dx [])) (fun v H2 => v = .non ∧ Q (.ref x) H2) := by
  intro a dx ha hdx hne
  have w2 := K1.make (C := C) so ha hdx hne
  refine ⟨_, _, .ref s1.length :: ds, zs, _, w2.ok, ⟨_, _, rfl, ref_new so, w2.dal d1⟩, w2.dal d2, q, ?_⟩
  rintro δ s2 d v H2 w3 d3 ⟨rfl, ks, fs, rfl, bd, q3⟩
  refine ⟨d3, ?_⟩
  have wt := w2.trans so w3
  have len1 : s1.length = α.length := so.len.symm
  have so2 : Sok X.K α s1 H2 := wt.ok.drop len1 fun m hm => so.bd m hm
  have c := w3.ok.cel s1.length a (.ins C ks fs) (by
      rw [List.append_assoc, List.getElem?_append_right (by rw [← len1]; exact Nat.le_refl _), ← len1, Nat.sub_self]
      rfl) (by rw [List.getElem?_append_right (Nat.le_refl _), Nat.sub_self]; rfl)
  obtain ⟨dx', fs', c1, c2, c3⟩ := c
  have hbd : BdL α.length fs := by rw [← len1]; exact bd (by rw [len1]; exact DaL.bd ds vs d1) (by rw [len1]; exact DaL.bd zs ws d2)
  have na : a ∉ α := so.free ha
  have c3' : DaL X.K α H2 fs (fs'.map (·.2)) := by
    rw [List.append_assoc] at c3
    exact DaL.drop' fs _ c3 hbd
  exact kk [] s1 (.ins C ks fs) _ H2 ⟨wt.kp, (fun _ h => nomatch h), by rw [List.append_nil]; exact so2⟩ (da_nil ⟨a, dx', fs', rfl, na, c1, c2, c3'⟩) q3
/-- C(e, .., k = v, ..): W' is MkQ W C, MkF W C -/
theorem em_makeK {Z : List D → List D → Sto → (D → Sto → Prop) → Prop} (hZ : Z = MkQ W C ∨ Z = MkF W C) (M : MkCK X.prog X.w X.K X.mg X.base x C ks k W) (hr : Room (k + 1) X.A) (h : AM X ρ s (e :: es) fun ds s1 => KM X ρ s1 kws fun zs s2 => zs.length = ks.length ∧ Z ds zs s2 Φ) (hg : Gl X x := by rfl)
    (hall : (backToKw pos (keywordEach kws X.env)).all (·.1.isSome) = true := by rfl) (hks : (backToKw pos (keywordEach kws X.env)).filterMap (·.1) = ks := by rfl)
    (hdb : (x == ("__debug__" : Str)) = false := by decide) (he : starEach (e :: es) X.env = (false, eval e X.env) :: starEach es X.env := by rfl)
    (hpl : ((backTo pos (starEach (e :: es) X.env)).any (·.1) || (backToKw pos (keywordEach kws X.env)).any (·.1.isNone)) = false := by rfl) : EM X ρ s (.Call (.Name x p) (e :: es) kws pos) Φ := by
  intro α σ H Q so re kk
  refine ⟨fun pins sh I => ?_⟩
  obtain ⟨f, hm, Mm, F⟩ := M.ex
  refine wpAny_Call_Name_kw (ld_glob I hg hm ?_ hdb)
  refine PySem.W.callWith_KW (h₀ := X.base) I.ok.mod.kin Mm.kp hall (thn ((h α σ H (fun vs H1 => RK X σ H1 kws fun zs H2 => zs.length = ks.length ∧ ∀ x dx, H2 x = none → H2 dx = none → dx ≠ x → spK X.K W (.ref x :: vs) zs (L2.upd (L2.upd H2 dx (.own x)) x (.ins C dx [])) (fun v H2 => v = .non ∧ Q (.ref x) H2)) so re (fun γ s1 ds vs H1 w1 d1 q => ?_)).go pos pins sh I) fun us s1 ⟨vs, H1, I1, r, q⟩ => ?_) hpl he
  · refine q _ σ H1 _ w1.ok (w1.re re) ?_
    rintro δ s2 zs us H2 w2 d2 ⟨hl, q2⟩
    have k2 := (kk.step so w1).step w1.ok w2
    refine ⟨by rw [← d2.length]; exact hl, ?_⟩
    rcases hZ with rfl | rfl
    · exact mkQ_run w2.ok (w2.dal d1) d2 k2 q2
    · exact mkF_run w2.ok (w2.dal d1) d2 k2 q2
  · refine thn (q.go pos pins s1 I1) fun ws s2 ⟨zs, H2, I2, rz, hl, q2⟩ => ⟨I2.kIn, ?_⟩
    rw [hks]
    exact run_makeRK Mm F hr I2 r rz hl q2
/-- C( *y, k = v, ..) -/
theorem lone_kw {M : Model} {A : Around} {E : Value → Shared → Prop} {sh : Shared} {f : Value} {t : Sem Value} {kw : List (Option Str × Sem Value)} {Q : Args → Shared → Prop} (hall : kw.all (·.1.isSome) = true)
    (h : wpAny M A t (fun v s₁ => wpAny M A (evalAll (kw.map (·.2))) (fun ks s2 => PySem.W.StarOf M A E v (fun vs s3 => Q ⟨vs, (kw.filterMap (·.1)).zip ks⟩ s3) s2) E s₁) E sh) :
    wpAny M A (evalArgs f true [(true, (do let v ← t; standAt pos; pure v))] kw) Q E sh := by
  unfold evalArgs
  first
    | refine wpAny_bind (wpAny_bind (wpAny_mono h (fun v s₁ h₁ => wpAny_bind (wpAny_standAt (wpAny_pure ?_))) fun _ _ x => x))
    | refine wpAny_bind (wpAny_bind (wpAny_bind (wpAny_mono h (fun v s₁ h₁ => wpAny_bind (wpAny_standAt (wpAny_pure (wpAny_pure ?_)))) fun _ _ x => x)))
  refine wpAny_holding ?_
  simp only [hall, if_true]
  refine wpAny_bind (wpAny_mono h₁ (fun ks s2 h2 => ?_) fun _ _ x => x)
  unfold PySem.W.StarOf at h2
  refine wpAny_bind (wpAny_bind (wpAny_mono h2 (fun b s₂ h₂ => ?_) fun _ _ x => x))
  obtain ⟨rfl, h₂⟩ := h₂
  have z := wpAny_holding (vs := ((kw.filterMap (·.1)).zip ks).map (·.2)) (wpAny_mono h₂ (fun vs s₃ h₃ => (wpAny_pure h₃ : wpAny M A (pure (⟨vs, (kw.filterMap (·.1)).zip ks⟩ : Args)) Q E s₃)) fun _ _ x => x)
  try simp only [Bool.false_eq_true, if_false]
  first
    | exact z
    | exact wpAny_bind (wpAny_pure z)
theorem call_starkw {M : Model} {A : Around} {E : Value → Shared → Prop} {sh : Shared} {f : Value} {first : List Value} {Q : Value → Shared → Prop} {P : Heap → Prop} {args : List (Bool × Sem Value)} {kw : List (Option Str × Sem Value)} (hst : args.any (·.1) = true)
    (hk : ∀ h, P h → ∃ k, (k = Keeper.frame ∨ k = Keeper.machine ∨ k = Keeper.boundFrame) ∧ PySem.W.Looks M h (keeperOf f) k)
    (h : wpAny M A (evalArgs f true args kw) (fun a s₁ => P s₁.heap ∧ wpAny M A (call f (first ++ a.pos) a.kw) Q E s₁) E sh) : wpAny M A (callWith pos f first args kw) Q E sh := by
  unfold callWith
  refine wpAny_bind (wpAny_holding (wpAny_mono h (fun a s₁ h₁ => wpAny_bind (wpAny_standAt ?_)) fun _ _ x => x))
  obtain ⟨k, hk', L⟩ := hk _ h₁.1
  simp only [hst, Bool.true_or]
  refine wpAny_bind (L.here ?_)
  have tail : ∀ {t : Sem Value}, wpAny M A t Q E s₁ → wpAny M A (t >>= fun r => holding [r] point >>= fun _ => pure r) Q E s₁ :=
    fun ht => wpAny_bind (wpAny_mono ht (fun r s₂ hr => wpAny_bind (wpAny_holding (wpAny_point (wpAny_pure hr)))) fun _ _ x => x)
  have marked (mk : Value) : wpAny M A (callMarked mk f (first ++ a.pos) a.kw) Q E s₁ := by unfold callMarked; exact Calls.wpAny_keep h₁.2
  rcases hk' with rfl | rfl | rfl <;> dsimp only <;> first | exact tail (marked _) | exact tail (wpAny_operating h₁.2)
/-- C( *y, k = v, ..), y a tuple -/
theorem em_makeS {Z : List D → List D → Sto → (D → Sto → Prop) → Prop} (hZ : Z = MkQ W C ∨ Z = MkF W C) (M : MkCK X.prog X.w X.K X.mg X.base x C ks k W) (hr : Room (k + 1) X.A) (h : EM X ρ s e fun d s1 => ∃ ds, d = .tup ds ∧ KM X ρ s1 kws fun zs s2 => zs.length = ks.length ∧ Z ds zs s2 Φ) (hg : Gl X x := by rfl)
    (hall : (backToKw pos (keywordEach kws X.env)).all (·.1.isSome) = true := by rfl) (hks : (backToKw pos (keywordEach kws X.env)).filterMap (·.1) = ks := by rfl)
    (hdb : (x == ("__debug__" : Str)) = false := by decide) (hst : starEach [.Starred e sp] X.env = [(true, eval e X.env)] := by rfl) : EM X ρ s (.Call (.Name x p) [.Starred e sp] kws pos) Φ := by
  intro α σ H Q so re kk
  refine ⟨fun pins sh I => ?_⟩
  obtain ⟨f, hm, Mm, F⟩ := M.ex
  refine wpAny_Call_Name_kw (ld_glob I hg hm ?_ hdb)
  rw [hst]
  refine call_starkw (P := X.K.In) rfl (PySem.W.keeps_K Mm.kp) (lone_kw hall (thn ((h α σ H (fun v H1 => ∃ a vs, v = .ref a ∧ RK X σ H1 kws fun zs H2 => SqT X.K H2 a vs ∧ zs.length = ks.length ∧ ∀ x dx, H2 x = none → H2 dx = none → dx ≠ x → spK X.K W (.ref x :: vs) zs (L2.upd (L2.upd H2 dx (.own x)) x (.ins C dx [])) (fun v H2 => v = .non ∧ Q (.ref x) H2)) so re (by
    rintro γ s1 d v H1 w1 d1 ⟨ds, rfl, q⟩
    obtain ⟨a, xs, e1, e2, l⟩ := d1
    refine ⟨a, xs, e1, q _ σ H1 _ w1.ok (w1.re re) ?_⟩
    rintro δ s2 zs us H2 w2 d2 ⟨hl, q2⟩
    have k2 := (kk.step so w1).step w1.ok w2
    refine ⟨sqT_kp w2.kp e2, by rw [← d2.length]; exact hl, ?_⟩
    rcases hZ with rfl | rfl
    · exact mkQ_run w2.ok (w2.dal l) d2 k2 q2
    · exact mkF_run w2.ok (w2.dal l) d2 k2 q2)).go pins sh I) fun v s1 ⟨y, H1, I1, ry, a, vs, ey, q⟩ => ?_))
  subst ey
  obtain rfl : v = Value.ref a := ry
  refine thn (q.go pos pins s1 I1) fun ws s2 ⟨zs, H2, I2, rz, ht, hl, q2⟩ => ?_
  refine star_tup I2 ht fun us s3 I3 rv => ⟨I3.kIn, ?_⟩
  rw [hks]
  exact run_makeRK Mm F hr I3 rv rz hl q2
/-- Cls.m(k = v, ..): a classmethod -/
theorem em_cmethK {pl : Sem Bool} (M : CFnK X.prog X.w X.K X.mg X.base C m ks k W) (hr : Room k X.A) (h : EM X ρ s o fun d s1 => d = .adr C ∧ KM X ρ s1 kws fun zs s2 => zs.length = ks.length ∧ W [.adr C] zs s2 Φ)
    (hall : (backToKw pos (keywordEach kws X.env)).all (·.1.isSome) = true := by rfl) (hks : (backToKw pos (keywordEach kws X.env)).filterMap (·.1) = ks := by rfl)
    (hpl : ((backTo pos (starEach [] X.env)).any (·.1) || (backToKw pos (keywordEach kws X.env)).any (·.1.isNone)) = false := by rfl)
    (ht : eval (.Call (.Attribute o m apos) [] kws pos) X.env = (do
      let ov ← eval o X.env
      standAt apos.atName
      let (f, first) ← holding [ov] (getMethod ov m pl)
      callWith pos f first (backTo pos (starEach [] X.env)) (backToKw pos (keywordEach kws X.env))) := by rfl) : EM X ρ s (.Call (.Attribute o m apos) [] kws pos) Φ := by
  intro α σ H Q so re kk
  refine ⟨fun pins sh I => ?_⟩
  obtain ⟨mc, pp, g, r, c, F⟩ := M.ex
  refine PySem.W.methodCall_KW (pl := pl) (thn ((h α σ H (fun v H1 => v = .ref C ∧ RK X σ H1 kws fun zs H2 => zs.length = ks.length ∧ spK X.K W [.ref C] zs H2 Q) so re (by
    rintro γ s1 d v H1 w1 d1 ⟨rfl, q⟩
    refine ⟨d1, q _ σ H1 _ w1.ok (w1.re re) ?_⟩
    rintro δ s2 zs us H2 w2 d2 ⟨hl, q2⟩
    exact ⟨by rw [← d2.length]; exact hl, _, s2, [.adr C], zs, Φ, w2.ok, ⟨_, _, rfl, rfl, rfl⟩, d2, q2, (kk.step so w1).step w1.ok w2⟩)).go pins sh I) fun u s1 ⟨x, H1, I1, rx, ex, q⟩ => ?_) ht
  subst ex
  obtain rfl : u = Value.ref C := rx
  refine ClX.getmethcm_ok I1 r c fun s2 I2 => ?_
  refine PySem.W.callWith_of (P := PySem.W.MethP X.K s1.heap.objs.size g (.ref C)) hpl (PySem.W.keeps_M c.fi) (PyProof.Rows.evalArgs_kw2_nil hall ?_)
  refine thn (q.go pos _ s2 I2) fun ws s3 ⟨zs, H2, I3, rz, hl, q2⟩ => ⟨⟨ClX.pin_at I3, I3.kIn⟩, ?_⟩
  rw [hks]
  have z : wpAny (model X.prog X.w) X.A (call (.ref s1.heap.objs.size) [] (ks.zip ws)) (EP X ((s1.heap.objs.size, PySem.W.methodObj (.ref g) (.ref C)) :: pins) σ Q) X.xe s3 :=
    wpAny_call (PySem.W.method_call (ClX.pin_at I3) (run_rk (us := [.ref C]) (vs := [.ref C]) F hr I3 (.cons rfl .nil) rz hl q2))
  exact thn z fun _ _ y => ClX.unpinE y
/-- cls(k = v, ..), cls a slot that holds the class at C -/
theorem em_slotK {Z : List D → List D → Sto → (D → Sto → Prop) → Prop} (hZ : Z = MkQ W C ∨ Z = MkF W C) {y : Str} (M : MkCK X.prog X.w X.K X.mg X.base y C ks k W) (hr : Room (k + 1) X.A) (i : Nat) (h : KM X ρ s kws fun zs s2 => zs.length = ks.length ∧ Z [] zs s2 Φ)
    (hρ : ρ[i]? = some (some (.adr C))) (hN : X.N[i]? = some x := by rfl) (hv : Vis X.env.scope x := by first | exact Or.inl rfl | exact Or.inr (Or.inl rfl) | exact Or.inr (Or.inr rfl))
    (hall : (backToKw pos (keywordEach kws X.env)).all (·.1.isSome) = true := by rfl) (hks : (backToKw pos (keywordEach kws X.env)).filterMap (·.1) = ks := by rfl)
    (hd : (x == ("__debug__" : Str)) = false := by decide) (hcd : (x == ("__classdict__" : Str)) = false := by decide)
    (hpl : ((backTo pos (starEach [] X.env)).any (·.1) || (backToKw pos (keywordEach kws X.env)).any (·.1.isNone)) = false := by rfl) : EM X ρ s (.Call (.Name x p) [] kws pos) Φ := by
  intro α σ H Q so re kk
  refine ⟨fun pins sh I => ?_⟩
  obtain ⟨f, hm, Mm, F⟩ := M.ex
  obtain ⟨v, h1, h2⟩ := re.at_ i _ hρ
  cases h2
  refine wpAny_Call_Name_kw (thn ((pe_var (pos := p) (i := i) hN hv hd hcd).run pins sh σ H (fun v H1 => v = .ref C ∧ H1 = H) I ⟨.ref C, h1, rfl, rfl⟩) fun u s1 ⟨v, H1, I1, r1, ev, eH⟩ => ?_)
  subst ev
  rw [eH] at I1
  obtain rfl : u = Value.ref C := r1
  refine PySem.W.callWith_KW0 (h₀ := X.base) I1.ok.mod.kin Mm.kp hall ?_ hpl
  refine thn ((h α σ H (fun zs H2 => zs.length = ks.length ∧ ∀ x dx, H2 x = none → H2 dx = none → dx ≠ x → spK X.K W [.ref x] zs (L2.upd (L2.upd H2 dx (.own x)) x (.ins C dx [])) (fun v H2 => v = .non ∧ Q (.ref x) H2)) so re (by
    rintro δ s2 zs us H2 w2 d2 ⟨hl, q2⟩
    have k2 := kk.step so w2
    refine ⟨by rw [← d2.length]; exact hl, ?_⟩
    rcases hZ with rfl | rfl
    · exact mkQ_run (ds := []) (vs := []) w2.ok rfl d2 k2 q2
    · exact mkF_run (ds := []) (vs := []) w2.ok rfl d2 k2 q2)).go pos pins s1 I1) fun ws s2 ⟨zs, H2, I2, rz, hl, q2⟩ => ⟨I2.kIn, ?_⟩
  rw [hks]
  exact run_makeRK (us := []) (vs := []) Mm F hr I2 .nil rz hl q2
end
end Mp
end T_MpK

section T_MpL
set_option autoImplicit true
set_option maxRecDepth 100000
set_option maxHeartbeats 4000000
namespace Mp
open PySem PySem.Spec PyProof.Rows L2 RZ
section
variable {prog : Program} {w : World} {A : Around} {E : Value → Shared → Prop} {s : Shared}
theorem t_zip_next_item_held {z TI TO T i1 i2 l1 l2 : Addr} {f : Bool} {oT : Obj} {k1 k2 : Nat} {xs ys : Array Value} {x y : Value} {Q : Value → Shared → Prop} (D : ZipApart z TI TO i1 i2 l1 l2)
    (hz : IsZipHeld s.heap z TI TO T f) (hT : s.heap.get? T = some oT) (hTI : IsPair s.heap TI (.ref i1) (.ref i2))
    (h1 : s.heap.IsTupleIter i1 l1 k1) (h2 : s.heap.IsTupleIter i2 l2 k2) (hl1 : s.heap.IsTuple l1 xs) (hl2 : s.heap.IsTuple l2 ys) (hx : xs[k1]? = some x) (hy : ys[k2]? = some y)
    (hQ : ∀ h', IsZipHeld h' z TI TO T true → h'.IsTupleIter i1 l1 (k1 + 1) → h'.IsTupleIter i2 l2 (k2 + 1) → IsPair h' s.heap.objs.size x y → h'.objs.size = s.heap.objs.size + 1 →
      (∀ c o, c ≠ z → c ≠ i1 → c ≠ i2 → s.heap.get? c = some o → h'.get? c = some o) → Q (.ref s.heap.objs.size) { s with heap := h' }) :
    wpAny (model prog w) A (Builtin.«zip.__next__» ⟨[.ref z], []⟩) (fun fin s' => ∃ v, fin = .done (.ret v) ∧ Q v s') E s := by
  show wpAny _ _ (field (.ref z) 2 >>= _) _ _ _
  refine wpAny_bind (wpAny_field hz rfl (x := .bool false) rfl ?_)
  show wpAny _ _ (field (.ref z) 3 >>= _) _ _ _
  refine wpAny_bind (wpAny_field hz rfl (x := .ref TI) rfl ?_)
  refine wpAny_bind (wpAny_seqItems hTI rfl ?_)
  show wpAny _ _ (Builtin.SmallTypes.ownedTupleIsFree (.ref z) >>= _) _ _ _
  refine wpAny_bind (wpAny_tupleHeld_zip hz hT fun h₁ hz₁ hs₁ => ?_)
  simp only [Bool.false_eq_true, if_false]
  refine wpAny_bind ?_
  rw [← Array.forIn_toList]
  simp only [List.forIn_cons, List.forIn_nil]
  refine wpAny_bind (wpAny_bind (wpAny_holding ?_))
  show wpAny _ _ (Builtin.SmallTypes.nextOf (.ref i1) >>= _) _ _ _
  refine wpAny_bind (nextOf_tuple_item (s := { s with heap := h₁ }) (h1.extBut hs₁.extBut D.i1z) (hl1.extBut hs₁.extBut D.l1z) hx fun h₂ h1₂ hs₂ => wpAny_pure ?_)
  refine wpAny_pure ?_
  refine wpAny_bind (wpAny_bind (wpAny_holding ?_))
  show wpAny _ _ (Builtin.SmallTypes.nextOf (.ref i2) >>= _) _ _ _
  refine wpAny_bind (nextOf_tuple_item (s := { s with heap := h₂ }) ((h2.extBut hs₁.extBut D.i2z).extBut hs₂.extBut D.i12.symm) ((hl2.extBut hs₁.extBut D.l2z).extBut hs₂.extBut D.l2i1) hy fun h₃ h2₃ hs₃ => wpAny_pure ?_)
  refine wpAny_pure (wpAny_pure ?_)
  show wpAny _ _ (newTuple [x, y] >>= _) _ _ _
  refine wpAny_bind (wpAny_newTuple ?_)
  have hsz : h₃.objs.size = s.heap.objs.size := by rw [hs₃.1, hs₂.1, hs₁.1]
  have hz₃ : IsZipHeld h₃ z TI TO T true := hs₃.extBut _ _ D.i2z.symm (hs₂.extBut _ _ D.i1z.symm hz₁)
  have hk : ∀ c o, c ≠ z → c ≠ i1 → c ≠ i2 → s.heap.get? c = some o → h₃.get? c = some o := fun c o c1 c2 c3 e => hs₃.extBut _ _ c3 (hs₂.extBut _ _ c2 (hs₁.extBut _ _ c1 e))
  have h1₃ : h₃.IsTupleIter i1 l1 (k1 + 1) := h1₂.extBut hs₃.extBut D.i12
  refine wpAny_pure ⟨_, rfl, ?_⟩
  show Q (.ref h₃.objs.size) _
  have hp : IsPair (h₃.push { cls := .type "tuple", data := .seq #[x, y] }) h₃.objs.size x y := Heap.get?_push_size _ rfl
  have hz4 : (h₃.push { cls := .type "tuple", data := .seq #[x, y] }).objs.size = h₃.objs.size + 1 := Heap.size_push ..
  rw [hsz] at hp hz4 ⊢
  exact hQ _ (Heap.get?_push_of_some _ hz₃) (h1₃.at fun o e => Heap.get?_push_of_some _ e) (h2₃.at fun o e => Heap.get?_push_of_some _ e) hp hz4 fun c o c1 c2 c3 e => Heap.get?_push_of_some _ (hk c o c1 c2 c3 e)

theorem t_zip_next_end_held {z TI TO T i1 i2 l1 l2 : Addr} {f : Bool} {oT : Obj} {k1 k2 : Nat} {xs ys : Array Value} {Q : Fin → Shared → Prop} (hh : A.handled = none) (D : ZipApart z TI TO i1 i2 l1 l2)
    (hz : IsZipHeld s.heap z TI TO T f) (hT : s.heap.get? T = some oT) (hTI : IsPair s.heap TI (.ref i1) (.ref i2))
    (h1 : s.heap.IsTupleIter i1 l1 k1) (h2 : s.heap.IsTupleIter i2 l2 k2) (hl1 : s.heap.IsTuple l1 xs) (hl2 : s.heap.IsTuple l2 ys) (hend : xs[k1]? = none ∨ ys[k2]? = none)
    (hE : ∀ h' e, (∀ c o, c ≠ z → c ≠ i1 → c ≠ i2 → s.heap.get? c = some o → h'.get? c = some o) → (∃ o, h'.get? e = some o ∧ o.cls = .type "StopIteration") → E (.ref e) { s with heap := h' }) :
    wpAny (model prog w) A (Builtin.«zip.__next__» ⟨[.ref z], []⟩) Q E s := by
  show wpAny _ _ (field (.ref z) 2 >>= _) _ _ _
  refine wpAny_bind (wpAny_field hz rfl (x := .bool false) rfl ?_)
  show wpAny _ _ (field (.ref z) 3 >>= _) _ _ _
  refine wpAny_bind (wpAny_field hz rfl (x := .ref TI) rfl ?_)
  refine wpAny_bind (wpAny_seqItems hTI rfl ?_)
  show wpAny _ _ (Builtin.SmallTypes.ownedTupleIsFree (.ref z) >>= _) _ _ _
  refine wpAny_bind (wpAny_tupleHeld_zip hz hT fun h₁ hz₁ hs₁ => ?_)
  simp only [Bool.false_eq_true, if_false]
  refine wpAny_bind ?_
  rw [← Array.forIn_toList]
  simp only [List.forIn_cons, List.forIn_nil]
  refine wpAny_bind (wpAny_bind (wpAny_holding ?_))
  show wpAny _ _ (Builtin.SmallTypes.nextOf (.ref i1) >>= _) _ _ _
  cases hx : xs[k1]? with
  | none =>
    refine wpAny_bind (nextOf_tuple_end (s := { s with heap := h₁ }) hh (h1.extBut hs₁.extBut D.i1z) (hl1.extBut hs₁.extBut D.l1z) hx fun h₂ e hs₂ he => ?_)
    exact hE h₂ e (fun c o c1 c2 _ x => hs₂ _ _ c2 (hs₁.extBut _ _ c1 x)) he
  | some x =>
    have hy : ys[k2]? = none := by rcases hend with h | h; rw [hx] at h; cases h; exact h
    refine wpAny_bind (nextOf_tuple_item (s := { s with heap := h₁ }) (h1.extBut hs₁.extBut D.i1z) (hl1.extBut hs₁.extBut D.l1z) hx fun h₂ h1₂ hs₂ => wpAny_pure ?_)
    refine wpAny_pure ?_
    refine wpAny_bind (wpAny_bind (wpAny_holding ?_))
    show wpAny _ _ (Builtin.SmallTypes.nextOf (.ref i2) >>= _) _ _ _
    refine wpAny_bind (nextOf_tuple_end (s := { s with heap := h₂ }) hh ((h2.extBut hs₁.extBut D.i2z).extBut hs₂.extBut D.i12.symm) ((hl2.extBut hs₁.extBut D.l2z).extBut hs₂.extBut D.l2i1) hy fun h₃ e hs₃ he => ?_)
    exact hE h₃ e (fun c o c1 c2 c3 x => hs₃ _ _ c3 (hs₂.extBut _ _ c2 (hs₁.extBut _ _ c1 x))) he

theorem t_wpAny_pyNext_zip_item_held {z TI TO T i1 i2 l1 l2 : Addr} {f : Bool} {oT : Obj} {k1 k2 : Nat} {xs ys : Array Value} {x y : Value} {Q : Option Value → Shared → Prop} (D : ZipApart z TI TO i1 i2 l1 l2)
    (hz : IsZipHeld s.heap z TI TO T f) (hT : s.heap.get? T = some oT) (hTI : IsPair s.heap TI (.ref i1) (.ref i2))
    (h1 : s.heap.IsTupleIter i1 l1 k1) (h2 : s.heap.IsTupleIter i2 l2 k2) (hl1 : s.heap.IsTuple l1 xs) (hl2 : s.heap.IsTuple l2 ys) (hx : xs[k1]? = some x) (hy : ys[k2]? = some y)
    (hQ : ∀ h', IsZipHeld h' z TI TO T true → h'.IsTupleIter i1 l1 (k1 + 1) → h'.IsTupleIter i2 l2 (k2 + 1) → IsPair h' s.heap.objs.size x y → h'.objs.size = s.heap.objs.size + 1 →
      (∀ c o, c ≠ z → c ≠ i1 → c ≠ i2 → s.heap.get? c = some o → h'.get? c = some o) → Q (some (.ref s.heap.objs.size)) { s with heap := h' }) :
    wpAny (model prog w) A (pyNext (.ref z)) Q E s := by
  have hTy : s.TypeIs (.ref z) "zip" := ⟨_, hz, rfl⟩
  unfold pyNext
  exact wpAny_bind (wpAny_attempt (wpAny_callSpecial?_slot (name := Str.ofString "__next__") hTy F.slot_zip_next
    (wpAny_call_entry F.slot_zip_next hTy F.entry_zip_next
      (t_zip_next_item_held D hz hT hTI h1 h2 hl1 hl2 hx hy fun h' a1 a3 a4 a5 a6 a7 => wpAny_pure (hQ h' a1 a3 a4 a5 a6 a7)) (F.args_zip_next_1 _))))
theorem t_wpAny_pyNext_zip_end_held {z TI TO T i1 i2 l1 l2 : Addr} {f : Bool} {oT : Obj} {k1 k2 : Nat} {xs ys : Array Value} {Q : Option Value → Shared → Prop} (hh : A.handled = none) (D : ZipApart z TI TO i1 i2 l1 l2)
    (hz : IsZipHeld s.heap z TI TO T f) (hT : s.heap.get? T = some oT) (hTI : IsPair s.heap TI (.ref i1) (.ref i2))
    (h1 : s.heap.IsTupleIter i1 l1 k1) (h2 : s.heap.IsTupleIter i2 l2 k2) (hl1 : s.heap.IsTuple l1 xs) (hl2 : s.heap.IsTuple l2 ys) (hend : xs[k1]? = none ∨ ys[k2]? = none)
    (hQ : ∀ h', (∀ c o, c ≠ z → c ≠ i1 → c ≠ i2 → s.heap.get? c = some o → h'.get? c = some o) → Q none { s with heap := h' }) : wpAny (model prog w) A (pyNext (.ref z)) Q E s := by
  have hTy : s.TypeIs (.ref z) "zip" := ⟨_, hz, rfl⟩
  unfold pyNext
  refine wpAny_bind (wpAny_attempt (wpAny_callSpecial?_slot (name := Str.ofString "__next__") hTy F.slot_zip_next
    (wpAny_call_entry F.slot_zip_next hTy F.entry_zip_next (t_zip_next_end_held hh D hz hT hTI h1 h2 hl1 hl2 hend fun h' e hk he => ?_) (F.args_zip_next_1 _))))
  obtain ⟨o, ho, hc⟩ := he
  refine wpAny_bind (wpAny_isInstance (T := "StopIteration") (b := true) ⟨o, ho, hc⟩ isSubtype_stop ?_)
  exact wpAny_pure (hQ _ hk)
end
/-! ### list(zip(x, y)), x and y tuples of one length -/
theorem zip_no_len : typeLookup (.type "zip") "__len__" = pure none := by rw [typeLookup_type, builtinLookup_eq_fast]; kernel_rfl
theorem zip_no_hint : typeLookup (.type "zip") "__length_hint__" = pure none := by rw [typeLookup_type, builtinLookup_eq_fast]; kernel_rfl
/-- the pairs made so far: at addresses that were free -/
def Prs (H0 H : Hp) (xs ys : List V) (i : Nat) (ts : List V) : Prop := ts.length = i ∧ ∀ (j : Nat) (t : V), ts[j]? = some t → ∃ T x y, t = .ref T ∧ H0 T = none ∧ H T = some (.tup [x, y]) ∧ xs[j]? = some x ∧ ys[j]? = some y
/-- the zip between two turns -/
def ZSt (H : Hp) (h : Heap) (z TI TO : Addr) : Prop := (IsZip h z TI TO .none ∧ ∃ x y, IsPair h TO x y) ∨ ∃ T f oT, IsZipHeld h z TI TO T f ∧ h.get? T = some oT ∧ H T ≠ none
theorem zst_next {X : Cx} {pins : List (Addr × Obj)} {σ : L2.St} {H : Hp} {A : Around} {E : Value → Shared → Prop} {s : Shared} {z TI TO i1 i2 a b : Addr} {i : Nat} {xs ys : Array Value} {x y : Value} {Q : Option Value → Shared → Prop} (D : ZipApart z TI TO i1 i2 a b) (I : Inv X pins σ H s) (hf : ∀ c ∈ [z, TI, TO, i1, i2], FpOk X pins H c)
    (hz : ZSt H s.heap z TI TO) (hTI : IsPair s.heap TI (.ref i1) (.ref i2)) (h1 : s.heap.IsTupleIter i1 a i) (h2 : s.heap.IsTupleIter i2 b i) (hl1 : s.heap.IsTuple a xs) (hl2 : s.heap.IsTuple b ys) (hx : xs[i]? = some x) (hy : ys[i]? = some y)
    (hQ : ∀ h' T' f', IsZipHeld h' z TI TO T' f' → (T' = s.heap.objs.size ∨ (H T' ≠ none ∧ ∃ o, h'.get? T' = some o)) → IsPair h' TI (.ref i1) (.ref i2) → h'.IsTupleIter i1 a (i + 1) → h'.IsTupleIter i2 b (i + 1) → IsPair h' s.heap.objs.size x y → h'.objs.size = s.heap.objs.size + 1 →
      (∀ c o, c ∉ [z, TI, TO, i1, i2] → s.heap.get? c = some o → h'.get? c = some o) → Q (some (.ref s.heap.objs.size)) { s with heap := h' }) :
    wpAny (model X.prog X.w) A (pyNext (.ref z)) Q E s := by
  have nots : ∀ T, H T ≠ none → T ∉ [z, TI, TO, i1, i2] := fun T hT hm => hT (hf T hm).1
  rcases hz with ⟨hz, x0, y0, hTO⟩ | ⟨T, f, oT, hz, hT, hH⟩
  · refine pyNext_zipT_item D hz hTI hTO h1 h2 hl1 hl2 hx hy fun h' z' TO' h1' h2' hT hsz hk => ?_
    refine hQ h' _ _ z' (.inl rfl) (hk TI _ D.TIz D.TITO D.TIi1 D.TIi2 hTI) h1' h2' hT hsz fun c o hc e => ?_
    exact hk c o (fun q => hc (by simp [q])) (fun q => hc (by simp [q])) (fun q => hc (by simp [q])) (fun q => hc (by simp [q])) e
  · have n := nots T hH
    refine t_wpAny_pyNext_zip_item_held D hz hT hTI h1 h2 hl1 hl2 hx hy fun h' z' h1' h2' hT' hsz hk => ?_
    refine hQ h' _ _ z' (.inr ⟨hH, _, hk T _ (fun q => n (by simp [q])) (fun q => n (by simp [q])) (fun q => n (by simp [q])) hT⟩) (hk TI _ D.TIz D.TIi1 D.TIi2 hTI) h1' h2' hT' hsz fun c o hc e => ?_
    exact hk c o (fun q => hc (by simp [q])) (fun q => hc (by simp [q])) (fun q => hc (by simp [q])) e
theorem zst_end {X : Cx} {H : Hp} {A : Around} {E : Value → Shared → Prop} {s : Shared} {z TI TO i1 i2 a b : Addr} {i : Nat} {xs ys : Array Value} {Q : Option Value → Shared → Prop} (hh : A.handled = none) (D : ZipApart z TI TO i1 i2 a b)
    (hz : ZSt H s.heap z TI TO) (hTI : IsPair s.heap TI (.ref i1) (.ref i2)) (h1 : s.heap.IsTupleIter i1 a i) (h2 : s.heap.IsTupleIter i2 b i) (hl1 : s.heap.IsTuple a xs) (hl2 : s.heap.IsTuple b ys) (he : xs[i]? = none)
    (hQ : ∀ h', (∀ c o, c ∉ [z, TI, TO, i1, i2] → s.heap.get? c = some o → h'.get? c = some o) → Q none { s with heap := h' }) : wpAny (model X.prog X.w) A (pyNext (.ref z)) Q E s := by
  rcases hz with ⟨hz, x0, y0, hTO⟩ | ⟨T, f, oT, hz, hT, hH⟩
  · exact pyNext_zipT_end hh D hz hTI hTO h1 h2 hl1 hl2 (.inl he) fun h' hk => hQ h' fun c o hc e => hk c o (fun q => hc (by simp [q])) (fun q => hc (by simp [q])) (fun q => hc (by simp [q])) (fun q => hc (by simp [q])) e
  · exact t_wpAny_pyNext_zip_end_held hh D hz hT hTI h1 h2 hl1 hl2 (.inl he) fun h' hk => hQ h' fun c o hc e => hk c o (fun q => hc (by simp [q])) (fun q => hc (by simp [q])) (fun q => hc (by simp [q])) e
theorem zip_loop {X : Cx} {A : Around} {pins : List (Addr × Obj)} {σ : L2.St} {z TI TO i1 i2 a b S : Addr} (D : ZipApart z TI TO i1 i2 a b) {xs ys : List V} (hl : xs.length ≤ ys.length) (hn : xs.length ≤ 1000) (hh : A.handled = none) {H0 : Hp} (hS5 : S ∉ [z, TI, TO, i1, i2]) (res : Value) (R : Result → Shared → Prop) :
    ∀ (k i : Nat) (s : Shared) (H : Hp) (acc : Array Value) (c : Nat) (ts : List V), xs.length - i = k → i ≤ xs.length → Inv X pins σ H s → (∀ c ∈ [z, TI, TO, i1, i2], FpOk X pins H c) → H S = some (.lst ts) → SqT X.K H a xs → SqT X.K H b ys →
      ZSt H s.heap z TI TO → IsPair s.heap TI (.ref i1) (.ref i2) → s.heap.IsTupleIter i1 a i → s.heap.IsTupleIter i2 b i → TO < s.heap.objs.size →
      s.heap.get? S = some { cls := .type "list", dict := none, data := .seq acc c, slots := #[] } → Vals ts acc.toList → Prs H0 H xs ys i ts → (∀ q, H0 q ≠ none → H q = H0 q) → H0 S = none →
      (∀ s' H' ts', Inv X pins σ H' s' → H' S = some (.lst ts') → Prs H0 H' xs ys xs.length ts' → (∀ q, H0 q ≠ none → H' q = H0 q) → R (.ok (.ret res)) s') →
      codeAny (model X.prog X.w) A (.builtin "list.extend.loop" ⟨[.ref S, .ref z, res], []⟩) R s := by
  intro k
  induction k with
  | zero =>
    intro i s H acc c ts hk hi I hf hHS qx qy hz hTI h1 h2 hTOl hS hv hp hk0 hH0S hR
    have hin : i = xs.length := by omega
    subst hin
    obtain ⟨its, rv, p, _⟩ := I.tuple qx
    obtain ⟨its2, rv2, p2, _⟩ := I.tuple qy
    refine codeAny_builtin F.entry_extend_loop ?_
    rw [Around.under_plainId F.plain_extend_loop _]
    show wpAny _ A.in1 (pyNext (.ref z) >>= _) _ _ s
    refine wpAny_bind (zst_end (show A.in1.handled = none from hh) D hz hTI h1 h2 p p2 (by rw [rv.length]; simp) fun h' hkk => ?_)
    have I' : Inv X pins σ H { s with heap := h' } := I.turnedL (t' := s.toks) (ch := [z, TI, TO, i1, i2]) (fun c o hb q => hkk c o hb q) hf
    exact wpAny_pure (hR _ H ts I' hHS hp hk0)
  | succ k ih =>
    intro i s H acc c ts hk hi I hf hHS qx qy hz hTI h1 h2 hTOl hS hv hp hk0 hH0S hR
    have hlt : i < xs.length := by omega
    obtain ⟨its, rv, p, _⟩ := I.tuple qx
    obtain ⟨its2, rv2, p2, _⟩ := I.tuple qy
    have hx : xs[i]? = some xs[i] := List.getElem?_eq_getElem hlt
    have hlt2 : i < ys.length := by omega
    have hy : ys[i]? = some ys[i] := List.getElem?_eq_getElem hlt2
    obtain ⟨u, hu, ru⟩ := rv.get hx
    obtain ⟨u2, hu2, ru2⟩ := rv2.get hy
    have hSl : S < s.heap.objs.size := Heap.lt_size hS
    refine codeAny_builtin F.entry_extend_loop ?_
    rw [Around.under_plainId F.plain_extend_loop _]
    show wpAny _ A.in1 (pyNext (.ref z) >>= _) _ _ s
    refine wpAny_bind (zst_next D I (hf) hz hTI h1 h2 p p2 (x := u) (y := u2) (by simpa using hu) (by simpa using hu2) fun h' T' f' z' hT' hTI' h1' h2' hT hsz' hkk => ?_)
    have hS' : h'.get? S = some { cls := .type "list", dict := none, data := .seq acc c, slots := #[] } := hkk S _ hS5 hS
    have accsz : acc.size = i := by
      have := hv.length
      rw [hp.1] at this
      simpa using this.symm
    have hn : H s.heap.objs.size = none := I.hok.fresh (Nat.le_refl _)
    have lt5 : ∀ c ∈ [z, TI, TO, i1, i2], c < s.heap.objs.size := fun c hc => by
      have e' : c = z ∨ c = TI ∨ c = TO ∨ c = i1 ∨ c = i2 := by simpa using hc
      have hzl : z < s.heap.objs.size := by
        rcases hz with ⟨hz, _⟩ | ⟨_, _, _, hz, _⟩
        · exact Heap.lt_size hz
        · exact Heap.lt_size hz
      rcases e' with q | q | q | q | q
      · rw [q]; exact hzl
      · rw [q]; exact Heap.lt_size hTI
      · rw [q]; exact hTOl
      · rw [q]; obtain ⟨_, e1, _⟩ := h1; exact Heap.lt_size e1
      · rw [q]; obtain ⟨_, e2, _⟩ := h2; exact Heap.lt_size e2
    have new0 : ObjOk X.prog X.w (L2.upd H s.heap.objs.size (.tup [xs[i], ys[i]])) h' s.heap.objs.size (.tup [xs[i], ys[i]]) :=
      ⟨by show 2 ≤ sizeLine; decide, [u, u2], .cons ru (.cons ru2 .nil), ⟨_, hT, rfl, _, rfl⟩⟩
    have I0 : Inv X pins σ (L2.upd H s.heap.objs.size (.tup [xs[i], ys[i]])) { s with heap := h' } :=
      I.turnedNew (t' := s.toks) (ch := [z, TI, TO, i1, i2]) (fun c o hb q => hkk c o hb q) hf (Nat.le_refl _) new0
    show wpAny _ A.in1 (updateSeq S (·.push (.ref s.heap.objs.size)) >>= _) _ _ _
    refine wpAny_bind ?_
    refine wpAny_updateSeq hS' rfl (wpAny_pure ⟨plainId_quiet F.plain_extend_loop _, ?_⟩) (by rw [accsz, sizeLine_eq]; omega) (by show (acc.push _).size ≤ sizeLine + 1; rw [Array.size_push, accsz, sizeLine_eq]; omega)
    have oth : ∀ c o, c ≠ S → h'.get? c = some o → (h'.update S (Obj.mapSeq (·.push (.ref s.heap.objs.size)))).get? c = some o := fun c o hc e => (Heap.get?_update_other _ _ (Ne.symm hc)).trans e
    have hSS := Heap.get?_update_self (Obj.mapSeq (·.push (Value.ref s.heap.objs.size))) hS' rfl
    have sz2 : (h'.update S (Obj.mapSeq (·.push (.ref s.heap.objs.size)))).objs.size = s.heap.objs.size + 1 := by rw [Heap.size_update, hsz']
    generalize h'.update S (Obj.mapSeq (·.push (.ref s.heap.objs.size))) = g2 at oth hSS sz2 ⊢
    have nSz : s.heap.objs.size ≠ S := Nat.ne_of_gt hSl
    have hT2 : g2.get? s.heap.objs.size = some { cls := .type "tuple", data := .seq #[u, u2] } := oth _ _ nSz hT
    have hS0 : L2.upd H s.heap.objs.size (.tup [xs[i], ys[i]]) S = some (.lst ts) := by rw [upd_ne (Ne.symm nSz)]; exact hHS
    have hv2 : Vals (ts ++ [.ref s.heap.objs.size]) (acc.push (.ref s.heap.objs.size)).toList := by
      rw [Array.toList_push]
      exact hv.append (.cons rfl .nil)
    have I1 : Inv X pins σ (L2.upd (L2.upd H s.heap.objs.size (.tup [xs[i], ys[i]])) S (.lst (ts ++ [.ref s.heap.objs.size]))) { s with heap := g2 } :=
      I0.write (t' := s.toks) (x := S) (e := S) (by rw [hS0]; trivial) (.inl rfl) (fun b u hb e => oth b u hb e) ⟨_, hSS⟩ ⟨by rw [List.length_append, hp.1, sizeLine_eq]; show i + 1 ≤ _; omega, _, _, hv2, by rw [Array.toArray_toList]; exact hSS⟩
    have nin : ∀ c ∈ [z, TI, TO, i1, i2], c ≠ s.heap.objs.size := fun c hc => Nat.ne_of_lt (lt5 c hc)
    have up : ∀ q u, q ≠ S → H q = some u → L2.upd (L2.upd H s.heap.objs.size (.tup [xs[i], ys[i]])) S (.lst (ts ++ [.ref s.heap.objs.size])) q = some u := fun q u hq e => by rw [upd_ne hq, upd_ne (ne_of_none e hn)]; exact e
    have p5 : ∀ c ∈ [z, TI, TO, i1, i2], c ≠ S := fun c hc e => hS5 (by rw [← e]; exact hc)
    have tupS : ∀ {p : Addr} {vs : List V}, SqT X.K H p vs → SqT X.K (L2.upd (L2.upd H s.heap.objs.size (.tup [xs[i], ys[i]])) S (.lst (ts ++ [.ref s.heap.objs.size]))) p vs := fun {p vs} h => by
      rcases h with h | h
      · rcases h with h | ⟨o, h⟩
        · exact .inl (.inl (up _ _ (fun e => by rw [e, hHS] at h; cases h) h))
        · exact .inl (.inr ⟨o, up _ _ (fun e => by rw [e, hHS] at h; cases h) h⟩)
      · exact .inr h
    refine ih (i + 1) { s with heap := g2 } (L2.upd (L2.upd H s.heap.objs.size (.tup [xs[i], ys[i]])) S (.lst (ts ++ [.ref s.heap.objs.size]))) (acc.push (.ref s.heap.objs.size)) _ (ts ++ [.ref s.heap.objs.size]) (by omega) hlt I1 (fun c hc => ⟨by rw [upd_ne (p5 c hc), upd_ne (nin c hc)]; exact (hf c hc).1, (hf c hc).2⟩) upd_same (tupS qx) (tupS qy) ?_ (oth _ _ (p5 TI (by simp)) hTI') (h1'.at fun o e => oth i1 o (p5 i1 (by simp)) e) (h2'.at fun o e => oth i2 o (p5 i2 (by simp)) e) (by show TO < g2.objs.size; rw [sz2]; exact Nat.lt_succ_of_lt hTOl) hSS hv2 ?_ ?_ hH0S hR
    · refine .inr ⟨T', f', ?_⟩
      rcases hT' with rfl | ⟨hT1, o, ho⟩
      · exact ⟨_, oth _ _ (p5 z (by simp)) z', hT2, by rw [upd_ne nSz, upd_same]; intro q; cases q⟩
      · by_cases hTS : T' = S
        · subst hTS
          exact ⟨_, oth _ _ (p5 z (by simp)) z', hSS, by rw [upd_same]; intro q; cases q⟩
        · refine ⟨o, oth _ _ (p5 z (by simp)) z', oth _ _ hTS ho, ?_⟩
          cases e : H T' with
          | none => exact absurd e hT1
          | some u => rw [up _ _ hTS e]; intro q; cases q
    · refine ⟨by rw [List.length_append, hp.1]; rfl, fun j t hj => ?_⟩
      by_cases hjt : j < ts.length
      · rw [List.getElem?_append_left hjt] at hj
        obtain ⟨T, x, y, e1, e2, e3, e4, e5⟩ := hp.2 j t hj
        exact ⟨T, x, y, e1, e2, up _ _ (fun e => by rw [e, hHS] at e3; cases e3) e3, e4, e5⟩
      · rw [List.getElem?_append_right (Nat.le_of_not_lt hjt)] at hj
        have : j - ts.length = 0 := by
          have := (List.getElem?_eq_some_iff.mp hj).1
          simp at this
          omega
        have ej : j = i := by rw [← hp.1]; omega
        rw [this] at hj
        cases hj
        subst ej
        refine ⟨s.heap.objs.size, _, _, rfl, ?_, by rw [upd_ne nSz, upd_same], hx, hy⟩
        cases e : H0 s.heap.objs.size with
        | none => rfl
        | some u =>
          have := hk0 _ (show H0 s.heap.objs.size ≠ none by rw [e]; intro q; cases q)
          rw [hn, e] at this
          cases this
    · intro q hq
      have e := hk0 q hq
      cases e0 : H0 q with
      | none => exact absurd e0 hq
      | some u => rw [e0] at e; exact up _ _ (fun z => hq (by rw [z]; exact hH0S)) e
/-- list of a zip -/
theorem call_listZip {X : Cx} {pins : List (Addr × Obj)} {σ : L2.St} {H : Hp} {s : Shared} {z TI TO i1 i2 a b : Addr} (D : ZipApart z TI TO i1 i2 a b) {xs ys : List V} (hl : xs.length ≤ ys.length) (hn : xs.length ≤ 1000) (hcalm : X.calm = true) (I : Inv X pins σ H s)
    (hf : ∀ c ∈ [z, TI, TO, i1, i2], FpOk X pins H c) (qx : SqT X.K H a xs) (qy : SqT X.K H b ys) (hz : IsZip s.heap z TI TO .none) (hTO : ∃ x y, IsPair s.heap TO x y) (hTI : IsPair s.heap TI (.ref i1) (.ref i2)) (h1 : s.heap.IsTupleIter i1 a 0) (h2 : s.heap.IsTupleIter i2 b 0)
    {Q : Value → Shared → Prop} {E : Value → Shared → Prop} (hQ : ∀ S s' H' ts', Inv X pins σ H' s' → H S = none → H' S = some (.lst ts') → Prs H H' xs ys xs.length ts' → (∀ q, H q ≠ none → H' q = H q) → Q (.ref S) s') :
    wpAny (model X.prog X.w) X.A (call (.type "list") [.ref z]) Q E s := by
  have hzl : z < s.heap.objs.size := Heap.lt_size hz
  refine callType_codes (Q₁ := fun obj s₁ => obj = .ref s.heap.objs.size ∧ s₁ = { s with heap := s.heap.push { cls := .type "list", data := .seq #[] } }) F.called_list (F.typeCall_list_1 _) F.entry_list_init
    (code_list_new _ ⟨rfl, rfl⟩) fun obj s₁ h₁ => ?_
  obtain ⟨rfl, rfl⟩ := h₁
  have hS : (s.heap.push { cls := .type "list", data := .seq #[] }).get? s.heap.objs.size = some { cls := .type "list", data := .seq #[] } := Heap.get?_push_size _ rfl
  refine ⟨⟨_, hS, rfl⟩, F.args_list_init_2 _ _, ?_⟩
  have kp : ∀ c o, s.heap.get? c = some o → (s.heap.push ({ cls := .type "list", data := .seq #[] } : Obj)).get? c = some o := fun c o e => Heap.get?_push_of_some _ e
  show wpAny _ _ (do let old ← Builtin.List.listItems (.ref s.heap.objs.size); Builtin.List.listUpdate (.ref s.heap.objs.size) (fun _ => #[]); letGo old.toList.reverse; Builtin.List.listExtendWith (.ref s.heap.objs.size) (.ref z) .none) _ _ _
  refine wpAny_bind ?_
  unfold Builtin.List.listItems
  refine wpAny_bind (wpAny_seqItems hS rfl (wpAny_pure ?_))
  show wpAny _ _ (updateSeq s.heap.objs.size (fun _ => #[]) >>= fun _ => letGo (#[] : Array Value).toList.reverse >>= fun _ => Builtin.List.listExtendWith (.ref s.heap.objs.size) (.ref z) .none) _ _ _
  refine wpAny_bind (wpAny_updateSeq hS rfl ?_)
  have hS₂ := Heap.get?_update_self (Obj.mapSeq (fun _ => (#[] : Array Value))) hS rfl
  have oth : ∀ b o, b ≠ s.heap.objs.size → s.heap.get? b = some o → ((s.heap.push ({ cls := .type "list", data := .seq #[] } : Obj)).update s.heap.objs.size (Obj.mapSeq (fun _ => (#[] : Array Value)))).get? b = some o :=
    fun b o hb e => (Heap.get?_update_other _ _ (Ne.symm hb)).trans (kp b o e)
  have szE : ((s.heap.push ({ cls := .type "list", data := .seq #[] } : Obj)).update s.heap.objs.size (Obj.mapSeq (fun _ => (#[] : Array Value)))).objs.size = s.heap.objs.size + 1 := by rw [Heap.size_update, Heap.size_push]
  generalize ((s.heap.push ({ cls := .type "list", data := .seq #[] } : Obj)).update s.heap.objs.size (Obj.mapSeq (fun _ => (#[] : Array Value)))) = g at hS₂ oth szE ⊢
  refine wpAny_bind (wpAny_letGo ?_)
  have ne : ∀ {c o}, s.heap.get? c = some o → c ≠ s.heap.objs.size := fun e => Nat.ne_of_lt (Heap.lt_size e)
  have hz2 := oth z _ (ne hz) hz
  have hT : ∀ {g2 : Heap} {t2}, g2.get? z = g.get? z → ({ s with heap := g2, toks := t2 } : Shared).TypeIs (.ref z) "zip" := fun e => ⟨_, e.trans hz2, rfl⟩
  have hzS : s.heap.objs.size ≠ z := Nat.ne_of_gt hzl
  unfold Builtin.List.listExtendWith
  refine wpAny_bind (wpAny_typeOf (hT rfl) ?_)
  have h1' : Builtin.List.listSameRef (.ref s.heap.objs.size) (.ref z) = false := by simp [Builtin.List.listSameRef, hzS]
  have h2' : (Value.type "zip" == Value.type "list") = false := by decide
  have h3' : (Value.type "zip" == Value.type "tuple") = false := by decide
  simp only [h1', h2', h3', Bool.or_false, Bool.false_eq_true, if_false]
  refine wpAny_bind (wpAny_pyIter_zip hz2 ?_)
  refine wpAny_bind (wpAny_holding ?_)
  unfold Builtin.List.listLengthHint
  refine wpAny_bind (wpAny_specialOf (hT rfl) zip_no_len ?_)
  show wpAny _ _ (specialOf (Value.ref z) (Str.ofString "__length_hint__") >>= _) _ _ _
  refine wpAny_bind (wpAny_specialOf (hT rfl) zip_no_hint ?_)
  refine wpAny_pure ?_
  show wpAny _ _ (rule "list.extend.makes-room" >>= fun _ => Builtin.List.listTouch (.ref s.heap.objs.size) >>= fun _ =>
    again (.builtin "list.extend.loop" ⟨[.ref s.heap.objs.size, .ref z, .none], []⟩)) _ _ _
  refine wpAny_bind (wpAny_rule ?_)
  refine wpAny_bind ?_
  show wpAny _ _ (updateSeq s.heap.objs.size (·.push .none) >>= fun _ => updateSeq s.heap.objs.size (·.pop)) _ _ _
  refine wpAny_bind (wpAny_updateSeq hS₂ rfl ?_)
  have hS₃ := Heap.get?_update_self (Obj.mapSeq (·.push Value.none)) hS₂ rfl
  refine wpAny_updateSeq hS₃ rfl ?_
  have hS₄ := Heap.get?_update_self (Obj.mapSeq (·.pop)) hS₃ rfl
  have oth2 : ∀ b o, b ≠ s.heap.objs.size → s.heap.get? b = some o → ((g.update s.heap.objs.size (Obj.mapSeq (·.push Value.none))).update s.heap.objs.size (Obj.mapSeq (·.pop))).get? b = some o :=
    fun b o hb e => (Heap.get?_update_other _ _ (Ne.symm hb)).trans ((Heap.get?_update_other _ _ (Ne.symm hb)).trans (oth b o hb e))
  have sz4 : ((g.update s.heap.objs.size (Obj.mapSeq (·.push Value.none))).update s.heap.objs.size (Obj.mapSeq (·.pop))).objs.size = s.heap.objs.size + 1 := by rw [Heap.size_update, Heap.size_update, szE]
  generalize ((g.update s.heap.objs.size (Obj.mapSeq (·.push Value.none))).update s.heap.objs.size (Obj.mapSeq (·.pop))) = g4 at hS₄ oth2 sz4 ⊢
  have I4 : Inv X pins σ (L2.upd H s.heap.objs.size (.lst [])) { s with heap := g4 } := I.laid (t' := s.toks) (fun c o e => oth2 c o (ne e) e) (Nat.le_refl _) ⟨by show 0 ≤ _; exact Nat.zero_le _, [], _, .nil, hS₄⟩
  have hHn : H s.heap.objs.size = none := I.hok.fresh (Nat.le_refl _)
  obtain ⟨x0, y0, hTO⟩ := hTO
  have lt5 : ∀ c ∈ [z, TI, TO, i1, i2], c ≠ s.heap.objs.size := fun c hc => by
    have e' : c = z ∨ c = TI ∨ c = TO ∨ c = i1 ∨ c = i2 := by simpa using hc
    rcases e' with q | q | q | q | q
    · rw [q]; exact ne hz
    · rw [q]; exact ne hTI
    · rw [q]; exact ne hTO
    · rw [q]; obtain ⟨_, e1, _⟩ := h1; exact ne e1
    · rw [q]; obtain ⟨_, e1, _⟩ := h2; exact ne e1
  refine wpAny_pure ⟨plainId_quiet F.plain_extend_loop _, ?_⟩
  have up : ∀ q u, H q = some u → L2.upd H s.heap.objs.size (.lst []) q = some u := fun q u e => by rw [upd_ne (ne_of_none e hHn)]; exact e
  have tupS : ∀ {p : Addr} {vs : List V}, SqT X.K H p vs → SqT X.K (L2.upd H s.heap.objs.size (.lst [])) p vs := fun {p vs} h => by
    rcases h with h | h
    · rcases h with h | ⟨o, h⟩
      · exact .inl (.inl (up _ _ h))
      · exact .inl (.inr ⟨o, up _ _ h⟩)
    · exact .inr h
  refine zip_loop (X := X) (A := X.A.in1) (H0 := H) (S := s.heap.objs.size) D hl hn (I.ok.hd hcalm) (fun hm => lt5 _ hm rfl) .none _ xs.length 0 { s with heap := g4 } (L2.upd H s.heap.objs.size (.lst [])) #[] _ [] rfl (Nat.zero_le _) I4 (fun c hc => ⟨by rw [upd_ne (lt5 c hc)]; exact (hf c hc).1, (hf c hc).2⟩) upd_same (tupS qx) (tupS qy) (.inl ⟨oth2 z _ (lt5 z (by simp)) hz, x0, y0, oth2 TO _ (lt5 TO (by simp)) hTO⟩) (oth2 TI _ (lt5 TI (by simp)) hTI) (h1.at fun o e => oth2 i1 o (lt5 i1 (by simp)) e) (h2.at fun o e => oth2 i2 o (lt5 i2 (by simp)) e)
    (by show TO < g4.objs.size; rw [sz4]; exact Nat.lt_succ_of_lt (Heap.lt_size hTO)) hS₄ .nil ⟨rfl, fun j t hj => by simp at hj⟩ (fun q hq => ?_) hHn fun s' H' ts' I' hs hp hk => ⟨rfl, hQ _ s' H' ts' I' hHn hs hp hk⟩
  cases e : H q with
  | none => exact absurd e hq
  | some u => exact up _ _ e
def zipD (xs ys : List D) : List D := List.zipWith (fun a b => .tup [a, b]) xs ys
theorem da_zip {K : PySem.W.Frag} {α : List Addr} {H H' : Hp} : ∀ {ds es : List D} {xs ys ts : List V}, Kp α H H' → (∀ a ∈ α, H a ≠ none) → DaL K α H ds xs → DaL K α H es ys → Prs H H' xs ys xs.length ts → xs.length ≤ ys.length → DaL K α H' (zipD ds es) ts := by
  intro ds es xs ys ts k ha l1 l2 hp hl
  have n1 := l1.length
  have n2 := l2.length
  have key : ∀ (m : Nat) (us : List D) (ws : List V), us.length = m → ws.length = m → (∀ (j : Nat) (d : D), us[j]? = some d → ∃ w, ws[j]? = some w ∧ Da K α H' d w) → DaL K α H' us ws := by
    intro m
    induction m with
    | zero =>
      intro us ws h1 h2 _
      cases List.length_eq_zero_iff.mp h1
      cases List.length_eq_zero_iff.mp h2
      rfl
    | succ m ih =>
      intro us ws h1 h2 h
      match us, ws, h1, h2 with
      | u :: us, w :: ws, h1, h2 =>
        obtain ⟨w', e, d⟩ := h 0 u rfl
        cases e
        exact ⟨w, ws, rfl, d, ih us ws (by simpa using h1) (by simpa using h2) fun j d hj => h (j + 1) d (by simpa using hj)⟩
  refine key xs.length _ _ (by unfold zipD; rw [List.length_zipWith]; omega) hp.1 fun j d hj => ?_
  have hjl : j < xs.length := by
    have := (List.getElem?_eq_some_iff.mp hj).1
    unfold zipD at this
    rw [List.length_zipWith] at this
    omega
  have hjt : j < ts.length := by rw [hp.1]; exact hjl
  obtain ⟨T, x, y, e1, e2, e3, e4, e5⟩ := hp.2 j _ (List.getElem?_eq_getElem hjt)
  unfold zipD at hj
  rw [List.getElem?_zipWith] at hj
  have d1 : ds[j]? = some (ds[j]'(by omega)) := List.getElem?_eq_getElem (by omega)
  have d2 : es[j]? = some (es[j]'(by omega)) := List.getElem?_eq_getElem (by omega)
  rw [d1, d2] at hj
  cases hj
  obtain ⟨x', f1, f2⟩ := l1.get d1
  obtain ⟨y', f3, f4⟩ := l2.get d2
  rw [e4] at f1
  rw [e5] at f3
  cases f1
  cases f3
  refine ⟨_, List.getElem?_eq_getElem hjt, T, [x, y], e1, .inl ⟨.inl e3, fun hm => ha T hm e2⟩, x, [y], rfl, f2.kp k, y, [], rfl, f4.kp k, rfl⟩
section
variable {X : Cx} {ρ : Slo} {s : Sto} {Φ : D → Sto → Prop} {pos p pz pz2 : Pos} {e e2 : Expr}
theorem em_listZip (hm : X.mg "list" = none) (hmz : X.mg "zip" = none) (h : AM X ρ s [e, e2] fun ds s1 => ∃ xs ys, ds = [.tup xs, .tup ys] ∧ xs.length ≤ ys.length ∧ xs.length ≤ 1000 ∧ Φ (.lst (zipD xs ys)) s1) (hc : X.calm = true := by rfl) (hg : Gl X "list" := by rfl) (hgz : Gl X "zip" := by rfl)
    (hs : starEach [e, e2] X.env = (false, eval e X.env) :: starEach [e2] X.env := by rfl) (hpl : (backTo pz2 (starEach [e2] X.env)).any (·.1) = false := by rfl)
    (hs2 : starEach [.Call (.Name "zip" pz) [e, e2] [] pz2] X.env = (false, eval (.Call (.Name "zip" pz) [e, e2] [] pz2) X.env) :: starEach [] X.env := by rfl) : EM X ρ s (.Call (.Name "list" p) [.Call (.Name "zip" pz) [e, e2] [] pz2] [] pos) Φ := by
  intro α σ H Q so re k
  refine ⟨fun pins sh I => ?_⟩
  refine Call_ (ld_blt I hg hm boot_list (PyProof.Rows.callWith_type1 (args_cons ?_ hs2) hs2 rfl))
  refine Call_ (ld_blt I hgz hmz PyProof.Rows.boot_zip (PyProof.Rows.callWith_type1 (thn ((h α σ H (fun vs H1 => ∃ a b xs ys, vs = [.ref a, .ref b] ∧ SqT X.K H1 a xs ∧ SqT X.K H1 b ys ∧ xs.length ≤ ys.length ∧ xs.length ≤ 1000 ∧ ∀ (S : Addr) (H' : Hp) (ts : List V), H1 S = none → H' S = some (.lst ts) → (∀ q, H1 q ≠ none → H' q = H1 q) → Prs H1 H' xs ys xs.length ts → Q (.ref S) H') so re (by
    rintro γ s1 ds vs H1 w1 d1 ⟨xs, ys, rfl, hl, hn, q⟩
    obtain ⟨va, r1, rfl, ⟨a, us, rfl, q1, l1⟩, vb, r2, rfl, ⟨b, ws, rfl, q2, l2⟩, rfl⟩ := d1
    have n1 := l1.length
    have n2 := l2.length
    refine ⟨a, b, us, ws, rfl, tupAt q1, tupAt q2, by omega, by omega, fun S H' ts hn0 hS hk hp => ?_⟩
    have grow : ∀ b o, H1 b = some o → H' b = some o := fun b o e => by rw [hk b (by rw [e]; intro z; cases z)]; exact e
    have wg := Wl.grow w1.ok grow
    have so2 : Sok X.K (α ++ γ) s1 H' := w1.ok.grow grow
    have dz := da_zip (fun b o e _ => grow b o e) (fun a ha => w1.ok.there ha) l1 l2 hp (by omega)
    have kk := (k.step so w1).step w1.ok wg
    refine kk [] s1 (.lst (zipD xs ys)) _ H' (Wl.refl wg.ok) (da_nil (da_nil ⟨S, ts, rfl, w1.ok.free hn0, hS, dz⟩)) q)).go _ pins sh I) fun us s1 ⟨vs, H1, I1, r1, a, b, xs, ys, ex, qx, qy, hl, hn, q⟩ => ?_) hs hpl))
  subst ex
  cases r1 with
  | cons r rr =>
    cases rr with
    | cons r' rr =>
      cases rr
      cases r
      cases r'
      have fresh5 : ∀ c, c ∈ [s1.heap.objs.size + 4, s1.heap.objs.size + 2, s1.heap.objs.size + 3, s1.heap.objs.size, s1.heap.objs.size + 1] → s1.heap.objs.size ≤ c := fun c hcm => by
        have e' : c = s1.heap.objs.size + 4 ∨ c = s1.heap.objs.size + 2 ∨ c = s1.heap.objs.size + 3 ∨ c = s1.heap.objs.size ∨ c = s1.heap.objs.size + 1 := by simpa using hcm
        omega
      obtain ⟨its, rv, p1, _⟩ := I1.tuple qx
      obtain ⟨its2, rv2, p2, _⟩ := I1.tuple qy
      obtain ⟨o1, ho1, _⟩ := id p1
      obtain ⟨o2, ho2, _⟩ := id p2
      refine call_zipT (show s1.heap.IsTuple a its.toArray from p1) (show s1.heap.IsTuple b its2.toArray from p2) fun h' hz hTI hTO h1 h2 hsz hk => ?_
      have I2 : Inv X pins σ H1 { s1 with heap := h' } := I1.kept (t' := s1.toks) hk
      refine args_nil ?_
      refine call_listZip (PySem.W.ktu_apart s1.heap.objs.size a b (Heap.lt_size ho1) (Heap.lt_size ho2)) hl hn hc I2 (fun c hcm => I1.fpOk (fresh5 c hcm) (I1.hok.fresh (fresh5 c hcm))) qx qy hz ⟨_, _, hTO⟩ hTI h1 h2 fun S s' H' ts' I' h0 hS hp hk' => ?_
      exact ⟨.ref S, H', I', rfl, q S H' ts' h0 hS hk' hp⟩
end
end Mp
end T_MpL

section T_MpM
set_option autoImplicit true
set_option maxRecDepth 100000
set_option maxHeartbeats 4000000
namespace Mp
open PySem PySem.Spec PyProof.Rows L2 RZ
open PySem.Sem (wp)
open Builtin
/-! ### enumerate of a tuple -/
theorem meets_enumT (l : Addr) (items : Array Value) : Meets (Builtin.«enumerate.__new__» ⟨[.type "enumerate", .ref l], []⟩) (fun _ R s => s.heap.IsTuple l items ∧
    R (.ok (.ret (.ref (s.heap.push { cls := .type "tuple_iterator", data := .fields #[.ref l, .int 0 0] }).objs.size)))
      { s with heap := (s.heap.push { cls := .type "tuple_iterator", data := .fields #[.ref l, .int 0 0] }).push { cls := .type "enumerate", data := .fields #[.none, .bool false, .ref s.heap.objs.size, rawInt 0, .none, .none] } }) :=
  .of_wp fun prog w A R s h => by
    obtain ⟨hp, g, d, tk, os⟩ := s
    obtain ⟨hl, h⟩ := h
    have hsub := sub_enumerate
    have hL : Heap.IsTuple (Shared.heap ⟨hp, g, d, tk, os⟩) l items := hl
    wp_walk
    refine wpAny_stack_any fun st => wpAny_pure ?_
    split
    · rename_i c _ _ _ _ _
      cases (c == Value.type "enumerate")
      · wp_walk using wpAny_pyIter_tuple hL
        exact ⟨_, rfl, h⟩
      · wp_walk using wpAny_pyIter_tuple hL
        exact ⟨_, rfl, h⟩
    · wp_walk using wpAny_pyIter_tuple hL
      exact ⟨_, rfl, h⟩
theorem call_enumT {prog : Program} {w : World} {A : Around} {E : Value → Shared → Prop} {s : Shared} {l : Addr} {items : Array Value} {Q : Value → Shared → Prop} (hL : s.heap.IsTuple l items)
    (h : ∀ h', IsEnum h' (s.heap.objs.size + 1) s.heap.objs.size 0 .none → h'.IsTupleIter s.heap.objs.size l 0 → h'.objs.size = s.heap.objs.size + 2 →
      (∀ b o, s.heap.get? b = some o → h'.get? b = some o) → Q (.ref (s.heap.objs.size + 1)) { s with heap := h' }) : wpAny (model prog w) A (call (.type "enumerate") [.ref l]) Q E s := by
  refine callType_new F.called_enumerate (by decide) (F.typeCall_enumerate_1 _) (F.newCall_enumerate_1 _) (fun obj => F.args_object_init_2 obj _) F.entry_enumerate_new (meets_enumT l items) ⟨hL, ?_⟩
  have hz : (s.heap.push { cls := .type "tuple_iterator", data := .fields #[.ref l, .int 0 0] }).objs.size = s.heap.objs.size + 1 := Heap.size_push ..
  show _ ∧ _
  rw [hz]
  have he : IsEnum ((s.heap.push { cls := .type "tuple_iterator", data := .fields #[.ref l, .int 0 0] }).push
      { cls := .type "enumerate", data := .fields #[.none, .bool false, .ref s.heap.objs.size, rawInt 0, .none, .none] }) (s.heap.objs.size + 1) s.heap.objs.size 0 .none := by
    have := Heap.get?_push_size (s.heap.push { cls := .type "tuple_iterator", data := .fields #[.ref l, .int 0 0] })
      (o := { cls := .type "enumerate", data := .fields #[.none, .bool false, .ref s.heap.objs.size, rawInt 0, .none, .none] }) rfl
    rw [hz] at this; exact this
  refine ⟨⟨_, he, rfl⟩, h _ he ⟨_, Heap.get?_push_of_some _ (Heap.get?_push_size _ rfl), rfl, rfl⟩ (by rw [Heap.size_push, hz]) fun b o x => Heap.get?_push_of_some _ (Heap.get?_push_of_some _ x)⟩
def IteT (K : PySem.W.Frag) (a : Addr) : It :=
  ⟨fun i H => ∃ (xs : List V) (x : V), SqT K H a xs ∧ xs[i]? = some x, fun i H v H' => ∃ T x, v = .ref T ∧ H T = none ∧ H' = upd H T (.tup [.int (i : Nat), x]) ∧ ∀ xs, SqT K H a xs → xs[i]? = some x, fun i H => ∃ xs : List V, SqT K H a xs ∧ xs.length ≤ i⟩
theorem turn_enumT {P : Program} {w : World} {K : PySem.W.Frag} {elts : List Expr} {kk : Nat} {tpos : Pos} (a e it : Addr) (hai : a ≠ it) (hae : a ≠ e) :
    Turn P w K (.Tuple elts kk tpos) (IteT K a) [e, it] e (fun i h => (∃ old, IsEnum h e it ((i : Nat) : Int) old) ∧ h.IsTupleIter it a i ∧ e ≠ it) where
  mem := by simp
  obj := fun i h st b hb => by
    obtain ⟨⟨old, he⟩, ⟨o, ho, hc, hd⟩, _⟩ := st
    have e' : b = e ∨ b = it := by simpa using hb
    rcases e' with z | z
    · rw [z]; exact ⟨_, he, fun v q => nomatch q⟩
    · rw [z]; exact ⟨o, ho, fun v q => by rw [hd] at q; cases q⟩
  keep := fun i h h' st k => let ⟨⟨old, he⟩, hi, hne⟩ := st; ⟨⟨old, k e (by simp) _ he⟩, hi.at fun o q => k it (by simp) o q, hne⟩
  item := by
    intro X hP hw hK hc i pins s σ H E I hf st hg
    subst hP hw hK
    obtain ⟨⟨old, he⟩, hit, hne⟩ := st
    obtain ⟨xs, x, hq, hx⟩ := hg
    obtain ⟨its, rv, p, hz⟩ := I.tuple hq
    obtain ⟨u, hu, ru⟩ := rv.get hx
    have hel : e < s.heap.objs.size := Heap.lt_size he
    have hil : it < s.heap.objs.size := by obtain ⟨_, q, _⟩ := hit; exact Heap.lt_size q
    have hlt : i < its.toArray.size := by
      have := (List.getElem?_eq_some_iff.mp hu).1
      simpa using this
    refine wpAny_pyNext_enum_itemD (Draws.tuple (prog := X.prog) (w := X.w) (A := X.A.in1) (I.ok.hd hc) it a hai its.toArray) he ⟨hit, p⟩ hlt hne (fun hm => ?_) fun x' h' tk hP ho hs' hT hsz hk => ?_
    · have e' : e = it ∨ e = a := by simpa using hm
      rcases e' with z | z
      · exact hne z
      · exact hae z.symm
    obtain rfl : x' = u := by
      have q : its.toArray[i]? = some u := by simpa using hu
      rw [q] at hP
      exact (Option.some.inj hP).symm
    refine ⟨_, rfl, wpAny_letOwnedTupleGo_enum (s := { s with heap := h', toks := tk + 1 }) ho fun h'' he' sb => ?_⟩
    have hT2 : h''.get? s.heap.objs.size = some { cls := .type "tuple", data := .seq #[.int i tk, x'] } := (sb.2 _ (Nat.ne_of_gt hel)).trans hT
    have new : ObjOk X.prog X.w (upd H s.heap.objs.size (.tup [.int (i : Nat), x])) h'' s.heap.objs.size (.tup [.int (i : Nat), x]) :=
      ⟨by show 2 ≤ sizeLine; decide, [.int i tk, x'], .cons ⟨_, rfl⟩ (.cons ru .nil), ⟨_, hT2, rfl, _, rfl⟩⟩
    have I1 : Inv X pins σ (upd H s.heap.objs.size (.tup [.int (i : Nat), x])) { s with heap := h'', toks := tk + 1 } :=
      I.turnedNew (ch := [e, it]) (fun b ob hb q => (sb.2 b (fun z => hb (by simp [z]))).trans (hk b ob (fun z => hb (by simp [z])) (fun z => hb (by simp [z])) q)) hf (Nat.le_refl _) new
    refine ⟨.ref s.heap.objs.size, _, I1, rfl, ⟨_, x, rfl, I.hok.fresh (Nat.le_refl _), rfl, fun ys hy => by rw [I.tuple_inj hy hq]; exact hx⟩, ⟨⟨x', ?_⟩, hs'.1.at fun o q => (sb.2 it (Ne.symm hne)).trans q, hne⟩, fun b hb => ?_⟩
    · have e1 : ((i + 1 : Nat) : Int) = (i : Int) + 1 := by omega
      rw [e1]; exact he'
    · have hb' : b < s.heap.objs.size := by
        have e' : b = e ∨ b = it := by simpa using hb
        rcases e' with z | z
        · rw [z]; exact hel
        · rw [z]; exact hil
      rw [upd_ne (Nat.ne_of_lt hb')]
      exact (hf b hb).1
  done := by
    intro X hP hw hK hc i pins s σ H E I hf st hg
    subst hP hw hK
    obtain ⟨⟨old, he⟩, hit, hne⟩ := st
    obtain ⟨xs, hq, hx⟩ := hg
    obtain ⟨its, rv, p, hz⟩ := I.tuple hq
    obtain ⟨f0, f1, f2, f3, f4, f5⟩ := hf it (by simp)
    have hl := rv.length
    have T : s.TypeIs (.ref e) "enumerate" := ⟨_, he, rfl⟩
    unfold pyNext
    refine wpAny_bind (wpAny_attempt (wpAny_callSpecial?_slot (name := Str.ofString "__next__") T F.slot_enumerate_next
      (wpAny_call_entry F.slot_enumerate_next T F.entry_enumerate_next ?_ (F.args_enumerate_next_1 _))))
    show wpAny _ _ (field (.ref e) 2 >>= _) _ _ _
    refine wpAny_bind (wpAny_field he rfl (x := .ref it) rfl ?_)
    refine wpAny_bind (nextOf_tuple_end (I.ok.hd hc) hit p (by simp; omega) fun h' x he' hx' => ?_)
    obtain ⟨o, ho, hcl⟩ := hx'
    refine wpAny_bind (wpAny_isInstance (T := "StopIteration") (b := true) ⟨o, ho, hcl⟩ isSubtype_stop ?_)
    exact wpAny_pure ⟨rfl, I.turned (t' := s.toks) (fun b o hb q => he' b o hb q) f0 f1 f3 f4 f5⟩
  self := fun A i s Q E st h => let ⟨⟨_, he⟩, _⟩ := st; wpAny_pyIter_enum he h
def iEnumT (K : PySem.W.Frag) (ta : TA) : TI := fun σ H R => ta σ H fun vs H1 => ∃ a xs, vs = [.ref a] ∧ SqT K H1 a xs ∧ R (IteT K a) H1
theorem pi_enumT {X : Cx} {e : Expr} {ta : TA} {p pos tpos : Pos} {elts : List Expr} {kk : Nat} (hg : Gl X "enumerate") (hm : X.mg "enumerate" = none) (ha : PA X [e] ta) (hs : starEach [e] X.env = [(false, eval e X.env)] := by rfl) :
    PI X (.Tuple elts kk tpos) (.Call (.Name "enumerate" p) [e] [] pos) (iEnumT X.K ta) := by
  refine ⟨fun pins s σ H R I h => ?_⟩
  refine Call_ (ld_blt I hg hm boot_enumerate (PyProof.Rows.callWith_type1 (thn (ha.run pos pins s σ H _ I h) fun us s1 ⟨vs, H1, I1, r1, q1⟩ => ?_) hs rfl))
  obtain ⟨a, xs, ex, hq, q⟩ := q1
  subst ex
  cases r1 with
  | cons r rr =>
    cases rr
    cases r
    obtain ⟨its, rv, p', hz⟩ := I1.tuple hq
    obtain ⟨oa, hoa, _⟩ := id p'
    have hal := Heap.lt_size hoa
    refine call_enumT p' fun h' he hit hsz hk => wpAny_pyIter_enum he ?_
    have I2 : Inv X pins σ H1 { s1 with heap := h' } := I1.kept (t' := s1.toks) hk
    refine ⟨s1.heap.objs.size + 1, [s1.heap.objs.size + 1, s1.heap.objs.size], _, _, H1, rfl, I2, turn_enumT a (s1.heap.objs.size + 1) s1.heap.objs.size (Nat.ne_of_lt hal) (Nat.ne_of_lt (Nat.lt_succ_of_lt hal)), ⟨⟨.none, he⟩, hit, Nat.succ_ne_self _⟩, fun b hb => ?_, q⟩
    have e' : b = s1.heap.objs.size + 1 ∨ b = s1.heap.objs.size := by simpa using hb
    have hle : s1.heap.objs.size ≤ b := by
      rcases e' with z | z
      · rw [z]; exact Nat.le_add_right _ _
      · rw [z]; exact Nat.le_refl _
    exact I1.fpOk hle (I1.hok.fresh hle)
theorem im_enumT {X : Cx} {ρ : Slo} {s : Sto} {e : Expr} {pos p tpos : Pos} {elts : List Expr} {kk : Nat} {Ψ : List D → (Sto → Prop) → Sto → Prop} (hm : X.mg "enumerate" = none) (h : EM X ρ s e fun d s1 => ∃ ds, d = .tup ds ∧ Ψ (enumD ds) (fun _ => True) s1) (hg : Gl X "enumerate" := by rfl) (hst : starEach [e] X.env = [(false, eval e X.env)] := by rfl) : IM X ρ s (.Tuple elts kk tpos) (.Call (.Name "enumerate" p) [e] [] pos) Ψ := by
  intro α σ H R so re k
  refine ⟨fun pins sh I => ?_⟩
  refine (pi_enumT hg hm (pa_cons pe_sem pa_nil hst) hst).run pins sh σ H R I (h α σ H _ so re ?_)
  rintro γ s1 d v H1 w1 d1 ⟨ds, rfl, q⟩
  obtain ⟨p, xs, e1, q1, l⟩ := d1
  subst e1
  refine ⟨p, xs, rfl, tupAt q1, k γ s1 _ _ _ H1 w1 ⟨fun i δ s' H' hi w g => ?_, fun δ s' H' w g => ?_, fun i d δ s' H' v H2 hd w g y => ?_⟩ q⟩
  · rw [enumD_len] at hi
    exact ⟨xs, xs[i]'(by rw [← l.length]; exact hi), sqT_kp w.kp q1, List.getElem?_eq_getElem _⟩
  · exact ⟨xs, sqT_kp w.kp q1, by rw [enumD_len, l.length]; exact Nat.le_refl _⟩
  · have hi : i < ds.length := by
      have := (List.getElem?_eq_some_iff.mp hd).1
      rw [enumD_len] at this
      exact this
    rw [enumD_at (List.getElem?_eq_getElem hi)] at hd
    cases hd
    obtain ⟨T, x, rfl, hT, rfl, hx⟩ := y
    obtain ⟨x', h1, h2⟩ := (w.dal l).get (List.getElem?_eq_getElem hi)
    have := hx xs (sqT_kp w.kp q1)
    rw [h1] at this
    cases this
    exact ⟨fun b u e => by rw [upd_ne (ne_of_none e hT)]; exact e, da_pair hT (w.ok.free hT) rfl h2⟩
end Mp
end T_MpM

section T_MpN
set_option autoImplicit true
set_option maxRecDepth 100000
set_option maxHeartbeats 4000000
namespace Mp
open PySem PySem.Spec PyProof.Rows L2
/-! ### a constant of the class, read off an instance -/
def ConD (K : PySem.W.Frag) (C : Addr) (f : Str) (d : D) : Prop := ∃ v u, Con K C f v u ∧ ∀ α H, Da K α H d v
section
variable {X : Cx} {ρ : Slo} {s : Sto} {Φ : D → Sto → Prop} {pos : Pos} {e : Expr} {N : En}
theorem em_con {f : Str} (h : EM X ρ s e fun x s1 => ∃ C ks ds d, InsV s1 x C ks ds ∧ Cls X.K C ∧ ConD X.K C f d ∧ kIx ks f = none ∧ Φ d s1) (hb : attributeBase e f X.env (eval e X.env) = eval e X.env := by rfl) : EM X ρ s (.Attribute e f pos) Φ := by
  intro α σ H Q so re k
  refine toRE (pe_con pe_sem hb) (h α σ H _ so re ?_)
  rintro γ s1 x v H1 w1 d1 ⟨C, ks, ds, d, hi, cl, ⟨cv, cu, cc, cd⟩, hk, q⟩
  obtain ⟨p, dx, fs, e1, e2, e3, l⟩ := hi.at_ w1.ok d1
  subst e3
  exact ⟨p, C, dx, fs, cv, cu, e1, e2, cl, cc, kIx_none hk, (k.step so w1).now w1.ok (cd _ _) q⟩
/-! ### own operators -/
theorem rv_adr {x : V} {a : Addr} {v : Value} (e : x = .ref a) (r : RelV x v) : v = .ref a := by subst e; exact r
/-- e in o, o an instance with an own __contains__ -/
theorem v2_inO {C : Addr} {k : Nat} {W : WtK} {x y : D} {ks : List Str} {ds : List D} (M : MFnK X.prog X.w X.K X.mg X.base C "__contains__" [] k W) (hr : Room k X.A) (hi : InsV s y C ks ds) (h : W [y, x] [] s (AsB fun b s1 => Φ (.bl b) s1)) : V2 X (compareOp .In) x y s Φ := by
  intro α H a b Q so d1 d2 kk
  refine ⟨fun pins sh σ v u I rx ry => ?_⟩
  obtain ⟨f, bm, F⟩ := M.ex
  obtain ⟨p, dx, fs, e1, e2, e3, l⟩ := hi.at_ so d2
  have eu := rv_adr e1 ry
  subst eu
  obtain ⟨m, fr⟩ := I.fr
  obtain ⟨mA, O, _⟩ := ins_get I.hok e2
  obtain ⟨od, J, _⟩ := O.look
  refine PySem.W.in_K fr I.ok.mod.kin J bm.mt.at_ bm.mt.fn ?_
  refine thn (wpAny_call (run_rk (Q := fun v H1 => ∃ b, v = .bl b ∧ Q (.bl b) H1) (us := [.ref p, v]) (ws := []) (vs := [.ref p, a]) (zs := []) F hr I (.cons rfl (.cons rx .nil)) .nil rfl ⟨α, s, [y, x], [], AsB fun b s1 => Φ (.bl b) s1, so, ⟨_, _, rfl, by rw [← e1]; exact d2, _, _, rfl, d1, rfl⟩, rfl, h, kb_of fun γ s' b H1 w1 q => kk γ s' (.bl b) (.bl b) H1 w1 rfl q⟩)) fun r s2 ⟨z, H2, I2, rz, c, ez, q⟩ => ?_
  subst ez
  cases rz
  exact wpAny_truthy_bool ⟨.bl c, H2, I2, rfl, q⟩
/-- a op b, both instances of one class with an own op -/
theorem v2_own {op : Operator} {C : Addr} {k : Nat} {W : WtK} {x y : D} {ks ks2 : List Str} {ds ds2 : List D} (M : MFnK X.prog X.w X.K X.mg X.base C (PySem.dunder op.info.2) [] k W) (hc : PySem.W.selfFirst X.K C = true) (hr : Room k X.A) (hi : InsV s x C ks ds) (hj : InsV s y C ks2 ds2) (h : W [x, y] [] s Φ) : V2 X (binaryOp op) x y s Φ := by
  intro α H a b Q so d1 d2 kk
  refine ⟨fun pins sh σ v u I rx ry => ?_⟩
  obtain ⟨f, bm, F⟩ := M.ex
  obtain ⟨p, dx, fs, e1, e2, e3, l⟩ := hi.at_ so d1
  obtain ⟨p', dx', fs', e1', e2', e3', l'⟩ := hj.at_ so d2
  have eu := rv_adr e1 rx
  subst eu
  have eu' := rv_adr e1' ry
  subst eu'
  obtain ⟨m, fr⟩ := I.fr
  obtain ⟨mA, O, _⟩ := ins_get I.hok e2
  obtain ⟨od, J, _⟩ := O.look
  obtain ⟨mA', O', _⟩ := ins_get I.hok e2'
  obtain ⟨od', J', _⟩ := O'.look
  refine PySem.W.binop_K fr I.ok.mod.kin J J'.type hc bm.mt.at_ bm.mt.fn ?_
  refine thn (wpAny_call (run_rk (Q := Q) (us := [.ref p, .ref p']) (ws := []) (vs := [.ref p, .ref p']) (zs := []) F hr I (.cons rfl (.cons rfl .nil)) .nil rfl ⟨α, s, [x, y], [], Φ, so, ⟨_, _, rfl, by rw [← e1]; exact d1, _, _, rfl, by rw [← e1']; exact d2, rfl⟩, rfl, h, kk⟩)) fun r s2 ⟨z, H2, I2, rz, q⟩ => ?_
  exact SlX.cmpback rz ⟨z, H2, I2, rz, q⟩
end
/-! ### a, *b = a tuple -/
section
variable {prog : Program} {w : World} {A : Around} {E : Value → Shared → Prop} {s : Shared}
theorem unp_star {l : Addr} {items : Array Value} {Q : List Value → Shared → Prop} (hl : s.heap.IsTuple l items) (hh : A.handled = none) (hn : 1 ≤ items.size) (hz : items.size ≤ 1000)
    (h : ∀ (h₂ : Heap) (tk : Nat), (∀ b o, s.heap.get? b = some o → h₂.get? b = some o) → Q (items.toList.take 1 ++ [.ref h₂.objs.size]) { s with heap := h₂.push { cls := .type "list", data := .seq (items.toList.drop 1).toArray }, toks := tk }) :
    wpAny (model prog w) A (unpackItems (.ref l) 2 (some 1)) Q E s := by
  have hlt : l ≠ s.heap.objs.size := by obtain ⟨o, ho, _⟩ := hl; exact Nat.ne_of_lt (Heap.lt_size ho)
  unfold unpackItems
  refine wpAny_bind ?_
  unfold notIterableAtAll
  refine wpAny_bind (wpAny_specialOf hl.typeIs PySem.F.slot_tuple_iter.lookup ?_)
  refine wpAny_pure ?_
  simp only [Bool.false_eq_true, if_false]
  refine wpAny_bind (wpAny_holding (iter_tuple hl ?_))
  refine wpAny_bind (wpAny_holding (draw_tuple hlt 1 0 _ _ ⟨_, Heap.get?_push_size _ rfl, rfl, rfl⟩ (hl.push _) (by omega) fun h₁ hit₁ hs₁ => ?_))
  have hl₁ : h₁.IsTuple l items := (hl.push _).extBut hs₁.extBut hlt
  rw [Nat.zero_add] at hit₁
  obtain ⟨oi, hoi, _⟩ := id hit₁
  obtain ⟨ol, hol, _⟩ := id hl₁
  rw [List.drop_zero]
  have hfl : (items.toList.take 1).length = 1 := by rw [List.length_take, Array.length_toList]; omega
  rw [if_neg (show ¬ ((items.toList.take 1).length < 1) by rw [hfl]; omega)]
  refine wpAny_bind (wpAny_holding (PySem.W.kun_collect (s := { s with heap := h₁ }) (T := "tuple_iterator") (.inr (.inr (.inr rfl))) (Walks.tuple (A := A.in1) hh s.heap.objs.size l hlt items) (fun j u st => st.1.typeIs) (k := 1) (by omega) ⟨hit₁, hl₁⟩ (Heap.lt_size hoi) (Heap.lt_size hol) (fun h₂ tk hk => ?_) (by rw [sizeLine_eq]; omega)))
  have hrl : (items.toList.drop 1).length = items.size - 1 := by rw [List.length_drop, Array.length_toList]
  show wpAny _ _ (if (items.toList.drop 1).length < 2 - 1 - 1 then _ else _) _ _ _
  rw [if_neg (by omega)]
  show wpAny _ _ (newList ((items.toList.drop 1).take ((items.toList.drop 1).length - (2 - 1 - 1))) >>= fun d => pure (items.toList.take 1 ++ [d] ++ (items.toList.drop 1).drop ((items.toList.drop 1).length - (2 - 1 - 1)))) _ _ _
  have e1 : (items.toList.drop 1).take ((items.toList.drop 1).length - (2 - 1 - 1)) = items.toList.drop 1 := by rw [show 2 - 1 - 1 = 0 from rfl, Nat.sub_zero, List.take_length]
  have e2 : (items.toList.drop 1).drop ((items.toList.drop 1).length - (2 - 1 - 1)) = [] := by rw [show 2 - 1 - 1 = 0 from rfl, Nat.sub_zero, List.drop_length]
  rw [e1, e2]
  have kp2 : ∀ b o, s.heap.get? b = some o → h₂.get? b = some o := fun b o e => hk b o (Nat.ne_of_lt (Heap.lt_size e)) (hs₁.extBut b o (Nat.ne_of_lt (Heap.lt_size e)) (Heap.get?_push_of_some _ e))
  refine wpAny_bind (wpAny_newObj_type (wpAny_pure ?_) (by show (items.toList.drop 1).toArray.size ≤ sizeLine; rw [List.size_toArray, hrl, sizeLine_eq]; omega))
  rw [List.append_nil]
  exact h h₂ tk kp2
end
section
variable {X : Cx} {ρ : Slo} {s : Sto} {pos p : Pos} {e e2 : Expr} {k : Nat}
/-- a, *b = a tuple: b a list that is never changed -/
theorem gm_star {d : D} {ds : List D} {Φ : Slo → Sto → Prop} (h : GM X ρ s e d fun ρ1 s1 => GM X ρ1 s1 e2 (.lst ds) Φ) (hl : ds.length < 1000) (hc : X.calm = true := by rfl) (hn : (assignEach [e, .Starred e2 p] X.env).length = 2 := by rfl) (hst : (assignEach [e, .Starred e2 p] X.env).findIdx? (·.1) = some 1 := by rfl)
    (ha : (assignEach [e, .Starred e2 p] X.env).map (·.2) = [assign e X.env, assign e2 X.env] := by rfl) : GM X ρ s (.Tuple [e, .Starred e2 p] k pos) (.tup (d :: ds)) Φ := by
  intro α σ H v Q so re da kk
  refine ⟨fun pins sh u I r => ?_⟩
  obtain ⟨pt, xs, e1, q, l⟩ := da
  have eu := rv_adr e1 r
  subst eu
  obtain ⟨its, rv, pl, hz⟩ := I.tuple (tupAt q)
  obtain ⟨x, rr, ex, dx, dl⟩ := l
  subst ex
  cases rv with
  | @cons _ u0 _ us ru rus =>
    have hln := dl.length
    have hlu := rus.length
    rw [assign_Tuple]
    refine wpAny_bind (wpAny_standAt ?_)
    unfold unpack
    rw [hn, hst]
    refine wpAny_bind (wpAny_holding (unp_star (show sh.heap.IsTuple pt (u0 :: us).toArray from pl) (I.ok.hd hc) (by simp) (by simp; omega) fun h₂ tk k2 => ?_))
    have et : (u0 :: us).toArray.toList = u0 :: us := rfl
    rw [et]
    show wpAny _ _ (assignInOrder ((assignEach [e, .Starred e2 p] X.env).map (·.2)) [u0, .ref h₂.objs.size]) _ _ _
    have I2 : Inv X pins σ H { sh with heap := h₂, toks := tk } := I.kept (t' := tk) k2
    have hn2 : H h₂.objs.size = none := I2.hok.fresh (Nat.le_refl _)
    have I3 : Inv X pins σ (L2.upd H h₂.objs.size (.lst rr)) { sh with heap := h₂.push { cls := .type "list", data := .seq us.toArray }, toks := tk } :=
      I2.laid (t' := tk) (fun b o e => Heap.get?_push_of_some _ e) (Nat.le_refl _) ⟨by rw [sizeLine_eq]; omega, us, 0, rus, Heap.get?_push_size _ rfl⟩
    have up : ∀ b o, H b = some o → L2.upd H h₂.objs.size (.lst rr) b = some o := fun b o e => by rw [upd_ne (ne_of_none e hn2)]; exact e
    have wn := Wl.grow so up
    have son : Sok X.K α s (L2.upd H h₂.objs.size (.lst rr)) := so.grow up
    have kp : Kp α H (L2.upd H h₂.objs.size (.lst rr)) := fun b o e _ => up b o e
    have kn := kk.step so wn
    rw [List.append_nil] at kn
    have ren : Re X.K α (L2.upd H h₂.objs.size (.lst rr)) σ ρ := ⟨re.len, fun i d e => let ⟨v, h, q⟩ := re.at_ i d e; ⟨v, h, q.kp kp⟩⟩
    have dlst : Da X.K α (L2.upd H h₂.objs.size (.lst rr)) (.lst ds) (.ref h₂.objs.size) := ⟨_, rr, rfl, so.free hn2, upd_same, dl.kp kp⟩
    rw [ha]
    show wpAny _ _ (holding [.ref h₂.objs.size] (assign e X.env u0) >>= fun _ => assignInOrder [assign e2 X.env] [.ref h₂.objs.size]) _ _ _
    refine wpAny_bind (wpAny_holding (thn ((h α σ _ x (fun σ' H' => RG X σ' H' e2 (.ref h₂.objs.size) Q) son ren (dx.kp kp) (fun γ s1 ρ1 σ1 H1 w1 re1 q1 => ?_)).go pins _ u0 I3 ru) fun _ s2 ⟨σ2, H2, I4, q2⟩ => ?_))
    · exact q1 _ σ1 H1 _ Q w1.ok re1 (w1.da dlst) (kn.step son w1)
    · show wpAny _ _ (holding [] (assign e2 X.env (.ref h₂.objs.size)) >>= fun _ => assignInOrder [] []) _ _ _
      refine wpAny_bind (wpAny_holding (thn (q2.go pins s2 (.ref h₂.objs.size) I4 rfl) fun _ s3 q3 => ?_))
      exact wpAny_pure q3
end
/-! ### with o: body (the body ends behind its last statement) -/
section
variable {X : Cx} {ρ : Slo} {s : Sto} {pos : Pos} {ctx : Expr} {body : List Stmt} {N : En}
theorem sm_with {C : Addr} {k1 k2 : Nat} {WE WX : WtK} (ME : MFnK X.prog X.w X.K X.mg X.base C "__enter__" [] k1 WE) (MX : MFnK X.prog X.w X.K X.mg X.base C "__exit__" [] k2 WX) (hr1 : Room k1 X.A) (hr2 : Room k2 X.A) (hxe : X.xe = fun _ _ => False)
    (h : EM X ρ s ctx fun d s1 => ∃ ks ds, InsV s1 d C ks ds ∧ WE [d] [] s1 fun _ s2 => SMs X ρ s2 body { nx := fun ρ' s3 => WX [d, .non, .non, .non] [] s3 fun _ s4 => N.nx ρ' s4, rt := fun _ _ => False }) : SM X ρ s (.With [⟨ctx, none⟩] body pos) N := by
  intro α σ H Ed so re r
  refine ⟨fun pins sh I => ?_⟩
  obtain ⟨fe, be, FE⟩ := ME.ex
  obtain ⟨fx, bx, FX⟩ := MX.ex
  refine PySem.W.kw_exec0 (thn ((h α σ H (fun v H1 => ∃ a dx fs, v = .ref a ∧ H1 a = some (.ins C dx fs) ∧ spK X.K WE [.ref a] [] H1 fun _ H2 => RSs X σ H2 body { nx := fun σ3 H3 => spK X.K WX [.ref a, .non, .non, .non] [] H3 fun _ H4 => Ed.nx σ3 H4, rt := fun _ _ => False, bk := fun _ _ => False, ct := fun _ _ => False }) so re (by
    rintro γ s1 d v H1 w1 d1 ⟨ks, ds, hi, q⟩
    obtain ⟨a, dx, fs, e1, e2, e3, l⟩ := hi.at_ w1.ok d1
    subst e1
    refine ⟨a, dx, fs, rfl, e2, _, s1, [d], [], _, w1.ok, DaL.one d1, rfl, q, fun δ s2 _ _ H2 w2 _ q2 => ?_⟩
    refine q2 _ σ H2 _ w2.ok (w2.re (w1.re re)) ⟨fun ε s3 ρ3 σ3 H3 w3 re3 q3 => ?_, fun _ _ _ _ _ _ _ z => z.elim, fun _ _ _ _ _ _ _ z => z.elim, fun _ _ _ _ _ _ _ z => z.elim⟩
    refine ⟨_, s3, [d, .non, .non, .non], [], _, w3.ok, ⟨_, _, rfl, w3.da (w2.da d1), _, _, rfl, rfl, _, _, rfl, rfl, _, _, rfl, rfl, rfl⟩, rfl, q3, fun ζ s4 _ _ H4 w4 _ q4 => ?_⟩
    exact (((r.step so w1).step w1.ok w2).step w2.ok w3).nx ζ s4 ρ3 σ3 H4 w4 (w4.re re3) q4)).go pins sh I) fun u s1 ⟨v, H1, I1, rv, a, dx, fs, ev, ea, q⟩ => ?_)
  have eu := rv_adr ev rv
  subst eu
  obtain ⟨m, fr⟩ := I1.fr
  obtain ⟨mA, O, _⟩ := ins_get I1.hok ea
  obtain ⟨od, J, _⟩ := O.look
  refine PySem.W.kw_in0 fr I1.ok.mod.kin J be.mt.at_ be.mt.fn bx.mt.at_ bx.mt.fn ?_
  refine thn (wpAny_call (run_rk (us := [.ref a]) (vs := [.ref a]) (ws := []) (zs := []) FE hr1 I1 (.cons rfl .nil) .nil rfl q)) fun r1 s2 ⟨v2, H2, I2, rv2, q2⟩ => ?_
  have z := q2.go pins s2 I2
  rw [hxe] at z
  refine wpAny_mono z (fun fl s3 h3 => ?_) fun _ _ z => z
  cases fl with
  | next =>
    obtain ⟨σ3, H3, I3, q3⟩ := h3
    exact thn (wpAny_call (run_rk (us := [.ref a, .none, .none, .none]) (vs := [.ref a, .non, .non, .non]) (ws := []) (zs := []) FX hr2 I3 (.cons rfl (.cons rfl (.cons rfl (.cons rfl .nil)))) .nil rfl q3)) fun r4 s4 ⟨v4, H4, I4, rv4, q4⟩ => ⟨σ3, H4, I4, q4⟩
  | ret v =>
    obtain ⟨_, _, _, _, _, q3⟩ := h3
    exact q3.elim
  | brk =>
    obtain ⟨_, _, _, q3⟩ := h3
    exact q3.elim
  | cont =>
    obtain ⟨_, _, _, q3⟩ := h3
    exact q3.elim
end
end Mp
end T_MpN

section T_MpO
set_option autoImplicit true
set_option maxRecDepth 100000
set_option maxHeartbeats 4000000
namespace Mp
open PySem PySem.Spec PyProof.Rows L2
section
variable {X : Cx} {ρ : Slo} {s : Sto} {Φ : D → Sto → Prop} {pos apos p : Pos} {e o f a b : Expr} {es : List Expr} {N : En}
/-! ### dicts of the store -/
theorem K1.newDic {K : PySem.W.Frag} {α : List Addr} {H : Hp} {s : Sto} {Q : VK} (k : K1 K α H Φ Q) (so : Sok K α s H) (q : Φ (.ref s.length) (s ++ [.dic [] []])) {p : Addr} (hp : H p = none) : Q (.ref p) (upd H p (.dK [])) :=
  k [p] _ (.ref s.length) _ _ (Wl.cell so hp (m := .dic [] []) ⟨[], upd_same, rfl, rfl⟩) (ref_new so) q
/-- {} -/
theorem em_dict0 (h : Φ (.ref s.length) (s ++ [.dic [] []])) : EM X ρ s (.Dict [] [] pos) Φ := by
  intro α σ H Q so re k
  exact toRE pe_dnewK fun p hp => k.newDic so h hp
theorem keys_dal {K : PySem.W.Frag} {α : List Addr} {H : Hp} : ∀ kvs : List (Key × V), DaL K α H ((kvs.map (·.1)).map kD) (kvs.map fun kv => kV kv.1)
  | [] => rfl
  | (k, v) :: r => ⟨_, _, rfl, by cases k <;> exact rfl, keys_dal r⟩
/-- list(d): its keys, never changed | in the store -/
theorem vc_listDK {d : D} {j : Nat} {ks : List Key} {ds : List D} (hc : X.calm = true) (hd : d = .ref j) (hj : s[j]? = some (.dic ks ds)) (h : Φ (.lst (ks.map kD)) s) : VC X (.type "list") [d] s Φ := vc_of (call_list_dK hc) fun α H vs Q so dl k => by
  obtain ⟨v, r, rfl, d1, rfl⟩ := dl
  subst hd
  obtain ⟨p, e1, rfl⟩ := d1
  obtain ⟨kvs, c1, c2, c3⟩ := so.cel j p _ e1 hj
  subst c2
  exact ⟨p, kvs, rfl, c1, fun q hq => k.newL so (keys_dal kvs) h hq⟩
theorem vc_listDC {d : D} {j : Nat} {ks : List Key} {ds : List D} (hc : X.calm = true) (hd : d = .ref j) (hj : s[j]? = some (.dic ks ds)) (h : Φ (.ref s.length) (s ++ [.lst (ks.map kD)])) : VC X (.type "list") [d] s Φ := vc_of (call_list_dK hc) fun α H vs Q so dl k => by
  obtain ⟨v, r, rfl, d1, rfl⟩ := dl
  subst hd
  obtain ⟨p, e1, rfl⟩ := d1
  obtain ⟨kvs, c1, c2, c3⟩ := so.cel j p _ e1 hj
  subst c2
  exact ⟨p, kvs, rfl, c1, fun q hq => k.newC so (keys_dal kvs) h hq⟩
theorem tm_dnin (hu : X.A.units + 1 < cLine) {Ψ : Bool → Sto → Prop} (h : EM X ρ s a fun y s1 => EM X ρ s1 b fun x s2 => ∃ j ks ds k, x = .ref j ∧ s2[j]? = some (.dic ks ds) ∧ y = kD k ∧ ks.length = ds.length ∧ Ψ (!(kIx ks k).isSome) s2) (hm : behindInMarks .NotIn b = false := by rfl) : TM X ρ s (.Compare a [.NotIn] [b] pos) Ψ := by
  intro α σ H Q so re kk
  refine toRT (pt_cmp (pc_dnotin hu pe_sem pe_sem) hm) (h α σ H _ so re fun γ s1 y u H1 w1 d1 h1 => ?_)
  refine h1 _ σ H1 _ w1.ok (w1.re re) ?_
  rintro δ s2 x v H2 w2 d2 ⟨j, ks, ds, k, rfl, hc, rfl, hl, q⟩
  obtain ⟨p, e1, e2⟩ := d2
  obtain ⟨kvs, c1, c2, c3⟩ := w2.ok.cel j p _ e1 hc
  subst c2
  refine ⟨p, valV kvs k, e2, by rw [kD_v d1]; exact DGet.k c1, _, rfl, ?_⟩
  have ez : (valV kvs k).isSome = (kIx (kvs.map (·.1)) k).isSome := by
    cases hk : kIx (kvs.map (·.1)) k with
    | none => rw [kIx_valN hk]; rfl
    | some n =>
      have hn : n < (kvs.map (·.2)).length := by
        have := tm_din.kIx_lt hk
        simpa using this
      rw [kIx_valV hk (List.getElem?_eq_getElem hn)]
      rfl
  rw [ez]
  exact ((kk.step so w1).step w1.ok w2).now w2.ok q
/-- d.get(k, x), d a dict of the store -/
theorem em_get2 {cpos : Pos} (hu : X.A.units + 1 < cLine) (m : M2 X o "get" apos e f cpos) (h : EM X ρ s o fun x s1 => ∃ j, x = .ref j ∧ (∃ ks ds, s1[j]? = some (.dic ks ds)) ∧ EM X ρ s1 e fun y s2 => EM X ρ s2 f fun z s3 => ∃ ks ds k, s3[j]? = some (.dic ks ds) ∧ y = kD k ∧ ks.length = ds.length ∧
      Φ (match kIx ks k with | some n => ds.getD n .non | none => z) s3) : EM X ρ s (.Call (.Attribute o "get" apos) [e, f] [] cpos) Φ := by
  intro α σ H Q so re kk
  refine toRE (pe_dget2 hu pe_sem pe_sem pe_sem m) (h α σ H _ so re ?_)
  rintro γ s1 x v H1 w1 d1 ⟨j, rfl, ⟨ks, ds, hj⟩, h1⟩
  obtain ⟨p, e1, e2⟩ := d1
  obtain ⟨kvs, c1, c2, c3⟩ := w1.ok.cel j p _ e1 hj
  refine ⟨p, e2, .inl ⟨kvs, .inl c1⟩, ?_⟩
  refine h1 _ σ H1 _ w1.ok (w1.re re) fun δ s2 y u H2 w2 d2 h2 => ?_
  refine h2 _ σ H2 _ w2.ok (w2.re (w1.re re)) ?_
  rintro ε s3 z t H3 w3 d3 ⟨ks', ds', k, hj', rfl, hl, q⟩
  have e3 := get_app (γ := ε) (get_app (γ := δ) e1)
  obtain ⟨kvs', f1, f2, f3⟩ := w3.ok.cel j p _ e3 hj'
  subst f2
  have r3 := ((kk.step so w1).step w1.ok w2).step w2.ok w3
  refine ⟨valV kvs' k, by rw [kD_v (w3.da d2)]; exact DGet.k f1, ?_⟩
  cases hk : kIx (kvs'.map (·.1)) k with
  | none =>
    rw [hk] at q
    rw [kIx_valN hk]
    exact r3.now w3.ok d3 q
  | some n =>
    rw [hk] at q
    have hn : n < ds'.length := by
      have := tm_din.kIx_lt hk
      omega
    obtain ⟨x, g1, g2⟩ := f3.get (List.getElem?_eq_getElem hn)
    rw [kIx_valV hk g1]
    have eg : ds'.getD n .non = ds'[n] := by rw [List.getD_eq_getElem?_getD, List.getElem?_eq_getElem hn]; rfl
    have q' : Φ (ds'.getD n .non) s3 := q
    rw [eg] at q'
    exact r3.now w3.ok g2 q'
/-! ### a written dict of the module: .get(k, x) -/
/-- text keys, ints -/
def KInts (K : PySem.W.Frag) (w : World) (d : Addr) (t : List (Str × Int)) : Prop := ∃ es n, KDict K w d es n ∧ ∀ x : Str, ∃ r, PySem.W.nsIn K d x = some r ∧ match t.lookup x with | some i => ∃ u, r = some u ∧ RelV (.int i) u | none => r = none
theorem em_getK {cpos : Pos} {d : Addr} {t : List (Str × Int)} (KD : KInts X.K X.w d t) (m : M2 X o "get" apos e f cpos) (h : EM X ρ s o fun x s1 => x = .adr d ∧ EM X ρ s1 e fun y s2 => EM X ρ s2 f fun z s3 => ∃ k, y = .str k ∧ Φ (match t.lookup k with | some i => .int i | none => z) s3) :
    EM X ρ s (.Call (.Attribute o "get" apos) [e, f] [] cpos) Φ := by
  intro α σ H Q so re kk
  refine ⟨fun pins sh I => ?_⟩
  obtain ⟨es, n, D, hk⟩ := KD
  refine wpAny_Call_method m.base m.few m.line PySem.F.plainAttrs_dict PySem.F.slot_dict_get PySem.F.type_dict_get (thn ((h α σ H (fun v H1 => v = .ref d ∧ RE X σ H1 e fun y H2 => RE X σ H2 f fun z H3 => ∃ k, y = .str k ∧ ∃ v, Q v H3 ∧ match t.lookup k with | some i => v = .int i | none => v = z) so re (by
    rintro γ s1 x v H1 w1 d1 ⟨rfl, h1⟩
    refine ⟨d1, h1 _ σ H1 _ w1.ok (w1.re re) fun δ s2 y u H2 w2 d2 h2 => ?_⟩
    refine h2 _ σ H2 _ w2.ok (w2.re (w1.re re)) ?_
    rintro ε s3 z t' H3 w3 d3 ⟨k, rfl, q⟩
    have r3 := ((kk.step so w1).step w1.ok w2).step w2.ok w3
    refine ⟨k, d2, ?_⟩
    cases hl : t.lookup k with
    | none =>
      rw [hl] at q
      exact ⟨t', r3.now w3.ok d3 q, rfl⟩
    | some i =>
      rw [hl] at q
      exact ⟨.int i, r3.nowI w3.ok q, rfl⟩)).go pins sh I) fun u s1 ⟨v, H1, I1, rv, ev, q1⟩ => ?_)
  have eu := rv_adr ev rv
  subst eu
  have hd := I1.kIn _ _ D.at_
  have tm := PySem.W.mapOf_K (prog := X.prog) (w := X.w) I1.kIn D.at_ D.lit
  refine ⟨tm.typeIs, fun b q => by cases q; exact ⟨_, hd, rfl⟩, ?_⟩
  rw [m.trees]
  refine Calls.callWith_builtin rfl (Calls.evalArgs_plain (Calls.spliced_cons (thn (q1.go pins s1 I1) fun iv s2 ⟨y, H2, I2, ry, q2⟩ =>
    Calls.spliced_cons (thn (q2.go pins s2 I2) fun fv s3 ⟨z, H3, I3, rz, k, ey, v, qv, hv⟩ => Calls.spliced_nil ?_))))
  subst ey
  obtain ⟨tk, rfl⟩ := (show ∃ t, iv = Value.str k t from ry)
  have tm3 := PySem.W.mapOf_K (prog := X.prog) (w := X.w) I3.kIn D.at_ D.lit
  obtain ⟨r, hr, hm⟩ := hk k
  refine call_meetsIn PySem.F.slot_dict_get tm3.typeIs PySem.F.entry_dict_get (PySem.F.args_dict_get_3 _ _ _) (meets_dict_get_default (strKind X.prog X.w) d (PySem.strKind_is X.prog X.w k tk) D.low fv) ⟨_, tm3, ?_⟩
  rw [PySem.W.find_K D.at_ hr]
  cases hl : t.lookup k with
  | none =>
    rw [hl] at hm hv
    subst hm
    subst hv
    exact ⟨_, H3, I3.tok _, rz, qv⟩
  | some i =>
    rw [hl] at hm hv
    obtain ⟨u, rfl, ru⟩ := hm
    subst hv
    exact ⟨.int i, H3, I3.tok _, ru, qv⟩
end
end Mp
end T_MpO

section T_MpV
set_option autoImplicit true
set_option maxRecDepth 100000
set_option maxHeartbeats 4000000
namespace Mp
open PySem PySem.Spec PyProof.Rows L2
/-! a slot read, its place in the pattern -/
section
variable {X : Cx} {ρ : Slo} {s : Sto} {Φ : D → Sto → Prop} {pos : Pos} {x : Str} {d : D} {o0 o1 o2 o3 o4 o5 o6 o7 o8 o9 o10 o11 o12 o13 o14 o15 o16 o17 o18 o19 o20 o21 : Option D}
theorem em_v0 (h : Φ d s) (hN : X.N[0]? = some x := by rfl) (hv : Vis X.env.scope x := by first | exact Or.inl rfl | exact Or.inr (Or.inl rfl) | exact Or.inr (Or.inr rfl)) (hd : (x == ("__debug__" : Str)) = false := by decide) (hcd : (x == ("__classdict__" : Str)) = false := by decide) : EM X (some d :: ρ) s (.Name x pos) Φ := em_var 0 h rfl hN hv hd hcd
theorem em_v1 (h : Φ d s) (hN : X.N[1]? = some x := by rfl) (hv : Vis X.env.scope x := by first | exact Or.inl rfl | exact Or.inr (Or.inl rfl) | exact Or.inr (Or.inr rfl)) (hd : (x == ("__debug__" : Str)) = false := by decide) (hcd : (x == ("__classdict__" : Str)) = false := by decide) : EM X (o0 :: some d :: ρ) s (.Name x pos) Φ := em_var 1 h rfl hN hv hd hcd
theorem em_v2 (h : Φ d s) (hN : X.N[2]? = some x := by rfl) (hv : Vis X.env.scope x := by first | exact Or.inl rfl | exact Or.inr (Or.inl rfl) | exact Or.inr (Or.inr rfl)) (hd : (x == ("__debug__" : Str)) = false := by decide) (hcd : (x == ("__classdict__" : Str)) = false := by decide) : EM X (o0 :: o1 :: some d :: ρ) s (.Name x pos) Φ := em_var 2 h rfl hN hv hd hcd
theorem em_v3 (h : Φ d s) (hN : X.N[3]? = some x := by rfl) (hv : Vis X.env.scope x := by first | exact Or.inl rfl | exact Or.inr (Or.inl rfl) | exact Or.inr (Or.inr rfl)) (hd : (x == ("__debug__" : Str)) = false := by decide) (hcd : (x == ("__classdict__" : Str)) = false := by decide) : EM X (o0 :: o1 :: o2 :: some d :: ρ) s (.Name x pos) Φ := em_var 3 h rfl hN hv hd hcd
theorem em_v4 (h : Φ d s) (hN : X.N[4]? = some x := by rfl) (hv : Vis X.env.scope x := by first | exact Or.inl rfl | exact Or.inr (Or.inl rfl) | exact Or.inr (Or.inr rfl)) (hd : (x == ("__debug__" : Str)) = false := by decide) (hcd : (x == ("__classdict__" : Str)) = false := by decide) : EM X (o0 :: o1 :: o2 :: o3 :: some d :: ρ) s (.Name x pos) Φ := em_var 4 h rfl hN hv hd hcd
theorem em_v5 (h : Φ d s) (hN : X.N[5]? = some x := by rfl) (hv : Vis X.env.scope x := by first | exact Or.inl rfl | exact Or.inr (Or.inl rfl) | exact Or.inr (Or.inr rfl)) (hd : (x == ("__debug__" : Str)) = false := by decide) (hcd : (x == ("__classdict__" : Str)) = false := by decide) : EM X (o0 :: o1 :: o2 :: o3 :: o4 :: some d :: ρ) s (.Name x pos) Φ := em_var 5 h rfl hN hv hd hcd
theorem em_v6 (h : Φ d s) (hN : X.N[6]? = some x := by rfl) (hv : Vis X.env.scope x := by first | exact Or.inl rfl | exact Or.inr (Or.inl rfl) | exact Or.inr (Or.inr rfl)) (hd : (x == ("__debug__" : Str)) = false := by decide) (hcd : (x == ("__classdict__" : Str)) = false := by decide) : EM X (o0 :: o1 :: o2 :: o3 :: o4 :: o5 :: some d :: ρ) s (.Name x pos) Φ := em_var 6 h rfl hN hv hd hcd
theorem em_v7 (h : Φ d s) (hN : X.N[7]? = some x := by rfl) (hv : Vis X.env.scope x := by first | exact Or.inl rfl | exact Or.inr (Or.inl rfl) | exact Or.inr (Or.inr rfl)) (hd : (x == ("__debug__" : Str)) = false := by decide) (hcd : (x == ("__classdict__" : Str)) = false := by decide) : EM X (o0 :: o1 :: o2 :: o3 :: o4 :: o5 :: o6 :: some d :: ρ) s (.Name x pos) Φ := em_var 7 h rfl hN hv hd hcd
theorem em_v8 (h : Φ d s) (hN : X.N[8]? = some x := by rfl) (hv : Vis X.env.scope x := by first | exact Or.inl rfl | exact Or.inr (Or.inl rfl) | exact Or.inr (Or.inr rfl)) (hd : (x == ("__debug__" : Str)) = false := by decide) (hcd : (x == ("__classdict__" : Str)) = false := by decide) : EM X (o0 :: o1 :: o2 :: o3 :: o4 :: o5 :: o6 :: o7 :: some d :: ρ) s (.Name x pos) Φ := em_var 8 h rfl hN hv hd hcd
theorem em_v9 (h : Φ d s) (hN : X.N[9]? = some x := by rfl) (hv : Vis X.env.scope x := by first | exact Or.inl rfl | exact Or.inr (Or.inl rfl) | exact Or.inr (Or.inr rfl)) (hd : (x == ("__debug__" : Str)) = false := by decide) (hcd : (x == ("__classdict__" : Str)) = false := by decide) : EM X (o0 :: o1 :: o2 :: o3 :: o4 :: o5 :: o6 :: o7 :: o8 :: some d :: ρ) s (.Name x pos) Φ := em_var 9 h rfl hN hv hd hcd
theorem em_v10 (h : Φ d s) (hN : X.N[10]? = some x := by rfl) (hv : Vis X.env.scope x := by first | exact Or.inl rfl | exact Or.inr (Or.inl rfl) | exact Or.inr (Or.inr rfl)) (hd : (x == ("__debug__" : Str)) = false := by decide) (hcd : (x == ("__classdict__" : Str)) = false := by decide) : EM X (o0 :: o1 :: o2 :: o3 :: o4 :: o5 :: o6 :: o7 :: o8 :: o9 :: some d :: ρ) s (.Name x pos) Φ := em_var 10 h rfl hN hv hd hcd
theorem em_v11 (h : Φ d s) (hN : X.N[11]? = some x := by rfl) (hv : Vis X.env.scope x := by first | exact Or.inl rfl | exact Or.inr (Or.inl rfl) | exact Or.inr (Or.inr rfl)) (hd : (x == ("__debug__" : Str)) = false := by decide) (hcd : (x == ("__classdict__" : Str)) = false := by decide) : EM X (o0 :: o1 :: o2 :: o3 :: o4 :: o5 :: o6 :: o7 :: o8 :: o9 :: o10 :: some d :: ρ) s (.Name x pos) Φ := em_var 11 h rfl hN hv hd hcd
theorem em_v12 (h : Φ d s) (hN : X.N[12]? = some x := by rfl) (hv : Vis X.env.scope x := by first | exact Or.inl rfl | exact Or.inr (Or.inl rfl) | exact Or.inr (Or.inr rfl)) (hd : (x == ("__debug__" : Str)) = false := by decide) (hcd : (x == ("__classdict__" : Str)) = false := by decide) : EM X (o0 :: o1 :: o2 :: o3 :: o4 :: o5 :: o6 :: o7 :: o8 :: o9 :: o10 :: o11 :: some d :: ρ) s (.Name x pos) Φ := em_var 12 h rfl hN hv hd hcd
theorem em_v13 (h : Φ d s) (hN : X.N[13]? = some x := by rfl) (hv : Vis X.env.scope x := by first | exact Or.inl rfl | exact Or.inr (Or.inl rfl) | exact Or.inr (Or.inr rfl)) (hd : (x == ("__debug__" : Str)) = false := by decide) (hcd : (x == ("__classdict__" : Str)) = false := by decide) : EM X (o0 :: o1 :: o2 :: o3 :: o4 :: o5 :: o6 :: o7 :: o8 :: o9 :: o10 :: o11 :: o12 :: some d :: ρ) s (.Name x pos) Φ := em_var 13 h rfl hN hv hd hcd
theorem em_v14 (h : Φ d s) (hN : X.N[14]? = some x := by rfl) (hv : Vis X.env.scope x := by first | exact Or.inl rfl | exact Or.inr (Or.inl rfl) | exact Or.inr (Or.inr rfl)) (hd : (x == ("__debug__" : Str)) = false := by decide) (hcd : (x == ("__classdict__" : Str)) = false := by decide) : EM X (o0 :: o1 :: o2 :: o3 :: o4 :: o5 :: o6 :: o7 :: o8 :: o9 :: o10 :: o11 :: o12 :: o13 :: some d :: ρ) s (.Name x pos) Φ := em_var 14 h rfl hN hv hd hcd
theorem em_v15 (h : Φ d s) (hN : X.N[15]? = some x := by rfl) (hv : Vis X.env.scope x := by first | exact Or.inl rfl | exact Or.inr (Or.inl rfl) | exact Or.inr (Or.inr rfl)) (hd : (x == ("__debug__" : Str)) = false := by decide) (hcd : (x == ("__classdict__" : Str)) = false := by decide) : EM X (o0 :: o1 :: o2 :: o3 :: o4 :: o5 :: o6 :: o7 :: o8 :: o9 :: o10 :: o11 :: o12 :: o13 :: o14 :: some d :: ρ) s (.Name x pos) Φ := em_var 15 h rfl hN hv hd hcd
theorem em_v16 (h : Φ d s) (hN : X.N[16]? = some x := by rfl) (hv : Vis X.env.scope x := by first | exact Or.inl rfl | exact Or.inr (Or.inl rfl) | exact Or.inr (Or.inr rfl)) (hd : (x == ("__debug__" : Str)) = false := by decide) (hcd : (x == ("__classdict__" : Str)) = false := by decide) : EM X (o0 :: o1 :: o2 :: o3 :: o4 :: o5 :: o6 :: o7 :: o8 :: o9 :: o10 :: o11 :: o12 :: o13 :: o14 :: o15 :: some d :: ρ) s (.Name x pos) Φ := em_var 16 h rfl hN hv hd hcd
theorem em_v17 (h : Φ d s) (hN : X.N[17]? = some x := by rfl) (hv : Vis X.env.scope x := by first | exact Or.inl rfl | exact Or.inr (Or.inl rfl) | exact Or.inr (Or.inr rfl)) (hd : (x == ("__debug__" : Str)) = false := by decide) (hcd : (x == ("__classdict__" : Str)) = false := by decide) : EM X (o0 :: o1 :: o2 :: o3 :: o4 :: o5 :: o6 :: o7 :: o8 :: o9 :: o10 :: o11 :: o12 :: o13 :: o14 :: o15 :: o16 :: some d :: ρ) s (.Name x pos) Φ := em_var 17 h rfl hN hv hd hcd
theorem em_v18 (h : Φ d s) (hN : X.N[18]? = some x := by rfl) (hv : Vis X.env.scope x := by first | exact Or.inl rfl | exact Or.inr (Or.inl rfl) | exact Or.inr (Or.inr rfl)) (hd : (x == ("__debug__" : Str)) = false := by decide) (hcd : (x == ("__classdict__" : Str)) = false := by decide) : EM X (o0 :: o1 :: o2 :: o3 :: o4 :: o5 :: o6 :: o7 :: o8 :: o9 :: o10 :: o11 :: o12 :: o13 :: o14 :: o15 :: o16 :: o17 :: some d :: ρ) s (.Name x pos) Φ := em_var 18 h rfl hN hv hd hcd
theorem em_v19 (h : Φ d s) (hN : X.N[19]? = some x := by rfl) (hv : Vis X.env.scope x := by first | exact Or.inl rfl | exact Or.inr (Or.inl rfl) | exact Or.inr (Or.inr rfl)) (hd : (x == ("__debug__" : Str)) = false := by decide) (hcd : (x == ("__classdict__" : Str)) = false := by decide) : EM X (o0 :: o1 :: o2 :: o3 :: o4 :: o5 :: o6 :: o7 :: o8 :: o9 :: o10 :: o11 :: o12 :: o13 :: o14 :: o15 :: o16 :: o17 :: o18 :: some d :: ρ) s (.Name x pos) Φ := em_var 19 h rfl hN hv hd hcd
theorem em_v20 (h : Φ d s) (hN : X.N[20]? = some x := by rfl) (hv : Vis X.env.scope x := by first | exact Or.inl rfl | exact Or.inr (Or.inl rfl) | exact Or.inr (Or.inr rfl)) (hd : (x == ("__debug__" : Str)) = false := by decide) (hcd : (x == ("__classdict__" : Str)) = false := by decide) : EM X (o0 :: o1 :: o2 :: o3 :: o4 :: o5 :: o6 :: o7 :: o8 :: o9 :: o10 :: o11 :: o12 :: o13 :: o14 :: o15 :: o16 :: o17 :: o18 :: o19 :: some d :: ρ) s (.Name x pos) Φ := em_var 20 h rfl hN hv hd hcd
theorem em_v21 (h : Φ d s) (hN : X.N[21]? = some x := by rfl) (hv : Vis X.env.scope x := by first | exact Or.inl rfl | exact Or.inr (Or.inl rfl) | exact Or.inr (Or.inr rfl)) (hd : (x == ("__debug__" : Str)) = false := by decide) (hcd : (x == ("__classdict__" : Str)) = false := by decide) : EM X (o0 :: o1 :: o2 :: o3 :: o4 :: o5 :: o6 :: o7 :: o8 :: o9 :: o10 :: o11 :: o12 :: o13 :: o14 :: o15 :: o16 :: o17 :: o18 :: o19 :: o20 :: some d :: ρ) s (.Name x pos) Φ := em_var 21 h rfl hN hv hd hcd
end
end Mp
end T_MpV

section T_MpQ
set_option autoImplicit true
set_option maxRecDepth 100000
set_option maxHeartbeats 4000000
namespace Mp
open PySem PySem.Spec PyProof.Rows L2
/-! ### sorted of a tuple of ints -/
theorem sortedT_run {prog : Program} {w : World} {A : Around} {E : Value → Shared → Prop} {s : Shared} {l : Addr} {vs : List Value} {ns : List Int} {Q : Value → Shared → Prop} (hl : s.heap.IsTuple l vs.toArray) (hI : IntsAre vs ns) (h64 : vs.length < 64)
    (hQ : ∀ (h1 : Heap) (out : Array Value) (c : Nat) (h' : Heap) (ns' : List Int), (∀ b o, s.heap.get? b = some o → h1.get? b = some o) → (∀ b o, h1.get? b = some o → h'.get? b = some o) → h'.get? h1.objs.size = some (seqObj "list" out c) → IntsAre out.toList ns' → ns'.Perm ns → ns'.Pairwise (· ≤ ·) → Q (.ref h1.objs.size) { s with heap := h' }) :
    wpAny (model prog w) A (call (.builtin "sorted") [.ref l]) Q E s := by
  obtain ⟨o, ho, hc, n, hd⟩ := hl
  refine Calls.call_function_entry kind_sorted plain_sorted entry_sorted (args_sorted1 _) ?_
  unfold Builtin.«sorted»
  refine wpAny_bind (m := checkCount "sorted" 1 1 _) (wpAny_pure ?_)
  refine wpAny_bind (wpAny_collect_seq l (.inr rfl) ho hc hd (fun h1 k1 => ?_) (by rw [List.size_toArray, sizeLine_eq]; omega))
  have ev : vs.toArray.toList = vs := by simp
  rw [ev]
  refine wpAny_bind (wpAny_newList ?_ (by rw [sizeLine_eq]; omega))
  have hoL : (h1.push (seqObj "list" vs.toArray 0)).get? h1.objs.size = some (seqObj "list" vs.toArray 0) := Heap.get?_push_size _ rfl
  refine wpAny_bind (wpAny_holding (wpAny_call_entry slot_list_sort ⟨_, hoL, rfl⟩ entry_list_sort (list_sort_tree hoL hI h64 fun out ns' a1 a2 a3 => ⟨_, rfl, ?_⟩) (args_list_sort _)))
  obtain ⟨c, hc'⟩ := sortedHeap_at (vs := vs) (out := out) hoL
  refine wpAny_pure ⟨_, rfl, hQ h1 out c _ ns' k1 (fun b u e => ?_) hc' a1 a2 a3⟩
  have hlt := Heap.lt_size e
  show (sortedHeap (h1.push (seqObj "list" vs.toArray 0)) h1.objs.size vs out).get? b = some u
  rw [sortedHeap_old (Nat.ne_of_lt hlt) (by rw [size_push']; exact Nat.lt_succ_of_lt hlt)]
  exact Heap.get?_push_of_some _ e
theorem cr_sortedTup {X : Cx} : CallR X (.builtin "sorted") (fun vs H Q => ∃ (a : Addr) (ns : List Int), vs = [.ref a] ∧ SqT X.K H a (ns.map V.int) ∧ ns.length < 64 ∧ ∀ (ns' : List Int) (p : Addr), ns'.Perm ns → ns'.Pairwise (· ≤ ·) → H p = none → Q (.ref p) (upd H p (.lst (ns'.map V.int)))) := by
  intro pins s σ H vs us Q I r h
  obtain ⟨a, ns, rfl, hs, h64, q⟩ := h
  obtain ⟨its, rv, hl, _⟩ := I.tuple hs
  rw [Vals.ref1 r]
  have hi := rv.ints
  refine sortedT_run (vs := its) hl hi (by rw [hi.length]; exact h64) fun h1 out c h' ns' k1 k2 hg g1 g2 g3 => ?_
  have I1 : Inv X pins σ H { s with heap := h1 } := I.kept (t' := s.toks) k1
  have hlen : (ns'.map V.int).length ≤ sizeLine := by rw [List.length_map, g2.length_eq]; exact small64 h64
  exact ⟨.ref _, upd H h1.objs.size (.lst (ns'.map V.int)), I1.laid (t' := s.toks) k2 (Nat.le_refl _) ⟨hlen, out.toList, c, vals_of_ints g1, hg⟩, rfl, q ns' _ g2 g3 (I1.hok.fresh (Nat.le_refl _))⟩
theorem vc_sortedT {X : Cx} {s : Sto} {Φ : D → Sto → Prop} {ds : List D} {ns : List Int} (e : ds = ns.map D.int) (hl : ns.length < 64) (h : ∀ ns' : List Int, ns'.Perm ns → ns'.Pairwise (· ≤ ·) → Φ (.lst (ns'.map D.int)) s) : VC X (.builtin "sorted") [.tup ds] s Φ := vc_of cr_sortedTup fun α H vs Q so dl k => by
  obtain ⟨v, r, rfl, ⟨p, xs, rfl, q, l⟩, rfl⟩ := dl
  subst e
  cases dal_ints l
  exact ⟨p, ns, rfl, tupAt q, hl, fun ns' r hp hs hr => k.newL so (ints_dal ns') (h ns' hp hs) hr⟩
end Mp
end T_MpQ

section T_MpR
set_option autoImplicit true
set_option maxRecDepth 100000
set_option maxHeartbeats 4000000
namespace Mp
open PySem PySem.Spec PyProof.Rows L2
section
variable {X : Cx} {ρ : Slo} {s : Sto} {Φ : D → Sto → Prop} {pos : Pos} {elt tg iter : Expr} {ifs : List Expr} {scope : Scope}
/-- a comprehension whose list is a cell; the store may grow -/
theorem lcC_m {own : List (Str × Nat)} (t : Tgt) (hv : ∀ i ∈ t.slots, i ∈ own.map (·.2))
    (h : IM X ρ s tg iter fun ds G s0 => ∃ I : Nat → List D → Sto → Prop, I 0 [] (s0 ++ [.lst []]) ∧
      (∀ (i : Nat) (x : D) (acc : List D) (s' : Sto), ds[i]? = some x → I i acc s' → G s' ∧ ∃ ρ2, t.bind (wipeD ρ (own.map (·.2))) x = some ρ2 ∧
        TsB X scope ρ2 s' ifs fun b s3 => Bif b (∀ sh H C cl fp, EM (Blk X scope sh H C cl fp) ρ2 s3 elt fun y s4 => s4[s0.length]? = some (.lst acc) ∧ acc.length ≤ 1000 ∧ I (i + 1) (acc ++ [y]) (s4.set s0.length (.lst (acc ++ [y])))) (I (i + 1) acc s3)) ∧
      ∀ acc s', I ds.length acc s' → G s' ∧ Φ (.ref s0.length) s') : LcM X ρ s elt tg iter ifs scope own t Φ := by
  intro α σ H Q so re kk
  refine h α σ H _ so re ?_
  rintro γ0 s0 ds G J H0 w0 it ⟨I, i0, step, done⟩
  intro Dn hDn
  have kk0 := kk.step so w0
  have so0 := w0.ok
  refine ⟨fun i m H' => m = ds.length - i ∧ i ≤ ds.length ∧ ∃ γ s' acc, Wl X.K (α ++ γ0) H0 (Dn :: γ) s' H' ∧ I i acc s', ⟨ds.length, by simp, Nat.zero_le _, [], s0 ++ [.lst []], [], Wl.cell so0 hDn (m := .lst []) ⟨[], upd_same, rfl⟩, i0⟩, ?_⟩
  rintro i m H' ⟨rfl, hi, γ, s', acc, w, hI⟩
  by_cases hlt : i < ds.length
  · obtain ⟨g, ρ2, hb, body⟩ := step i _ acc s' (List.getElem?_eq_getElem hlt) hI
    refine .inr ⟨it.go i (Dn :: γ) _ H' hlt w g, fun H2 => ∃ γ s' acc, Wl X.K (α ++ γ0) H0 (Dn :: γ) s' H2 ∧ I (i + 1) acc s', fun H2 ⟨g2, s2, acc2, z⟩ => ⟨ds.length - (i + 1), by omega, rfl, hlt, g2, s2, acc2, z⟩, fun v H2 y => ?_⟩
    obtain ⟨k2, d2⟩ := it.yld i _ (Dn :: γ) _ H' v H2 (List.getElem?_eq_getElem hlt) w g y
    have w2 := w.ext so0 k2
    have re2 : Re X.K ((α ++ γ0) ++ (Dn :: γ)) H2 (wipe σ (own.map (·.2))) (wipeD ρ (own.map (·.2))) := wipe_re (w2.re (w0.re re)) _
    refine tgt_ok t hv re2 d2 hb fun σ2 hw re3 => ⟨hw, ?_⟩
    refine tsT_run body w2.ok re3 fun δ s3 b H3 w3 q => bif_ite ⟨fun z => ?_, fun z => ?_⟩
    · intro sh Hb C cl fp
      refine q.1 z sh Hb C cl fp _ σ2 H3 _ w3.ok (w3.re re3) ?_
      rintro ε s4 yd yv H4 w4 dy ⟨e4, hla, hI5⟩
      have w34 := w3.trans w2.ok w4
      have wt := w2.trans so0 w34
      rw [List.append_assoc, List.append_assoc, List.cons_append, List.append_assoc] at dy
      rw [List.cons_append] at wt
      have hd : ((α ++ γ0) ++ Dn :: (γ ++ (δ ++ ε)))[s0.length]? = some Dn := by rw [← so0.len, List.getElem?_append_right (Nat.le_refl _), Nat.sub_self]; rfl
      obtain ⟨vacc, c1, c2⟩ := wt.ok.cel s0.length Dn (.lst acc) hd e4
      have hp : Dn ∈ (α ++ γ0) ++ Dn :: (γ ++ (δ ++ ε)) := by simp
      refine ⟨vacc, c1, by rw [← c2.length]; exact Nat.lt_of_le_of_lt hla (by decide), γ ++ (δ ++ ε), s4.set s0.length (.lst (acc ++ [yd])), acc ++ [yd], ?_, hI5⟩
      have dy' : Da X.K ((α ++ γ0) ++ Dn :: (γ ++ (δ ++ ε))) H4 yd yv := by
        refine cast ?_ dy
        congr 1
        simp
      have wp := Wl.put wt.ok (j := s0.length) (p := Dn) (m := .lst (acc ++ [yd])) (o := .lst (vacc ++ [yv])) hd ⟨_, upd_same, (c2.append (DaL.one dy')).kp (kp_upd hp)⟩
      have wz := wt.trans so0 wp
      rw [List.append_nil] at wz
      exact wz
    · have wt := w2.trans so0 w3
      exact ⟨γ ++ δ, s3, acc, wt, q.2 z⟩
  · have : i = ds.length := by omega
    subst this
    obtain ⟨g, q⟩ := done acc s' hI
    exact .inl ⟨it.stop (Dn :: γ) _ H' w g, kk0 (Dn :: γ) s' (.ref s0.length) (.ref Dn) H' w ⟨Dn, by rw [← so0.len, List.getElem?_append_right (Nat.le_refl _), Nat.sub_self]; rfl, rfl⟩ q⟩
theorem em_lcC {own : List (Str × Nat)} (t : Tgt) (hN : X.N.Nodup) (ok : BlkOk X.N X.env.scope scope own) (hv : ∀ i ∈ t.slots, i ∈ own.map (·.2)) (hg : ∀ sh H C cl fp, PG (Blk X scope sh H C cl fp) tg (t.g X.K))
    (h : IM X ρ s tg iter fun ds G s0 => ∃ I : Nat → List D → Sto → Prop, I 0 [] (s0 ++ [.lst []]) ∧
      (∀ (i : Nat) (x : D) (acc : List D) (s' : Sto), ds[i]? = some x → I i acc s' → G s' ∧ ∃ ρ2, t.bind (wipeD ρ (own.map (·.2))) x = some ρ2 ∧
        TsB X scope ρ2 s' ifs fun b s3 => Bif b (∀ sh H C cl fp, EM (Blk X scope sh H C cl fp) ρ2 s3 elt fun y s4 => s4[s0.length]? = some (.lst acc) ∧ acc.length ≤ 1000 ∧ I (i + 1) (acc ++ [y]) (s4.set s0.length (.lst (acc ++ [y])))) (I (i + 1) acc s3)) ∧
      ∀ acc s', I ds.length acc s' → G s' ∧ Φ (.ref s0.length) s')
    (hc : X.calm = true := by rfl) (hs : ∀ x, foldedSetIterable iter X.env x = pure x := by intro _; rfl) : EM X ρ s (.ListComp elt [⟨tg, iter, ifs, 0⟩] scope pos) Φ := em_of_lc hN ok hg (lcC_m t hv h) hc hs
theorem v2_mulLC {x : D} {xs : List D} {n : Int} (hx : IsL s x xs) (h0 : n ≤ 1000) (h1 : -1000 ≤ n) (hl : xs.length ≤ 1000) (h : Φ (.ref s.length) (s ++ [.lst (List.replicate n.toNat xs).flatten])) : V2 X (binaryOp .Mult) x (.int n) s Φ := v2_of op_rep fun α H a b Q so da db k => by
  obtain ⟨p, vs, e, q, l⟩ := hx.at_ so da
  have a1 : vs.length * n.toNat ≤ 1000 * 1000 := Nat.mul_le_mul (by rw [← l.length]; exact hl) (by omega)
  exact ⟨p, n, vs, e, db, q, by omega, by omega, by rw [sizeLine_eq]; omega, fun t ht => k.newC so (l.rep n.toNat) h ht⟩
end
end Mp
end T_MpR

section T_MpS
set_option autoImplicit true
set_option maxRecDepth 100000
set_option maxHeartbeats 4000000
namespace Mp
open PySem PySem.Spec PyProof.Rows L2
theorem mergeK_nodup : ∀ (more acc : List (Key × V)), ((acc ++ more).map (·.1)).Nodup → mergeK acc more = acc ++ more
  | [], acc, _ => (List.append_nil acc).symm
  | p :: r, acc, h => by
    have hn : (acc.any fun kv => decide (kv.1 = p.1)) = false := by
      refine List.any_eq_false.mpr fun kv hkv z => ?_
      have e : kv.1 = p.1 := of_decide_eq_true z
      rw [List.map_append, List.nodup_append] at h
      exact h.2.2 kv.1 (List.mem_map_of_mem hkv) p.1 (by simp) e
    have e : putK acc p.1 p.2 = acc ++ [p] := by
      unfold putK
      rw [hn]
      rfl
    show mergeK (putK acc p.1 p.2) r = _
    rw [e, mergeK_nodup r (acc ++ [p]) (by rw [List.append_assoc]; exact h), List.append_assoc]
    rfl
section
variable {X : Cx} {ρ : Slo} {s : Sto} {Φ : D → Sto → Prop} {pos : Pos}
def trD (X : Cx) (k : Str) (e : Expr) : TE × TE := (tC (.str k), fun σ H Q => RE X σ H e Q)
/-- the values of a display whose keys are texts -/
def PM (X : Cx) (ρ : Slo) (s : Sto) (ks : List Str) (es : List Expr) (Φ : List D → Sto → Prop) : Prop := ∀ (α : List Addr) (σ : L2.St) (H : Hp) (Q : List V → Hp → Prop), Sok X.K α s H → Re X.K α H σ ρ → KA X.K α H Φ Q →
  tPairs (List.zipWith (trD X) ks es) σ H fun ps H2 => ∃ vs, ps = List.zip (ks.map V.str) vs ∧ vs.length = ks.length ∧ Q vs H2
theorem pm_nil {Ψ : List D → Sto → Prop} (h : Ψ [] s) : PM X ρ s [] [] Ψ := fun α σ H Q so re k => ⟨[], rfl, rfl, k.now so (d := []) (v := []) rfl h⟩
theorem RE.mono {σ : L2.St} {H : Hp} {e : Expr} {Q Q' : VK} (h : RE X σ H e Q) (k : ∀ v H, Q v H → Q' v H) : RE X σ H e Q' := Op.mk <| fun pins sh I => thn (h.go pins sh I) fun _ _ ⟨v, H', I', r, q⟩ => ⟨v, H', I', r, k _ _ q⟩
theorem tPairs_mono : ∀ {ks : List Str} {es : List Expr} {σ : L2.St} {H : Hp} {Q Q' : List (V × V) → Hp → Prop}, (∀ ps H, Q ps H → Q' ps H) → tPairs (List.zipWith (trD X) ks es) σ H Q → tPairs (List.zipWith (trD X) ks es) σ H Q'
  | [], _, _, _, _, _, k, h => k _ _ h
  | _ :: _, [], _, _, _, _, k, h => k _ _ h
  | a :: ks, e :: es, σ, H, Q, Q', k, h => by
    refine RE.mono (e := e) (H := H) h fun v H1 q => ?_
    exact tPairs_mono (ks := ks) (es := es) (fun ps H2 q2 => k _ _ q2) q
theorem pm_cons {Ψ : List D → Sto → Prop} {k : Str} {ks : List Str} {e : Expr} {es : List Expr} (h : EM X ρ s e fun d s1 => PM X ρ s1 ks es fun ds s2 => Ψ (d :: ds) s2) : PM X ρ s (k :: ks) (e :: es) Ψ := by
  intro α σ H Q so re kk
  show RE X σ H e _
  refine h α σ H _ so re fun γ s1 d v H1 w1 d1 q => ?_
  refine tPairs_mono ?_ (q _ σ H1 (fun vs H2 => Q (v :: vs) H2) w1.ok (w1.re re) fun δ s2 ds vs H2 w2 d2 q2 => kk (γ ++ δ) s2 (d :: ds) (v :: vs) H2 (w1.trans so w2) ?_ q2)
  · rintro ps H2 ⟨vs, rfl, hl, q⟩
    exact ⟨v :: vs, rfl, by rw [List.length_cons, hl]; rfl, q⟩
  · rw [← List.append_assoc]
    exact ⟨v, vs, rfl, w2.da d1, d2⟩
theorem keyD_map {ks : List Str} : ∀ {vs : List V}, vs.length = ks.length → List.zip (ks.map V.str) vs = (List.zip (ks.map (Sum.inr : Str → Key)) vs).map fun kv => (kV kv.1, kv.2) := by
  induction ks with
  | nil => intro vs _; rfl
  | cons k ks ih =>
    intro vs h
    match vs, h with
    | v :: vs, h =>
      show (V.str k, v) :: List.zip (ks.map V.str) vs = _
      rw [ih (Nat.succ.inj h)]
      rfl
theorem zip_fst {α β : Type} : ∀ {a : List α} {b : List β}, b.length = a.length → (List.zip a b).map (·.1) = a
  | [], _, _ => rfl
  | x :: a, y :: b, h => by
    show x :: (List.zip a b).map (·.1) = _
    rw [zip_fst (Nat.succ.inj h)]
theorem zip_snd {α β : Type} : ∀ {a : List α} {b : List β}, b.length = a.length → (List.zip a b).map (·.2) = b
  | [], [], _ => rfl
  | x :: a, y :: b, h => by
    show y :: (List.zip a b).map (·.2) = _
    rw [zip_snd (Nat.succ.inj h)]
/-- {'k': v, ..} to be changed -/
theorem em_disp {keys : List (Option Expr)} {values : List Expr} (ks : List Str) (hp : PPs X pos keys values (List.zipWith (trD X) ks values)) (nd : ks.Nodup) (h : PM X ρ (s ++ [.dic [] []]) ks values fun ds s1 => s1[s.length]? = some (.dic [] []) ∧ ds.length = ks.length ∧ Φ (.ref s.length) (s1.set s.length (.dic (ks.map Sum.inr) ds)))
    (h15 : ks.length ≤ 15) (hall : keys.all (·.isSome) = true := by rfl) (hl : keys.length = values.length := by rfl) (h0 : keys ≠ [] := by intro z; cases z) (hk15 : keys.length ≤ 15 := by decide) : EM X ρ s (.Dict keys values pos) Φ := by
  intro α σ H Q so re kk
  refine toRE (pe_disp hp hall hl h0 hk15) fun p hH => ?_
  have w0 : Wl X.K α H [p] (s ++ [.dic [] []]) (L2.upd H p (.dK [])) := Wl.cell so hH (m := .dic [] []) ⟨[], upd_same, rfl, rfl⟩
  refine tPairs_mono ?_ (h (α ++ [p]) σ _ (fun vs H2 => H2 p = some (.dK []) ∧ Q (.ref p) (L2.upd H2 p (.dK (List.zip (ks.map Sum.inr) vs)))) w0.ok (w0.re re) fun γ s1 ds vs H1 w1 d1 q => ?_)
  · rintro ps H2 ⟨vs, rfl, hv, e, q⟩
    have hn : ((List.zip (ks.map (Sum.inr : Str → Key)) vs).map (·.1)) = ks.map Sum.inr := zip_fst (by rw [List.length_map]; exact hv)
    refine ⟨e, List.zip (ks.map Sum.inr) vs, keyD_map hv, ?_, ?_⟩
    · rw [List.length_zip, List.length_map]
      omega
    · rw [mergeK_nodup _ [] (by rw [List.nil_append, hn]; exact List.pairwise_map.mpr (List.Pairwise.imp (fun h z => h (by cases z; rfl)) nd))]
      exact q
  · obtain ⟨e, hd, q⟩ := q
    have hp' : ((α ++ [p]) ++ γ)[s.length]? = some p := by rw [List.append_assoc, List.getElem?_append_right (by rw [so.len]; exact Nat.le_refl _), so.len, Nat.sub_self]; rfl
    obtain ⟨kvs, c1, c2, c3⟩ := w1.ok.cel s.length p _ hp' e
    have hk : kvs = [] := List.map_eq_nil_iff.mp c2
    subst hk
    refine ⟨c1, ?_⟩
    have wt := w0.trans so w1
    have hv : vs.length = (ks.map (Sum.inr : Str → Key)).length := by rw [← d1.length, hd, List.length_map]
    have hm : p ∈ (α ++ [p]) ++ γ := by simp
    have wp := Wl.put w1.ok hp' (m := .dic (ks.map Sum.inr) ds) (o := .dK (List.zip (ks.map Sum.inr) vs)) ⟨_, upd_same, zip_fst hv, by rw [zip_snd hv]; exact d1.kp (kp_upd hm)⟩
    rw [List.append_assoc] at wp hp'
    exact kk _ _ (.ref s.length) (.ref p) _ (wt.trans so wp) ⟨p, by rw [List.append_nil]; exact hp', rfl⟩ q
end
end Mp
end T_MpS

section T_MpT
set_option autoImplicit true
set_option maxRecDepth 100000
set_option maxHeartbeats 4000000
namespace Mp
open PySem PySem.Spec PyProof.Rows L2
section
variable {P : Program} {w : World} {A : Around} {E : Value → Shared → Prop} {s : Shared}
/-- a new set, as it stands -/
abbrev nwSet (w : World) : Obj := { cls := .type "set", dict := none, data := .set #[] 0 (.fresh 0 0 (!w.params.followText "set-order")) }
/-- set(xs) of a list of ints, the set walkable -/
theorem set_listI {l : Addr} {items : Array Value} (ns : List Int) {Q : Value → Shared → Prop} (hh : A.handled = none) (hl : s.heap.IsList l items) (hit : IntsAre items.toList ns) (hb : ns.length + 1 < scanBound)
    (h : ∀ (h' : Heap) (tk c : Nat), SetR w h' s.heap.objs.size (fun j => decide (j ∈ ns)) c → c ≤ ns.length → (∀ b o, s.heap.get? b = some o → h'.get? b = some o) → Q (.ref s.heap.objs.size) { s with heap := h', toks := tk }) :
    wpAny (model P w) A (call (.type "set") [.ref l]) Q E s := by
  have hisz : items.size = ns.length := by
    rw [← Array.length_toList]
    exact IntsAre.length hit
  have hval : ∀ (i : Nat) (v : Value), items[i]? = some v → ∃ k t, ns[i]? = some k ∧ v = .int k t := fun i v hv => by
    have hi : i < ns.length := by rw [← hisz]; exact (Array.getElem?_eq_some_iff.mp hv).1
    obtain ⟨t, e⟩ := IntsAre.int_at hit i v (by rw [Array.getElem?_toList]; exact hv)
    exact ⟨ns[i], t, List.getElem?_eq_getElem hi, by rw [e, List.getD_eq_getElem?_getD, List.getElem?_eq_getElem hi] <;> rfl⟩
  obtain ⟨c, tl, hmro⟩ := F.called_set.mro
  have hmade := F.called_set.made
  have hsub := F.called_set.sub
  refine wpAny_call (codeAny_of_tree ?_)
  show wpAny _ _ (callAny (.type "set") _) _ _ _
  refine wpAny_pure ⟨Code.quiet_builtin _ (by decide +kernel), codeAny_builtin F.entry_type_call ?_⟩
  rw [Around.under_plain (weight_type_call_type "set" [.ref l] []) rfl]
  have h1 := F.called_set.notType
  have h2 := F.called_set.canCreate
  have hct := F.typeCall_set_1 (.ref l)
  repeat (any_goals (first | assumption | wp_step))
  refine codeAny_mono (code_set_led1 (.ref l) (E := E) (Q₁ := fun obj s₁ => obj = .ref s.heap.objs.size ∧ s₁ = { s with heap := s.heap.push (nwSet w) }) ⟨rfl, rfl⟩) fun r s₁ hr => ?_
  match r, hr with
  | .error e, hr => exact hr
  | .ok .next, hr => exact hr.elim
  | .ok .brk, hr => exact hr.elim
  | .ok .cont, hr => exact hr.elim
  | .ok (.ret obj), hr =>
    obtain ⟨rfl, rfl⟩ := hr
    have hS : (s.heap.push (nwSet w)).get? s.heap.objs.size = some (nwSet w) := Heap.get?_push_size _ rfl
    have hT : Shared.TypeIs { s with heap := s.heap.push (nwSet w) } (.ref s.heap.objs.size) "set" := ⟨_, hS, rfl⟩
    have hli := F.called_set.init.lookup
    have hbi := F.called_set.init.bind (.ref s.heap.objs.size)
    repeat (any_goals (first | assumption | wp_step))
    refine codeAny_mono (codeAny_call_builtin (R := wants (fun r s₂ => r = .none ∧ ∃ h' tk c, s₂ = { s with heap := h', toks := tk } ∧ SetR w h' s.heap.objs.size (fun j => decide (j ∈ ns)) c ∧ c ≤ ns.length ∧
      (∀ b o, s.heap.get? b = some o → h'.get? b = some o)) E) F.called_set.init.plain F.entry_set_init (check_set_init_1 hT ?_)) fun r₂ s₂ hr₂ => ?_
    · obtain ⟨⟨ocls, odict, odata, oslots⟩, hol, hcl, nl, hdl⟩ := hl
      simp only at hcl hdl
      subst hcl hdl
      have hol' : (s.heap.push (nwSet w)).get? l = some { cls := .type "list", dict := odict, data := .seq items nl, slots := oslots } := Heap.get?_push_of_some _ hol
      have hl1 : (s.heap.push (nwSet w)).IsList l items := ⟨_, hol', rfl, nl, rfl⟩
      have hsls := F.sub_list_set
      have hslf := F.sub_list_frozenset
      have hne : (Value.type "list" == Value.type "dict") = false := by decide
      unfold Builtin.«set.__init__» noKeywords Builtin.Frozenset.updateFrom
      generalize hPI : pyIter = PI
      wp_walk
      subst hPI
      refine wpAny_pyIter_list hl1 (wpAny_bind (wpAny_runValue ?_))
      have hlS : l < s.heap.objs.size := Heap.lt_size hol
      have hh3 : A.in1.in1.in1.handled = none := by simp [hh]
      have hneI : l ≠ (s.heap.push (nwSet w)).objs.size := by
        rw [Heap.size_push]
        exact Nat.ne_of_lt (Nat.lt_succ_of_lt hlS)
      have hSf : s.heap.objs.size ∉ [(s.heap.push (nwSet w)).objs.size, l] := by
        rw [Heap.size_push]
        simp only [List.mem_cons, List.not_mem_nil, or_false, not_or]
        exact ⟨Nat.ne_of_lt (Nat.lt_succ_self _), Nat.ne_of_gt hlS⟩
      refine set_update_ints ((Walks.list hh3 _ l hneI items).toS) s.heap.objs.size hSf ns hisz hb hval (items.size - 0) 0 _ (by omega) (Nat.zero_le _) ⟨⟨_, Heap.get?_push_size _ rfl, rfl, rfl⟩, hl1.push _⟩
        ⟨0, Nat.le_refl 0, setR_new_at (Heap.get?_push_of_some _ hS)⟩ ?_
      rintro ⟨h', g2, d', tk', os'⟩ c' hm hc' hS'
      obtain rfl : g2 = s.gens := hm.gens
      obtain rfl : d' = s.drawn := hm.drawn
      obtain rfl : os' = s.os := hm.os
      show wpAny _ _ _ _ _ _
      refine wpAny_pure ?_
      show wpAny _ _ (ret Value.none) _ _ _
      rw [hisz] at hc'
      refine wpAny_pure ⟨rfl, h', tk', c', rfl, hS', hc', fun b o e => ?_⟩
      have hb0 : b < s.heap.objs.size := Heap.lt_size e
      exact hm.heap b o (by rw [Heap.size_push]; simp only [List.mem_cons, List.not_mem_nil, or_false, not_or]; exact ⟨Nat.ne_of_lt hb0, Nat.ne_of_lt (Nat.lt_succ_of_lt hb0)⟩) (Heap.get?_push_of_some _ (Heap.get?_push_of_some _ e))
    · match r₂, hr₂ with
      | .error e, hr₂ => exact hr₂
      | .ok .next, hr₂ => exact hr₂.elim
      | .ok .brk, hr₂ => exact hr₂.elim
      | .ok .cont, hr₂ => exact hr₂.elim
      | .ok (.ret r), hr₂ =>
        obtain ⟨rfl, h', tk, c', rfl, hS', hc', hk'⟩ := hr₂
        repeat (any_goals (first | assumption | wp_step))
        exact h _ _ _ hS' hc' hk'
variable {X : Cx}
def rSetL (K : PySem.W.Frag) (w : World) : List V → Hp → VK → Prop := fun xs H Q => ∃ (l : Addr) (ns : List Int), xs = [.ref l] ∧ SqL K H l (ns.map V.int) ∧ ns.length ≤ 60 ∧ ∀ p c, H p = none → c ≤ ns.length → Q (.ref p) (upd H p (SetO w p (fun j => decide (j ∈ ns)) c))
theorem cr_setL (hc : X.calm = true) : CallR X (.type "set") (rSetL X.K X.w) := by
  intro pins s σ H vs us Q I r h
  obtain ⟨l, ns, rfl, hq, hn, q⟩ := h
  rw [Vals.ref1 r]
  obtain ⟨its, rr, pl, hz⟩ := I.list hq
  refine set_listI ns (I.ok.hd hc) pl.isList (by simpa using rr.ints) (by unfold scanBound; omega) fun h' tk c R hc k => ?_
  exact ⟨.ref _, _, I.laid (t' := tk) (fun b u e => k b u e) (Nat.le_refl _) (setO_new R), rfl, q _ c (I.hok.fresh (Nat.le_refl _)) hc⟩
end
end Mp
end T_MpT

section T_MpU
set_option autoImplicit true
set_option maxRecDepth 100000
set_option maxHeartbeats 4000000
namespace Mp
open PySem PySem.Spec PyProof.Rows L2
section
variable {X : Cx}
/-- sorted(set(xs)), xs a list of ints -/
theorem em_sortSet {s : Sto} {ρ : Slo} {Φ : D → Sto → Prop} {e : Expr} {p p2 pos pos2 : Pos} (hm : X.mg "sorted" = none) (hm2 : X.mg "set" = none) (h : EM X ρ s e fun d s1 => ∃ (ds : List D) (ns : List Int), IsL s1 d ds ∧ ds = ns.map D.int ∧ ns.length ≤ 60 ∧ ∀ ns' : List Int, ns'.Pairwise (· < ·) → (∀ k, k ∈ ns' ↔ k ∈ ns) → Φ (.lst (ns'.map D.int)) s1)
    (hc : X.calm = true := by rfl) (hg : Gl X "sorted" := by rfl) (hg2 : Gl X "set" := by rfl) (he : starEach [e] X.env = [(false, eval e X.env)] := by rfl) (he2 : starEach [.Call (.Name "set" p2) [e] [] pos2] X.env = [(false, eval (.Call (.Name "set" p2) [e] [] pos2) X.env)] := by rfl) :
    EM X ρ s (.Call (.Name "sorted" p) [.Call (.Name "set" p2) [e] [] pos2] [] pos) Φ := by
  intro α σ H Q so re kk
  refine toRE (pe_callB (cr_sortedSet hc) hg hm (by decide +kernel) (pa_cons (pe_callTy (cr_setL hc) hg2 hm2 (by decide +kernel) (pa_cons pe_sem pa_nil he) (he := by rw [he]; rfl)) pa_nil he2) (he := by rw [he2]; rfl)) ?_
  refine h α σ H _ so re ?_
  rintro γ s1 d v H1 w1 d1 ⟨ds, ns, hd, rfl, hn, q⟩
  obtain ⟨p, xs, rfl, hx, l⟩ := hd.at_ w1.ok d1
  obtain rfl := dal_ints l
  refine ⟨p, ns, rfl, SqL.of hx, hn, fun t c ht hcn => ⟨t, _, c, rfl, upd_same, by omega, fun ns' r hs hm' hl hr => ?_⟩⟩
  have w2 : Wl X.K (α ++ γ) H1 [] s1 (L2.upd H1 t (SetO X.w t (fun j => decide (j ∈ ns)) c)) := Wl.new w1.ok ht
  have k2 := (kk.step so w1).step w1.ok w2
  exact k2.newL w2.ok (ints_dal ns') (q ns' hs fun k => by rw [hm' k]; exact decide_eq_true_iff) hr
end
end Mp
end T_MpU

section T_MpW
set_option autoImplicit true
set_option maxRecDepth 100000
set_option maxHeartbeats 4000000
namespace Mp
open PySem PySem.Spec PyProof.Rows L2
section
variable {X : Cx} {s : Sto} {ρ : Slo} {Φ : D → Sto → Prop} {o e : Expr} {apos : Pos}
theorem em_index {cpos : Pos} (h : EM X ρ s o fun x s1 => ∃ ds, x = .lst ds ∧ EM X ρ s1 e fun y s2 => ∃ j z, flD y = true ∧ ds.all flD = true ∧ ds[j]? = some z ∧ eqD z y = true ∧ (∀ (m : Nat) (z' : D), m < j → ds[m]? = some z' → eqD z' y = false) ∧ Φ (.int (j : Nat)) s2)
    (hbase : attributeBase o "index" X.env (eval o X.env) = eval o X.env := by rfl)
    (hfew : ((backTo cpos (starEach [e] X.env)).all (fun x => !x.1) && (backToKw cpos (keywordEach [] X.env)).all (fun x => x.1.isSome)
      && decide (([e] : List Expr).length + ([] : List Keyword).length + (if ([] : List Keyword).isEmpty then 0 else 1) < 30)) = true := by rfl)
    (hline : (apos.endLine == cpos.line) = true := by rfl) (hs : starEach [e] X.env = (false, eval e X.env) :: starEach [] X.env := by rfl) : EM X ρ s (.Call (.Attribute o "index" apos) [e] [] cpos) Φ := by
  intro α σ H Q so re k
  refine toRE (pe_bm PySem.F.plainAttrs_list PySem.F.slot_list_index PySem.F.type_list_index mt_index pe_sem (pa_cons pe_sem pa_nil hs) hbase hfew hline hs rfl) (h α σ H _ so re ?_)
  rintro γ s1 x v H1 w1 d1 ⟨ds, rfl, he⟩
  obtain ⟨a, xs, rfl, nα, ha, l⟩ := d1
  refine ⟨.inl ⟨rfl, xs, SqL.of ha⟩, he _ σ H1 _ w1.ok (w1.re re) ?_⟩
  rintro δ s2 y u H2 w2 d2 ⟨j, z, f1, f2, hz, hj, hno, q⟩
  have ha2 := w2.kp a _ ha nα
  have l2 := w2.dal l
  obtain ⟨hall, _⟩ := inD_v d2 f1 l2 f2
  obtain ⟨zv, hzv, dz⟩ := l2.get hz
  have fz : ∀ {m : Nat} {z' : D}, ds[m]? = some z' → flD z' = true := fun h => List.all_eq_true.mp f2 _ (List.mem_of_getElem? h)
  refine ⟨a, xs, u, j, zv, rfl, rfl, SqL.of ha2, flD_v d2 f1, hall, hzv, by rw [eqD_v dz d2 (fz hz) f1]; exact hj, fun m z' hm hz' => ?_, ((k.step so w1).step w1.ok w2).nowI w2.ok q⟩
  have hlt : m < ds.length := by rw [l2.length]; exact (List.getElem?_eq_some_iff.mp hz').1
  obtain ⟨zv', hzv', dz'⟩ := l2.get (List.getElem?_eq_getElem hlt)
  rw [hzv'] at hz'
  cases hz'
  rw [eqD_v dz' d2 (fz (List.getElem?_eq_getElem hlt)) f1]
  exact hno m _ hm (List.getElem?_eq_getElem hlt)
end
end Mp
end T_MpW

section T_MpX
set_option autoImplicit true
set_option maxRecDepth 100000
set_option maxHeartbeats 4000000
namespace Mp
open PySem PySem.Spec PyProof.Rows L2
section
variable {X : Cx} {s : Sto} {ρ : Slo} {N : En} {a b c : Expr} {pos : Pos}
theorem sm_par3 (i j l : Nat) {x y z : Str} {px py pz pt : Pos} {kt k2 pt2} (hN : X.N.Nodup) (h : AM X ρ s [a, b, c] fun ds s1 => ∃ d f g, ds = [d, f, g] ∧ N.nx (((ρ.set i (some d)).set j (some f)).set l (some g)) s1) (hij : i ≠ j) (hil : i ≠ l) (hjl : j ≠ l)
    (hw : swappedStores [.Tuple [.Name x px, .Name y py, .Name z pz] kt pt] (.Tuple [a, b, c] k2 pt2) X.env = pure (some [x, y, z]))
    (hc : X.calm = true := by rfl) (hi : X.N[i]? = some x := by rfl) (hj : X.N[j]? = some y := by rfl) (hl : X.N[l]? = some z := by rfl) (hx : X.env.scope.names.lookup x = some .local := by rfl) (hy : X.env.scope.names.lookup y = some .local := by rfl) (hz : X.env.scope.names.lookup z = some .local := by rfl)
    (hs : swapsWithSole [.Tuple [.Name x px, .Name y py, .Name z pz] kt pt] (.Tuple [a, b, c] k2 pt2) pos.line X.env = pure false := by rfl) : SM X ρ s (.Assign [.Tuple [.Name x px, .Name y py, .Name z pz] kt pt] (.Tuple [a, b, c] k2 pt2) pos) N :=
  fun α σ H E so re r => toRS (ps_par3 hc hN hi hj hl hij hil hjl hx hy hz pa_sem hw hs) (h α σ H _ so re (by
    rintro γ s1 ds vs H1 w1 dl ⟨d, f, g, rfl, q⟩
    obtain ⟨v, r1, rfl, d1, u, r2, rfl, d2, t, r3, rfl, d3, rfl⟩ := dl
    exact ⟨v, u, t, rfl, r.nx γ s1 _ _ H1 w1 ((((w1.re re).set i d1).set j d2).set l d3) q⟩))
end
end Mp
end T_MpX

section T_MpY
set_option autoImplicit true
set_option maxRecDepth 100000
set_option maxHeartbeats 4000000
namespace Mp
open PySem PySem.Spec PyProof.Rows L2
section
variable {X : Cx} {pos : Pos} {ρ : Slo} {s : Sto} {Φ : D → Sto → Prop} {N : En}
theorem pps_s {k : Str} {j} {p : Pos} {v : Expr} {ks : List Str} {keys : List (Option Expr)} {values : List Expr} (h : PPs X pos keys values (List.zipWith (trD X) ks values)) : PPs X pos (some (.Constant (.str k) j p) :: keys) (v :: values) (List.zipWith (trD X) (k :: ks) (v :: values)) :=
  pps_cons pe_str pe_sem h
theorem pps_0 : PPs X pos [] [] (List.zipWith (trD X) [] []) := pps_nil
/-- the same, with the display under a name (its own reading is long) -/
theorem em_dispE {e : Expr} {keys : List (Option Expr)} {values : List Expr} (he : .Dict keys values pos = e) (ks : List Str) (hp : PPs X pos keys values (List.zipWith (trD X) ks values)) (nd : ks.Nodup) (h : PM X ρ (s ++ [.dic [] []]) ks values fun ds s1 => s1[s.length]? = some (.dic [] []) ∧ ds.length = ks.length ∧ Φ (.ref s.length) (s1.set s.length (.dic (ks.map Sum.inr) ds)))
    (h15 : ks.length ≤ 15) (hall : keys.all (·.isSome) = true := by rfl) (hl : keys.length = values.length := by rfl) (h0 : keys ≠ [] := by intro z; cases z) (hk15 : keys.length ≤ 15 := by decide) : EM X ρ s e Φ := by
  subst he
  exact em_disp ks hp nd h h15 hall hl h0 hk15
theorem sm_setE (i : Nat) {x : Str} {px : Pos} {e e' : Expr} (he : e' = e) (hN : X.N.Nodup) (hs : swapsWith e' (some (.Name x px)) pos.line X.env = pure false) (h : EM X ρ s e fun d s1 => N.nx (ρ.set i (some d)) s1) (hi : X.N[i]? = some x := by rfl) (hx : L2.Loc X.env.scope x := by first | exact Or.inl rfl | exact Or.inr rfl)
    (hf : X.fn x = true ∨ X.env.scope.names.lookup x = some .local := by first | exact .inl rfl | exact .inr rfl) : SM X ρ s (.Assign [.Name x px] e pos) N := by
  subst he
  exact sm_set i hN h hi hx hs hf
def getK (ks : List Key) (ds : List D) (k : Key) (z : D) : D := match kIx ks k with | some n => ds.getD n .non | none => z
theorem getK_some {ks : List Key} {ds : List D} {k : Key} {z : D} {n : Nat} (h : kIx ks k = some n) : getK ks ds k z = ds.getD n .non := by
  unfold getK
  rw [h]
theorem getK_none {ks : List Key} {ds : List D} {k : Key} {z : D} (h : kIx ks k = none) : getK ks ds k z = z := by
  unfold getK
  rw [h]
theorem em_get2K {o e f : Expr} {apos cpos : Pos} (hu : X.A.units + 1 < cLine) (m : M2 X o "get" apos e f cpos) (h : EM X ρ s o fun x s1 => ∃ j, x = .ref j ∧ (∃ ks ds, s1[j]? = some (.dic ks ds)) ∧ EM X ρ s1 e fun y s2 => EM X ρ s2 f fun z s3 => ∃ ks ds k, s3[j]? = some (.dic ks ds) ∧ y = kD k ∧ ks.length = ds.length ∧ Φ (getK ks ds k z) s3) : EM X ρ s (.Call (.Attribute o "get" apos) [e, f] [] cpos) Φ :=
  em_get2 hu m h
end
end Mp
end T_MpY

section T_P0
set_option autoImplicit true
set_option maxRecDepth 100000
set_option maxHeartbeats 4000000
namespace Sg
open PySem L2 Mp
/-- a def of the top, a method of a class, as they stand behind the top -/
def DefG (K : PySem.W.Frag) (mg : Str → Option Value) (x : Str) (st : Stmt) : Prop := ∃ f fd, mg x = some (.ref f) ∧ FunD K x x (defArgs st) (defBody st) (defScope st) [] [] f fd
def DefM (K : PySem.W.Frag) (C : Addr) (m qual : Str) (st : Stmt) : Prop := ∃ f fd, Meth K C m f ∧ Cls K C ∧ FunD K m qual (defArgs st) (defBody st) (defScope st) [] [] f fd
def DefP (K : PySem.W.Frag) (C : Addr) (m qual : Str) (st : Stmt) : Prop := ∃ p f fd, PropOf K C m p f ∧ Cls K C ∧ FunD K m qual (defArgs st) (defBody st) (defScope st) [] [] f fd
variable {P : Program} {w : World} {K : PySem.W.Frag} {mg : Str → Option Value} {base : Heap}
/-- the body of a def keeps the contract -/
def BodyOk (P : Program) (w : World) (K : PySem.W.Frag) (mg : Str → Option Value) (base : Heap) (N : List Str) (qual : Str) (st : Stmt) (k : Nat) (W : Wt) : Prop :=
  ∀ (f : Addr) (cdv : Value) (A : Around) (outer : List PySem.Env) (sh : Shared) (H : Hp) (E : XK), Room k (A.deeper (PyProof.Rows.envOfC qual (defScope st) sh.heap.objs.size f cdv)) → ∀ (ds : List D) (s : Sto) (Φ : D → Sto → Prop), W ds s Φ →
    SMs (cxOf CX0 P w K mg base N qual (defScope st) f cdv A outer sh H E).nox (startD N ds) s (defBody st) { nx := fun _ s' => Φ .non s', rt := Φ }
def BodyOkD (P : Program) (w : World) (K : PySem.W.Frag) (mg : Str → Option Value) (base : Heap) (N : List Str) (qual : Str) (st : Stmt) (k : Nat) (W : Wt) : Prop :=
  ∀ (f : Addr) (cdv : Value) (A : Around) (outer : List PySem.Env) (sh : Shared) (H : Hp) (E : XK), Room k (A.deeper (PyProof.Rows.envOfC qual (defScope st) sh.heap.objs.size f cdv)) → ∀ (ds : List D) (s : Sto) (Φ : D → Sto → Prop), W ds s Φ →
    SMs (cxOf CX0 P w K mg base N qual (defScope st) f cdv A outer sh H E).nox (startD N ds) s (defBody st) { nx := fun _ s' => Drp s Φ .non s', rt := Drp s Φ }
def BindOk (x qual : Str) (st : Stmt) (ps : List Str) : Prop := ∀ (kV doc pm : Value) (an : Option Addr) (cdv ct : Value) (us : List Value), us.length = ps.length → bindArgs (PySem.W.fnOf x qual (defArgs st) (defBody st) (defScope st) .none kV doc pm an cdv ct) ⟨us, []⟩ = pure (ps.zip us)
theorem mkG {N ps : List Str} {x : Str} {st : Stmt} {k : Nat} {W : Wt} (D : DefG K mg x st) (S : FnScope N ps (defScope st)) (hbind : BindOk x x st ps) (len : ∀ ds s Φ, W ds s Φ → ds.length = ps.length) (hb : BodyOk P w K mg base N x st k W) : GFn P w K mg base x (k + 1) W := by
  obtain ⟨f, fd, hm, F⟩ := D
  exact ⟨f, fd, ps, hm, F.kp, def_ok F S len (hb f), F.bindsN hbind⟩
theorem mkGD {N ps : List Str} {x : Str} {st : Stmt} {k : Nat} {W : Wt} (D : DefG K mg x st) (S : FnScope N ps (defScope st)) (hbind : BindOk x x st ps) (len : ∀ ds s Φ, W ds s Φ → ds.length = ps.length) (hb : BodyOkD P w K mg base N x st k W) : GFn P w K mg base x (k + 1) W := by
  obtain ⟨f, fd, hm, F⟩ := D
  exact ⟨f, fd, ps, hm, F.kp, def_okD F S len (hb f), F.bindsN hbind⟩
theorem mkM {N ps : List Str} {C : Addr} {m qual : Str} {st : Stmt} {k : Nat} {W : Wt} (D : DefM K C m qual st) (S : FnScope N ps (defScope st)) (hbind : BindOk m qual st ps) (len : ∀ ds s Φ, W ds s Φ → ds.length = ps.length) (hb : BodyOk P w K mg base N qual st k W) : MFn P w K mg base C m (k + 1) W := by
  obtain ⟨f, fd, hm, c, F⟩ := D
  exact ⟨c, f, fd, ps, hm, def_ok F S len (hb f), F.bindsN hbind⟩
theorem mkMD {N ps : List Str} {C : Addr} {m qual : Str} {st : Stmt} {k : Nat} {W : Wt} (D : DefM K C m qual st) (S : FnScope N ps (defScope st)) (hbind : BindOk m qual st ps) (len : ∀ ds s Φ, W ds s Φ → ds.length = ps.length) (hb : BodyOkD P w K mg base N qual st k W) : MFn P w K mg base C m (k + 1) W := by
  obtain ⟨f, fd, hm, c, F⟩ := D
  exact ⟨c, f, fd, ps, hm, def_okD F S len (hb f), F.bindsN hbind⟩
theorem mkP {N ps : List Str} {C : Addr} {m qual : Str} {st : Stmt} {k : Nat} {W : Wt} (D : DefP K C m qual st) (S : FnScope N ps (defScope st)) (hbind : BindOk m qual st ps) (len : ∀ ds s Φ, W ds s Φ → ds.length = ps.length) (hb : BodyOk P w K mg base N qual st k W) : PFn P w K mg base C m (k + 1) W := by
  obtain ⟨p, f, fd, hm, c, F⟩ := D
  exact ⟨c, p, f, fd, ps, hm, def_ok F S len (hb f), F.bindsN hbind⟩
/-- the built-in names that the program leaves alone, the module's constants -/
structure Tx (K : PySem.W.Frag) (mg : Str → Option Value) : Prop where
  isinstance : mg "isinstance" = none
  len : mg "len" = none
  tuple : mg "tuple" = none
  list : mg "list" = none
  range : mg "range" = none
  all : mg "all" = none
  any : mg "any" = none
  int : mg "int" = none
  bool : mg "bool" = none
  str : mg "str" = none
  abs : mg "abs" = none
  min : mg "min" = none
  max : mg "max" = none
  sorted : mg "sorted" = none
  set : mg "set" = none
  zip : mg "zip" = none
  enumerate : mg "enumerate" = none
  super : mg "super" = none
  WHITE : GCon K mg "WHITE" (.str "white")
  GREY : GCon K mg "GREY" (.str "grey")
  BLACK : GCon K mg "BLACK" (.str "black")
  READY : GCon K mg "READY" (.str "ready")
  MARKING : GCon K mg "MARKING" (.str "marking")
  ENDED : GCon K mg "ENDED" (.str "ended")
  WHOLE : GCon K mg "WHOLE" (.str "whole")
  LEAST_WIDTH : GCon K mg "LEAST_WIDTH" (.int 1)
  MOST_WIDTH : GCon K mg "MOST_WIDTH" (.int 4)
  MOST_OBJECTS : GCon K mg "MOST_OBJECTS" (.int 40)
/-! ### cuts -/
theorem cut_pre (xs : List D) (i : Nat) (h : i ≤ xs.length) : cutD xs none (some (i : Int)) = xs.take i := by
  unfold cutD
  rw [HT.sIx_none, HT.sIx_nat]
  simp [Nat.min_eq_left h]
theorem cut_post (xs : List D) (i : Nat) (h : i ≤ xs.length) : cutD xs (some (i : Int)) none = xs.drop i := by
  unfold cutD
  rw [HT.sIx_none, HT.sIx_nat]
  simp [Nat.min_eq_left h]
  rw [List.take_of_length_le]
  simp
theorem set_cut (xs : List D) (i : Nat) (y : D) (h : i < xs.length) : xs.take i ++ [y] ++ xs.drop (i + 1) = xs.set i y := by
  rw [List.set_eq_take_append_cons_drop, if_pos h, List.append_assoc]
  rfl
/-! ### put -/
abbrev sPut : Stmt := top 29
def wPut : Wt := fun ds s Φ => ∃ (xs : List D) (i : Nat) (y : D), ds = [.tup xs, .int i, y] ∧ i < xs.length ∧ xs.length ≤ 100 ∧ Φ (.tup (xs.set i y)) s
theorem g_put (D : DefG K mg "put" sPut) : GFn P w K mg base "put" 1 wPut := by
  refine mkG (N := ["row", "at", "worth"]) (ps := ["row", "at", "worth"]) D ⟨rfl, rfl, rfl, by decide +kernel, rfl, by decide +kernel, by decide +kernel⟩ (fun _ _ _ _ _ _ us hl => match us, hl with | [_, _, _], _ => rfl) (fun ds s Φ h => ?_) fun f cdv A outer sh H E hr ds s Φ h => ?_
  · obtain ⟨xs, i, y, rfl, _⟩ := h
    rfl
  · obtain ⟨xs, i, y, rfl, hi, hl, k⟩ := h
    refine sms_cons (sm_ret (em_bin (em_bin (em_slice (em_var 0 (om_none (om_some (em_var 1 ⟨_, rfl, vsl_tup ?_⟩))))))))
    rw [cut_pre xs i (Nat.le_of_lt hi)]
    refine em_tup (am_cons (em_var 2 (am_nil ⟨Nat.le_of_ble_eq_true rfl, ?_⟩)))
    refine v2_addT (by rw [List.length_take]; simp; omega) ?_
    refine em_slice (em_var 0 (om_some (em_bin (em_var 1 (em_int (v2_addI ⟨_, rfl, om_none (vsl_tup ?_)⟩))))))
    have e : ((i : Int) + 1) = ((i + 1 : Nat) : Int) := rfl
    rw [e, cut_post xs (i + 1) hi]
    refine v2_addT (by simp; omega) ?_
    rw [set_cut xs i y hi]
    exact k
/-! ### heaps -/
abbrev sBetween : Stmt := top 18
def wBetween : Wt := fun ds s Φ => ∃ i a b : Int, ds = [.int i, .int a, .int b] ∧ Φ (.bl (decide (a ≤ i ∧ i ≤ b))) s
theorem g_between (T : Tx K mg) (D : DefG K mg "is_between" sBetween) : GFn P w K mg base "is_between" 1 wBetween := by
  refine mkG (N := ["thing", "least", "most"]) (ps := ["thing", "least", "most"]) D ⟨rfl, rfl, rfl, by decide +kernel, rfl, by decide +kernel, by decide +kernel⟩ (fun _ _ _ _ _ _ us hl => match us, hl with | [_, _, _], _ => rfl) (fun ds s Φ h => ?_) fun f cdv A outer sh H E hr ds s Φ h => ?_
  · obtain ⟨_, _, _, rfl, _⟩ := h
    rfl
  · obtain ⟨i, a, b, rfl, k⟩ := h
    refine sms_cons (sm_ret (em_and (em_callB T.isinstance (am_cons (em_var 0 (am_cons (em_bty (n := "int") T.int (am_nil (vc_isi (.int i) "int" "int" true (asB (bif_t ?_)))))))))))
    refine em_and (em_not (em_callB T.isinstance (am_cons (em_var 0 (am_cons (em_bty (n := "bool") T.bool (am_nil (vc_isi (.int i) "int" "bool" false (asB (asB (bif_t ?_)))))))))))
    refine em_one (em_chain (em_var 1 (em_var 0 (v2_le (asB ?_)))))
    refine bif_d (fun h1 => em_var 2 (v2_le ?_)) fun h1 => ?_
    · have e : decide (a ≤ i ∧ i ≤ b) = decide (i ≤ b) := by simp [h1]
      rw [e] at k
      exact k
    · have e : decide (a ≤ i ∧ i ≤ b) = false := by simp [h1]
      rw [e] at k
      exact k
abbrev sHeld : Stmt := top 19
/-- None, or an index -/
def oD : Option Nat → D
  | none => .non
  | some i => .int i
theorem g_held (T : Tx K mg) (G : GFn P w K mg base "is_between" 1 wBetween) (D : DefG K mg "is_held" sHeld) : GFn P w K mg base "is_held" 2 fun ds s Φ => ∃ (o : Option Nat) (n : Nat), ds = [oD o, .int n] ∧ (∀ i, o = some i → i < n) ∧ Φ (.bl true) s := by
  refine mkG (N := ["thing", "many"]) (ps := ["thing", "many"]) D ⟨rfl, rfl, rfl, by decide +kernel, rfl, by decide +kernel, by decide +kernel⟩ (fun _ _ _ _ _ _ us hl => match us, hl with | [_, _], _ => rfl) (fun ds s Φ h => ?_) fun f cdv A outer sh H E hr ds s Φ h => ?_
  · obtain ⟨_, _, rfl, _⟩ := h
    rfl
  · obtain ⟨o, n, rfl, ho, k⟩ := h
    refine sms_cons (sm_ret (em_or (em_cmp (em_var 0 (em_non (v2_isN (asB ?_)))))))
    cases o with
    | none => exact bif_t k
    | some i =>
      refine bif_f (em_one (em_call G hr (am_cons (em_var 0 (am_cons (em_int (am_cons (em_bin (em_var 1 (em_int (v2_subI (am_nil ⟨i, 0, n - 1, rfl, ?_⟩))))))))))))
      have := ho i rfl
      rw [decide_eq_true (show (0 : Int) ≤ i ∧ (i : Int) ≤ n - 1 by omega)]
      exact k
end Sg
end T_P0

section T_P1
set_option autoImplicit true
set_option maxRecDepth 100000
set_option maxHeartbeats 4000000
namespace Sg
open PySem L2 Mp
variable {P : Program} {w : World} {K : PySem.W.Frag} {mg : Str → Option Value} {base : Heap}
/-! ### moments -/
def ksM : List Str := ["stage", "rows", "held", "paint", "seen"]
structure MomC (K : PySem.W.Frag) (C : Addr) : Prop where
  cl : Cls K C
  n1 : NoAttr K C "stage"
  n2 : NoAttr K C "rows"
  n3 : NoAttr K C "held"
  n4 : NoAttr K C "paint"
  n5 : NoAttr K C "seen"
def momG (C : Addr) (a b c d e : D) : D := .ins C ksM [a, b, c, d, e]
section
variable {X : Cx} {ρ : Slo} {s : Sto} {Φ : D → Sto → Prop} {pos : Pos} {e : Expr} {C : Addr}
theorem at_stage (M : MomC X.K C) (h : EM X ρ s e fun x s1 => ∃ a b c d f, x = momG C a b c d f ∧ Φ a s1) (hb : attributeBase e "stage" X.env (eval e X.env) = eval e X.env := by rfl) : EM X ρ s (.Attribute e "stage" pos) Φ :=
  em_fld 0 (em_mono h fun x s1 ⟨a, b, c, d, f, e, q⟩ => ⟨C, ksM, [a, b, c, d, f], a, by rw [e]; exact .ins _ _ _, M.cl, M.n1, by decide +kernel, rfl, q⟩) hb
theorem at_rows (M : MomC X.K C) (h : EM X ρ s e fun x s1 => ∃ a b c d f, x = momG C a b c d f ∧ Φ b s1) (hb : attributeBase e "rows" X.env (eval e X.env) = eval e X.env := by rfl) : EM X ρ s (.Attribute e "rows" pos) Φ :=
  em_fld 1 (em_mono h fun x s1 ⟨a, b, c, d, f, e, q⟩ => ⟨C, ksM, [a, b, c, d, f], b, by rw [e]; exact .ins _ _ _, M.cl, M.n2, by decide +kernel, rfl, q⟩) hb
theorem at_held (M : MomC X.K C) (h : EM X ρ s e fun x s1 => ∃ a b c d f, x = momG C a b c d f ∧ Φ c s1) (hb : attributeBase e "held" X.env (eval e X.env) = eval e X.env := by rfl) : EM X ρ s (.Attribute e "held" pos) Φ :=
  em_fld 2 (em_mono h fun x s1 ⟨a, b, c, d, f, e, q⟩ => ⟨C, ksM, [a, b, c, d, f], c, by rw [e]; exact .ins _ _ _, M.cl, M.n3, by decide +kernel, rfl, q⟩) hb
theorem at_paint (M : MomC X.K C) (h : EM X ρ s e fun x s1 => ∃ a b c d f, x = momG C a b c d f ∧ Φ d s1) (hb : attributeBase e "paint" X.env (eval e X.env) = eval e X.env := by rfl) : EM X ρ s (.Attribute e "paint" pos) Φ :=
  em_fld 3 (em_mono h fun x s1 ⟨a, b, c, d, f, e, q⟩ => ⟨C, ksM, [a, b, c, d, f], d, by rw [e]; exact .ins _ _ _, M.cl, M.n4, by decide +kernel, rfl, q⟩) hb
theorem at_seen (M : MomC X.K C) (h : EM X ρ s e fun x s1 => ∃ a b c d f, x = momG C a b c d f ∧ Φ f s1) (hb : attributeBase e "seen" X.env (eval e X.env) = eval e X.env := by rfl) : EM X ρ s (.Attribute e "seen" pos) Φ :=
  em_fld 4 (em_mono h fun x s1 ⟨a, b, c, d, f, e, q⟩ => ⟨C, ksM, [a, b, c, d, f], f, by rw [e]; exact .ins _ _ _, M.cl, M.n5, by decide +kernel, rfl, q⟩) hb
end
abbrev sMinit : Stmt := cls 30 0
def wMinit (C : Addr) : Wt := fun ds s Φ => ∃ (j : Nat) (a b c d e : D), ds = [.ref j, a, b, c, d, e] ∧ s[j]? = some (.ins C [] []) ∧ Φ .non (s.set j (.ins C ksM [a, b, c, d, e]))
theorem set_get {s : Sto} {j : Nat} {m n : MO} (h : s[j]? = some m) : (s.set j n)[j]? = some n := by
  rw [List.getElem?_set, if_pos rfl, if_pos (List.getElem?_eq_some_iff.mp h).1]
def MkD (K : PySem.W.Frag) (mg : Str → Option Value) (x qual : Str) (C : Addr) (st : Stmt) : Prop := ∃ f fd, mg x = some (.ref C) ∧ Mk K C f ∧ FunD K "__init__" qual (defArgs st) (defBody st) (defScope st) [] [] f fd
theorem mk_mom {C : Addr} (M : MomC K C) (D : MkD K mg "Moment" "Moment.__init__" C sMinit) : MkC P w K mg base "Moment" C 1 (wMinit C) := by
  obtain ⟨f, fd, hm, mk, F⟩ := D
  refine ⟨f, fd, ["self", "phase", "objects", "registers", "colors", "visited"], hm, mk, def_ok (N := ["self", "phase", "objects", "registers", "colors", "visited"]) F ⟨rfl, rfl, rfl, by decide +kernel, rfl, by decide +kernel, by decide +kernel⟩ (fun ds s Φ h => ?_) (fun cdv A outer sh H E hr ds s Φ h => ?_), F.bindsN fun _ _ _ _ _ _ us hl => match us, hl with | [_, _, _, _, _, _], _ => rfl⟩
  · obtain ⟨j, a, b, c, d, e, rfl, _⟩ := h
    rfl
  · obtain ⟨j, a, b, c, d, e, rfl, hj, k⟩ := h
    refine sms_cons (sm_setF (em_var 1 (em_var 0 ⟨j, C, _, _, rfl, hj, M.cl, M.n1, by decide, .inr ⟨by decide +kernel, ?_⟩⟩)))
    refine sms_cons (sm_setF (em_var 2 (em_var 0 ⟨j, C, _, _, rfl, set_get hj, M.cl, M.n2, by decide, .inr ⟨by decide +kernel, ?_⟩⟩)))
    rw [List.set_set]
    refine sms_cons (sm_setF (em_var 3 (em_var 0 ⟨j, C, _, _, rfl, set_get hj, M.cl, M.n3, by decide, .inr ⟨by decide +kernel, ?_⟩⟩)))
    rw [List.set_set]
    refine sms_cons (sm_setF (em_var 4 (em_var 0 ⟨j, C, _, _, rfl, set_get hj, M.cl, M.n4, by decide, .inr ⟨by decide +kernel, ?_⟩⟩)))
    rw [List.set_set]
    refine sms_cons (sm_setF (em_var 5 (em_var 0 ⟨j, C, _, _, rfl, set_get hj, M.cl, M.n5, by decide, .inr ⟨by decide +kernel, ?_⟩⟩)))
    rw [List.set_set]
    exact sms_nil k
section
variable {X : Cx} {ρ : Slo} {s : Sto} {Φ : D → Sto → Prop} {pos p : Pos} {e1 e2 e3 e4 e5 : Expr} {C : Addr}
theorem set_last (s : Sto) (m n : MO) : (s ++ [m]).set s.length n = s ++ [n] := by
  rw [List.set_append_right _ _ (Nat.le_refl _), Nat.sub_self]
  rfl
theorem get_last (s : Sto) (m : MO) : (s ++ [m])[s.length]? = some m := by
  rw [List.getElem?_append_right (Nat.le_refl _), Nat.sub_self]
  rfl
/-- Moment(..) -/
theorem em_mom (M : MkC X.prog X.w X.K X.mg X.base "Moment" C 1 (wMinit C)) (hr : Room 2 X.A) (h : AM X ρ s [e1, e2, e3, e4, e5] fun ds s1 => ∃ a b c d e, ds = [a, b, c, d, e] ∧ Φ (momG C a b c d e) s1)
    (hg : Gl X "Moment" := by rfl) (he : starEach [e1, e2, e3, e4, e5] X.env = (false, eval e1 X.env) :: starEach [e2, e3, e4, e5] X.env := by rfl) (hpl : (backTo pos (starEach [e2, e3, e4, e5] X.env)).any (·.1) = false := by rfl) : EM X ρ s (.Call (.Name "Moment" p) [e1, e2, e3, e4, e5] [] pos) Φ := by
  refine em_makeD M hr ?_ hg (by decide) he hpl
  intro α σ H Q so re k
  refine h α σ H Q so re fun γ s1 ds vs H1 w dl => ?_
  rintro ⟨a, b, c, d, e, rfl, q⟩
  refine k γ s1 _ vs H1 w dl ⟨s1.length, a, b, c, d, e, rfl, get_last _ _, ?_⟩
  rw [set_last]
  exact ⟨rfl, ksM, [a, b, c, d, e], rfl, id, q⟩
end
/-- self.x of a moment, by its places -/
abbrev sInPhase : Stmt := cls 30 1
theorem m_inphase {C : Addr} (M : MomC K C) (I : MkC P w K mg base "Moment" C 1 (wMinit C)) (D : DefM K C "in_phase" "Moment.in_phase" sInPhase) : MFn P w K mg base C "in_phase" 3 fun ds s Φ => ∃ a b c d e p, ds = [momG C a b c d e, p] ∧ Φ (momG C p b c d e) s := by
  refine mkM (N := ["self", "phase"]) (ps := ["self", "phase"]) D ⟨rfl, rfl, rfl, by decide +kernel, rfl, by decide +kernel, by decide +kernel⟩ (fun _ _ _ _ _ _ us hl => match us, hl with | [_, _], _ => rfl) (fun ds s Φ h => ?_) fun f cdv A outer sh H E hr ds s Φ h => ?_
  · obtain ⟨_, _, _, _, _, _, rfl, _⟩ := h
    rfl
  · obtain ⟨a, b, c, d, e, p, rfl, k⟩ := h
    exact sms_cons (sm_ret (em_mom I hr (am_cons (em_var 1 (am_cons (at_rows M (em_var 0 ⟨_, _, _, _, _, rfl, am_cons (at_held M (em_var 0 ⟨_, _, _, _, _, rfl, am_cons (at_paint M (em_var 0 ⟨_, _, _, _, _, rfl, am_cons (at_seen M (em_var 0 ⟨_, _, _, _, _, rfl, am_nil ⟨_, _, _, _, _, rfl, k⟩⟩))⟩))⟩))⟩)))))))
abbrev sHolding : Stmt := cls 30 4
theorem m_holding {C : Addr} (M : MomC K C) (I : MkC P w K mg base "Moment" C 1 (wMinit C)) (G : GFn P w K mg base "put" 1 wPut) (D : DefM K C "holding" "Moment.holding" sHolding) : MFn P w K mg base C "holding" 3 fun ds s Φ => ∃ a b xs d e x, ∃ r : Nat, ds = [momG C a b (.tup xs) d e, .int r, x] ∧ r < xs.length ∧ xs.length ≤ 100 ∧ Φ (momG C a b (.tup (xs.set r x)) d e) s := by
  refine mkM (N := ["self", "r", "x"]) (ps := ["self", "r", "x"]) D ⟨rfl, rfl, rfl, by decide +kernel, rfl, by decide +kernel, by decide +kernel⟩ (fun _ _ _ _ _ _ us hl => match us, hl with | [_, _, _], _ => rfl) (fun ds s Φ h => ?_) fun f cdv A outer sh H E hr ds s Φ h => ?_
  · obtain ⟨_, _, _, _, _, _, _, rfl, _⟩ := h
    rfl
  · obtain ⟨a, b, xs, d, e, x, r, rfl, hr1, hr2, k⟩ := h
    refine sms_cons (sm_ret (em_mom I hr (am_cons (at_stage M (em_var 0 ⟨_, _, _, _, _, rfl, am_cons (at_rows M (em_var 0 ⟨_, _, _, _, _, rfl, ?_⟩))⟩)))))
    refine am_cons (em_call G (hr.mono (by decide)) (am_cons (at_held M (em_var 0 ⟨_, _, _, _, _, rfl, am_cons (em_var 1 (am_cons (em_var 2 (am_nil ⟨xs, r, x, rfl, hr1, hr2, ?_⟩))))⟩))))
    exact am_cons (at_paint M (em_var 0 ⟨_, _, _, _, _, rfl, am_cons (at_seen M (em_var 0 ⟨_, _, _, _, _, rfl, am_nil ⟨_, _, _, _, _, rfl, k⟩⟩))⟩))
end Sg
end T_P1

section T_M0
set_option autoImplicit true
set_option maxRecDepth 100000
set_option maxHeartbeats 4000000
namespace Sg
open PySem L2 Mp
/-! ### the machine, in plain Lean -/
inductive Col where
  | w | g | b
deriving DecidableEq
def Col.s : Col → Str
  | .w => "white" | .g => "grey" | .b => "black"
theorem Col.inj : ∀ {a b : Col}, a.s = b.s → a = b := by
  intro a b
  cases a <;> cases b <;> first | (intro _; rfl) | (intro h; exact absurd h (by decide +kernel))
theorem col_dec (a b : Col) : decide (a.s = b.s) = decide (a = b) := by
  by_cases h : a = b
  · rw [h]; simp
  · rw [decide_eq_false h, decide_eq_false fun z => h (Col.inj z)]
inductive Ph where
  | ready | marking | ended
deriving DecidableEq
def Ph.s : Ph → Str
  | .ready => "ready" | .marking => "marking" | .ended => "ended"
theorem Ph.inj : ∀ {a b : Ph}, a.s = b.s → a = b := by
  intro a b
  cases a <;> cases b <;> first | (intro _; rfl) | (intro h; exact absurd h (by decide +kernel))
theorem ph_dec (a b : Ph) : decide (a.s = b.s) = decide (a = b) := by
  by_cases h : a = b
  · rw [h]; simp
  · rw [decide_eq_false h, decide_eq_false fun z => h (Ph.inj z)]
abbrev Row := List (Option Nat)
structure Mo where
  ph : Ph
  rows : List Row
  held : Row
  paint : List Col
  seen : List (List Nat)
/-! as data -/
def colD (c : Col) : D := .str c.s
def rowD (r : Row) : D := .tup (r.map oD)
def natD (i : Nat) : D := .int (i : Nat)
def natsD (l : List Nat) : D := .tup (l.map natD)
def rowsD (r : List Row) : D := .tup (r.map rowD)
def paintD (p : List Col) : D := .tup (p.map colD)
def seenD (p : List (List Nat)) : D := .tup (p.map natsD)
def moD (C : Addr) (m : Mo) : D := momG C (.str m.ph.s) (rowsD m.rows) (rowD m.held) (paintD m.paint) (seenD m.seen)
def heapD (w : Nat) (r : List Row) : D := .tup [.int w, rowsD r]
theorem oD_inj : ∀ {a b : Option Nat}, oD a = oD b → a = b
  | none, none, _ => rfl
  | none, some _, h => nomatch h
  | some _, none, h => nomatch h
  | some i, some j, h => by
    have : (i : Int) = j := by injection h
    rw [Int.ofNat.inj this]
theorem isNon_oD (a : Option Nat) : isNon (oD a) = a.isNone := by cases a <;> rfl
/-! steps -/
/-- x shaded: grey if it was white -/
def shade1 (p : List Col) : Option Nat → List Col
  | none => p
  | some x => if p[x]? = some .w then p.set x .g else p
def shadeAll (p : List Col) (xs : Row) : List Col := xs.foldl shade1 p
theorem shade1_len (p : List Col) (o : Option Nat) : (shade1 p o).length = p.length := by
  cases o with
  | none => rfl
  | some x => unfold shade1; dsimp only; split <;> simp
theorem shadeAll_len (xs : Row) : ∀ p : List Col, (shadeAll p xs).length = p.length := by
  induction xs with
  | nil => intro p; rfl
  | cons x xs ih => intro p; show (shadeAll (shade1 p x) xs).length = _; rw [ih, shade1_len]
def Mo.shaded (m : Mo) (xs : Row) : Mo := { m with paint := shadeAll m.paint xs }
def Mo.holding (m : Mo) (r : Nat) (x : Option Nat) : Mo := { m with held := m.held.set r x }
def Mo.storedAt (m : Mo) (x f : Nat) (y : Option Nat) : Mo := { m with rows := m.rows.set x ((m.rows.getD x []).set f y) }
def Mo.reopened (m : Mo) (x : Nat) : Mo := { m with paint := m.paint.set x .g, seen := m.seen.set x [] }
def Mo.grown (m : Mo) (r w : Nat) (c : Col) : Mo := { m with rows := m.rows ++ [List.replicate w none], held := m.held.set r (some m.rows.length), paint := m.paint ++ [c], seen := m.seen ++ [if c = .b then List.range w else []] }
def Mo.withVisited (m : Mo) (x : Nat) (fs : List Nat) : Mo := { m with paint := m.paint.set x (if fs.length = (m.rows.getD x []).length then .b else .g), seen := m.seen.set x fs }
def Mo.inPhase (m : Mo) (p : Ph) : Mo := { m with ph := p }
def Mo.has (m : Mo) (c : Col) : Bool := m.held.any fun o => match o with | none => false | some x => decide (m.paint[x]? = some c)
/-- well formed: w fields an object, n objects -/
structure Mo.Ok (w : Nat) (m : Mo) : Prop where
  paint : m.paint.length = m.rows.length
  seen : m.seen.length = m.rows.length
  wide : ∀ r ∈ m.rows, r.length = w
  fld : ∀ r ∈ m.rows, ∀ o ∈ r, ∀ i, o = some i → i < m.rows.length
  held : ∀ o ∈ m.held, ∀ i, o = some i → i < m.rows.length
  few : m.rows.length ≤ 40
  w4 : w ≤ 4
  w1 : 1 ≤ w
  h1 : 1 ≤ m.held.length
  h6 : m.held.length ≤ 6
  vis : ∀ l ∈ m.seen, l.Nodup ∧ (∀ i ∈ l, i < w)
theorem mem_of_get? {α : Type} {l : List α} {i : Nat} {a : α} (h : l[i]? = some a) : a ∈ l := List.mem_of_getElem? h
end Sg
end T_M0

section T_P2
set_option autoImplicit true
set_option maxRecDepth 100000
set_option maxHeartbeats 4000000
namespace Sg
open PySem L2 Mp
variable {P : Program} {w : World} {K : PySem.W.Frag} {mg : Str → Option Value} {base : Heap}
/-- a method as it stands, fit to be bound too -/
def DefB (K : PySem.W.Frag) (C : Addr) (m qual : Str) (st : Stmt) : Prop := ∃ f fd, BMeth K C m f ∧ Cls K C ∧ FunD K m qual (defArgs st) (defBody st) (defScope st) [] [] f fd
section
variable {X : Cx} {ρ : Slo} {s : Sto} {Φ : D → Sto → Prop} {pos p : Pos} {x : Str} {C : Addr} {a b c d f : D}
theorem fl_stage (M : MomC X.K C) (i : Nat) (h : Φ a s) (hρ : ρ[i]? = some (some (momG C a b c d f)) := by rfl) (hN : X.N[i]? = some x := by rfl) (hv : Vis X.env.scope x := by first | exact Or.inl rfl | exact Or.inr (Or.inl rfl) | exact Or.inr (Or.inr rfl)) (hd : (x == ("__debug__" : Str)) = false := by decide) (hcd : (x == ("__classdict__" : Str)) = false := by decide) (hb : attributeBase (.Name x p) "stage" X.env (eval (.Name x p) X.env) = eval (.Name x p) X.env := by rfl) : EM X ρ s (.Attribute (.Name x p) "stage" pos) Φ :=
  at_stage M (em_var i ⟨_, _, _, _, _, rfl, h⟩ hρ hN hv hd hcd) hb
theorem fl_rows (M : MomC X.K C) (i : Nat) (h : Φ b s) (hρ : ρ[i]? = some (some (momG C a b c d f)) := by rfl) (hN : X.N[i]? = some x := by rfl) (hv : Vis X.env.scope x := by first | exact Or.inl rfl | exact Or.inr (Or.inl rfl) | exact Or.inr (Or.inr rfl)) (hd : (x == ("__debug__" : Str)) = false := by decide) (hcd : (x == ("__classdict__" : Str)) = false := by decide) (hb : attributeBase (.Name x p) "rows" X.env (eval (.Name x p) X.env) = eval (.Name x p) X.env := by rfl) : EM X ρ s (.Attribute (.Name x p) "rows" pos) Φ :=
  at_rows M (em_var i ⟨_, _, _, _, _, rfl, h⟩ hρ hN hv hd hcd) hb
theorem fl_held (M : MomC X.K C) (i : Nat) (h : Φ c s) (hρ : ρ[i]? = some (some (momG C a b c d f)) := by rfl) (hN : X.N[i]? = some x := by rfl) (hv : Vis X.env.scope x := by first | exact Or.inl rfl | exact Or.inr (Or.inl rfl) | exact Or.inr (Or.inr rfl)) (hd : (x == ("__debug__" : Str)) = false := by decide) (hcd : (x == ("__classdict__" : Str)) = false := by decide) (hb : attributeBase (.Name x p) "held" X.env (eval (.Name x p) X.env) = eval (.Name x p) X.env := by rfl) : EM X ρ s (.Attribute (.Name x p) "held" pos) Φ :=
  at_held M (em_var i ⟨_, _, _, _, _, rfl, h⟩ hρ hN hv hd hcd) hb
theorem fl_paint (M : MomC X.K C) (i : Nat) (h : Φ d s) (hρ : ρ[i]? = some (some (momG C a b c d f)) := by rfl) (hN : X.N[i]? = some x := by rfl) (hv : Vis X.env.scope x := by first | exact Or.inl rfl | exact Or.inr (Or.inl rfl) | exact Or.inr (Or.inr rfl)) (hd : (x == ("__debug__" : Str)) = false := by decide) (hcd : (x == ("__classdict__" : Str)) = false := by decide) (hb : attributeBase (.Name x p) "paint" X.env (eval (.Name x p) X.env) = eval (.Name x p) X.env := by rfl) : EM X ρ s (.Attribute (.Name x p) "paint" pos) Φ :=
  at_paint M (em_var i ⟨_, _, _, _, _, rfl, h⟩ hρ hN hv hd hcd) hb
theorem fl_seen (M : MomC X.K C) (i : Nat) (h : Φ f s) (hρ : ρ[i]? = some (some (momG C a b c d f)) := by rfl) (hN : X.N[i]? = some x := by rfl) (hv : Vis X.env.scope x := by first | exact Or.inl rfl | exact Or.inr (Or.inl rfl) | exact Or.inr (Or.inr rfl)) (hd : (x == ("__debug__" : Str)) = false := by decide) (hcd : (x == ("__classdict__" : Str)) = false := by decide) (hb : attributeBase (.Name x p) "seen" X.env (eval (.Name x p) X.env) = eval (.Name x p) X.env := by rfl) : EM X ρ s (.Attribute (.Name x p) "seen" pos) Φ :=
  at_seen M (em_var i ⟨_, _, _, _, _, rfl, h⟩ hρ hN hv hd hcd) hb
end
theorem mk_defB {C : Addr} {m qual : Str} {st : Stmt} (D : DefB K C m qual st) : DefM K C m qual st := by
  obtain ⟨f, fd, b, c, F⟩ := D
  exact ⟨f, fd, b.mt, c, F⟩
/-! ### shaded -/
abbrev sShaded : Stmt := cls 30 2
def wShaded (C : Addr) : WtK := fun ds es s Φ => ∃ (m : Mo) (xs : Row), es = [] ∧ ds = moD C m :: xs.map oD ∧ xs.length ≤ 50 ∧ m.paint.length ≤ 100 ∧ (∀ o ∈ xs, ∀ i, o = some i → i < m.paint.length) ∧ Φ (moD C (m.shaded xs)) s
theorem paint_set (p : List Col) (x : Nat) (c : Col) : D.tup ((p.map colD).set x (colD c)) = paintD (p.set x c) := by
  unfold paintD
  rw [← List.map_set]
theorem paint_at {p : List Col} {i : Nat} {c : Col} (h : p[i]? = some c) : atI (p.map colD) (i : Int) = some (colD c) := by
  refine atI_nat ?_
  rw [List.getElem?_map, h]
  rfl
theorem m_shaded {C : Addr} (T : Tx K mg) (M : MomC K C) (I : MkC P w K mg base "Moment" C 1 (wMinit C)) (G : GFn P w K mg base "put" 1 wPut) (D : DefB K C "shaded" "Moment.shaded" sShaded) : MFnK P w K mg base C "shaded" [] 3 (wShaded C) := by
  obtain ⟨f, fd, bm, cl, F⟩ := D
  refine ⟨cl, f, bm, def_star (N := ["self", "objects", "colors", "x"]) (ps := ["self"]) (ks := []) (pv := "objects") bh_id F ⟨rfl, rfl, rfl, by decide +kernel, rfl, by decide +kernel, by decide +kernel⟩
    (fun kV doc pm an cdv ct us rest ws h1 h2 => match us, ws, rest, h1, h2 with | [_], [], [], _, _ => rfl | [_], [], _ :: _, _, _ => rfl) (fun ds es s Φ h => ?_) fun cdv A outer sh H E hr ds es s Φ h => ?_⟩
  · obtain ⟨m, xs, rfl, rfl, h1, _⟩ := h
    simp
    omega
  · obtain ⟨m, xs, rfl, rfl, hl, hp, hx, k⟩ := h
    have nd : ((["self", "objects", "colors", "x"] : List Str)).Nodup := by decide +kernel
    refine sms_cons (sm_set 2 nd (fl_paint M 0 ?_))
    refine sms_cut (fun ρ' s' => s' = s ∧ ∃ o, ρ' = [some (moD C m), some (.tup (xs.map oD)), some (paintD (shadeAll m.paint xs)), o]) (sm_for (im_tup (em_var 1 ⟨xs.map oD, rfl, ?_⟩))) ?_
    · refine ⟨fun i ρ' s' => s' = s ∧ ∃ o, ρ' = [some (moD C m), some (.tup (xs.map oD)), some (paintD (shadeAll m.paint (xs.take i))), o], ⟨rfl, none, rfl⟩, ?_, ?_⟩
      · rintro i x ρ' s' hi ⟨rfl, o, rfl⟩
        refine ⟨trivial, gm_name 3 nd ?_⟩
        rw [List.getElem?_map, Option.map_eq_some_iff] at hi
        obtain ⟨y, hy, rfl⟩ := hi
        have et : xs.take (i + 1) = xs.take i ++ [y] := by rw [List.take_add_one, hy]; rfl
        have es : shadeAll m.paint (xs.take (i + 1)) = shade1 (shadeAll m.paint (xs.take i)) y := by rw [et]; unfold shadeAll; rw [List.foldl_append]; rfl
        refine sms_cons (sm_if (tm_w (wm_and (tm_cmp (em_var 3 (em_non (v2_notN (asB ?_))))))))
        rw [isNon_oD]
        cases y with
        | none =>
          refine bif_f (bif_f (sms_nil (sms_nil ⟨rfl, some .non, ?_⟩)))
          rw [es]
          rfl
        | some j =>
          refine bif_t (wm_and1 (tm_cmp (em_ix (em_var 2 (em_var 3 ?_)))))
          have hj : j < (shadeAll m.paint (xs.take i)).length := by rw [shadeAll_len]; exact hx _ (mem_of_get? hy) j rfl
          refine vi_tup (paint_at (List.getElem?_eq_getElem hj)) (em_glob T.WHITE (v2_eqS (asB ?_)))
          rw [show ("white" : Str) = Col.w.s from rfl, col_dec]
          refine bif_d (fun hw => sms_cons (sm_set 2 nd (em_call G (hr.mono (by decide)) (am_cons (em_var 2 (am_cons (em_var 3 (am_cons (em_glob T.GREY (am_nil ⟨_, j, _, rfl, by rw [List.length_map]; exact hj, by rw [List.length_map, shadeAll_len]; exact hp, sms_nil (sms_nil ⟨rfl, some (.int j), ?_⟩)⟩)))))))))) fun hw => sms_nil (sms_nil ⟨rfl, some (.int j), ?_⟩)
          · rw [es]
            have e2 : shade1 (shadeAll m.paint (xs.take i)) (some j) = (shadeAll m.paint (xs.take i)).set j .g := if_pos (by rw [List.getElem?_eq_getElem hj, hw])
            rw [e2, ← paint_set]
            rfl
          · rw [es]
            have e2 : shade1 (shadeAll m.paint (xs.take i)) (some j) = (shadeAll m.paint (xs.take i)) := if_neg (by rw [List.getElem?_eq_getElem hj]; exact fun z => hw (Option.some.inj z))
            rw [e2]
            rfl
      · rintro ρ' s' ⟨rfl, o, rfl⟩
        rw [List.length_map, List.take_length]
        exact ⟨trivial, rfl, o, rfl⟩
    · rintro ρ' s' ⟨rfl, o, rfl⟩
      refine sms_cons (sm_ret (em_mom I (hr.mono (by decide)) (am_cons (fl_stage M 0 (am_cons (fl_rows M 0 (am_cons (fl_held M 0 (am_cons (em_var 2 (am_cons (fl_seen M 0 (am_nil ⟨_, _, _, _, _, rfl, ?_⟩)))))))))))))
      exact k
end Sg
end T_P2

section T_P3
set_option autoImplicit true
set_option maxRecDepth 100000
set_option maxHeartbeats 4000000
namespace Sg
open PySem L2 Mp
variable {P : Program} {w : World} {K : PySem.W.Frag} {mg : Str → Option Value} {base : Heap}
def blkB (N : List Str) (sc scope : Scope) (own : List (Str × Nat)) : Bool :=
  (match scope.kind with | .function => true | _ => false) && scope.names.all (fun y => decide (scope.names.lookup y.1 = some y.2)) && own.all (fun p => decide (N[p.2]? = some p.1)) &&
  scope.names.all (fun y => !decide (y.2 = .free) || decide (sc.names.lookup y.1 = some .cell) || decide (sc.names.lookup y.1 = some .free)) &&
  scope.names.all (fun y => !(decide (y.2 = .local) || decide (y.2 = .cell)) || (own.map (·.1)).contains y.1 || !N.contains y.1)
theorem blk_ok {N : List Str} {sc scope : Scope} {own : List (Str × Nat)} (h : blkB N sc scope own = true) : BlkOk N sc scope own := by
  unfold blkB at h
  simp only [Bool.and_eq_true, List.all_eq_true, Bool.or_eq_true, decide_eq_true_eq, Bool.not_eq_true', List.contains_iff_mem, decide_eq_false_iff_not, Bool.or_eq_false_iff] at h
  obtain ⟨⟨⟨⟨h1, h2⟩, h3⟩, h4⟩, h5⟩ := h
  refine ⟨?_, h2, h3, fun y hy e => ?_, fun y hy e => ?_⟩
  · cases hk : scope.kind <;> rw [hk] at h1 <;> first | rfl | cases h1
  · rcases h4 y hy with (z | z) | z
    · exact absurd e z
    · exact .inl z
    · exact .inr z
  · rcases h5 y hy with (z | z) | z
    · exact absurd e (not_or.mpr z)
    · exact .inl z
    · exact .inr (by simpa using z)
abbrev sReopened : Stmt := cls 30 3
abbrev sStored : Stmt := cls 30 5
abbrev sGrown : Stmt := cls 30 6
abbrev sWithVisited : Stmt := cls 30 7
abbrev sHave : Stmt := cls 30 8
def wReopened (C : Addr) : Wt := fun ds s Φ => ∃ (m : Mo) (x : Nat), ds = [moD C m, .int x] ∧ x < m.paint.length ∧ m.paint.length ≤ 100 ∧ x < m.seen.length ∧ m.seen.length ≤ 100 ∧ Φ (moD C (m.reopened x)) s
theorem seen_set (p : List (List Nat)) (x : Nat) (c : List Nat) : D.tup ((p.map natsD).set x (natsD c)) = seenD (p.set x c) := by
  unfold seenD
  rw [← List.map_set]
theorem m_reopened {C : Addr} (T : Tx K mg) (M : MomC K C) (I : MkC P w K mg base "Moment" C 1 (wMinit C)) (G : GFn P w K mg base "put" 1 wPut) (Df : DefM K C "reopened" "Moment.reopened" sReopened) : MFn P w K mg base C "reopened" 3 (wReopened C) := by
  refine mkM (N := ["self", "x", "colors", "visited"]) (ps := ["self", "x"]) Df ⟨rfl, rfl, rfl, by decide +kernel, rfl, by decide +kernel, by decide +kernel⟩ (fun _ _ _ _ _ _ us hl => match us, hl with | [_, _], _ => rfl) (fun ds s Φ h => ?_) fun f cdv A outer sh H E hr ds s Φ h => ?_
  · obtain ⟨_, _, rfl, _⟩ := h
    rfl
  · obtain ⟨m, x, rfl, h1, h2, h3, h4, k⟩ := h
    have nd : (["self", "x", "colors", "visited"] : List Str).Nodup := by decide +kernel
    have hr1 := hr.mono (show 1 ≤ 2 by decide)
    refine sms_cons (sm_par 2 3 nd (am_cons (em_call G hr1 (am_cons (fl_paint M 0 (am_cons (em_var 1 (am_cons (em_glob T.GREY (am_nil ⟨m.paint.map colD, x, _, rfl, by rw [List.length_map]; exact h1, by rw [List.length_map]; exact h2, ?_⟩)))))))) ) (by decide) rfl)
    refine am_cons (em_call G hr1 (am_cons (fl_seen M 0 (am_cons (em_var 1 (am_cons (em_tup (am_nil ⟨Nat.le_of_ble_eq_true rfl, am_nil ⟨m.seen.map natsD, x, _, rfl, by rw [List.length_map]; exact h3, by rw [List.length_map]; exact h4, ?_⟩⟩))))))))
    refine am_nil ⟨_, _, rfl, ?_⟩
    refine sms_cons (sm_ret (em_mom I hr (am_cons (fl_stage M 0 (am_cons (fl_rows M 0 (am_cons (fl_held M 0 (am_cons (em_var 2 (am_cons (em_var 3 (am_nil ⟨_, _, _, _, _, rfl, ?_⟩)))))))))))))
    have e1 := paint_set m.paint x .g
    have e2 := seen_set m.seen x []
    have e : moD C (m.reopened x) = momG C (.str m.ph.s) (rowsD m.rows) (rowD m.held) (D.tup ((m.paint.map colD).set x (colD .g))) (D.tup ((m.seen.map natsD).set x (natsD []))) := by rw [e1, e2]; rfl
    rw [e] at k
    exact k
def wStored (C : Addr) : Wt := fun ds s Φ => ∃ (m : Mo) (x f : Nat) (y : Option Nat) (r : Row), ds = [moD C m, .int x, .int f, oD y] ∧ m.rows[x]? = some r ∧ f < r.length ∧ m.rows.length ≤ 100 ∧ r.length ≤ 100 ∧ Φ (moD C (m.storedAt x f y)) s
theorem row_set (r : Row) (f : Nat) (y : Option Nat) : D.tup ((r.map oD).set f (oD y)) = rowD (r.set f y) := by
  unfold rowD
  rw [← List.map_set]
theorem rows_set (p : List Row) (x : Nat) (c : Row) : D.tup ((p.map rowD).set x (rowD c)) = rowsD (p.set x c) := by
  unfold rowsD
  rw [← List.map_set]
theorem rows_at {p : List Row} {i : Nat} {c : Row} (h : p[i]? = some c) : atI (p.map rowD) (i : Int) = some (rowD c) := by
  refine atI_nat ?_
  rw [List.getElem?_map, h]
  rfl
theorem row_at {p : Row} {i : Nat} {c : Option Nat} (h : p[i]? = some c) : atI (p.map oD) (i : Int) = some (oD c) := by
  refine atI_nat ?_
  rw [List.getElem?_map, h]
  rfl
theorem seen_at {p : List (List Nat)} {i : Nat} {c : List Nat} (h : p[i]? = some c) : atI (p.map natsD) (i : Int) = some (natsD c) := by
  refine atI_nat ?_
  rw [List.getElem?_map, h]
  rfl
theorem getD_of {α : Type} {l : List α} {i : Nat} {a d : α} (h : l[i]? = some a) : l.getD i d = a := by
  rw [List.getD_eq_getElem?_getD, h]
  rfl
theorem m_stored {C : Addr} (T : Tx K mg) (M : MomC K C) (I : MkC P w K mg base "Moment" C 1 (wMinit C)) (G : GFn P w K mg base "put" 1 wPut) (Df : DefM K C "stored" "Moment.stored" sStored) : MFn P w K mg base C "stored" 3 (wStored C) := by
  refine mkM (N := ["self", "x", "f", "y", "objects"]) (ps := ["self", "x", "f", "y"]) Df ⟨rfl, rfl, rfl, by decide +kernel, rfl, by decide +kernel, by decide +kernel⟩ (fun _ _ _ _ _ _ us hl => match us, hl with | [_, _, _, _], _ => rfl) (fun ds s Φ h => ?_) fun f cdv A outer sh H E hr ds s Φ h => ?_
  · obtain ⟨_, _, _, _, _, rfl, _⟩ := h
    rfl
  · obtain ⟨m, x, f, y, r, rfl, h1, h2, h3, h4, k⟩ := h
    have nd : (["self", "x", "f", "y", "objects"] : List Str).Nodup := by decide +kernel
    have hr1 := hr.mono (show 1 ≤ 2 by decide)
    have hx := (List.getElem?_eq_some_iff.mp h1).1
    refine sms_cons (sm_set 4 nd (em_call G hr1 (am_cons (fl_rows M 0 (am_cons (em_var 1 ?_))))))
    refine am_cons (em_call G hr1 (am_cons (em_ix (fl_rows M 0 (em_var 1 (vi_tup (rows_at h1) (am_cons (em_var 2 (am_cons (em_var 3 (am_nil ⟨r.map oD, f, _, rfl, by rw [List.length_map]; exact h2, by rw [List.length_map]; exact h4, am_nil ⟨m.rows.map rowD, x, _, rfl, by rw [List.length_map]; exact hx, by rw [List.length_map]; exact h3, ?_⟩⟩)))))))))))
    refine sms_cons (sm_ret (em_mom I hr (am_cons (fl_stage M 0 (am_cons (em_var 4 (am_cons (fl_held M 0 (am_cons (fl_paint M 0 (am_cons (fl_seen M 0 (am_nil ⟨_, _, _, _, _, rfl, ?_⟩)))))))))))))
    have e : moD C (m.storedAt x f y) = momG C (.str m.ph.s) (D.tup ((m.rows.map rowD).set x (D.tup ((r.map oD).set f (oD y))))) (rowD m.held) (paintD m.paint) (seenD m.seen) := by
      rw [row_set, rows_set]
      unfold Mo.storedAt moD
      rw [getD_of h1]
    rw [e] at k
    exact k
def wGrown (C : Addr) : Wt := fun ds s Φ => ∃ (m : Mo) (r wd : Nat) (c : Col), ds = [moD C m, .int r, .int wd, colD c] ∧ r < m.held.length ∧ m.held.length ≤ 100 ∧ wd ≤ 100 ∧ m.rows.length ≤ 100 ∧ m.paint.length ≤ 100 ∧ m.seen.length ≤ 100 ∧ Φ (moD C (m.grown r wd c)) s
theorem nats_range (n : Nat) : D.tup (intsD n) = natsD (List.range n) := rfl
theorem m_grown {C : Addr} (T : Tx K mg) (M : MomC K C) (I : MkC P w K mg base "Moment" C 1 (wMinit C)) (G : GFn P w K mg base "put" 1 wPut) (Df : DefM K C "grown" "Moment.grown" sGrown) : MFn P w K mg base C "grown" 3 (wGrown C) := by
  refine mkM (N := ["self", "r", "width", "color", "seen", "objects", "registers"]) (ps := ["self", "r", "width", "color"]) Df ⟨rfl, rfl, rfl, by decide +kernel, rfl, by decide +kernel, by decide +kernel⟩ (fun _ _ _ _ _ _ us hl => match us, hl with | [_, _, _, _], _ => rfl) (fun ds s Φ h => ?_) fun f cdv A outer sh H E hr ds s Φ h => ?_
  · obtain ⟨_, _, _, _, rfl, _⟩ := h
    rfl
  · obtain ⟨m, r, wd, c, rfl, h1, h2, h3, h4, h5, h6, k⟩ := h
    have nd : (["self", "r", "width", "color", "seen", "objects", "registers"] : List Str).Nodup := by decide +kernel
    have hr1 := hr.mono (show 1 ≤ 2 by decide)
    refine sms_cut (fun ρ' s' => s' = s ∧ ρ' = [some (moD C m), some (.int r), some (.int wd), some (colD c), some (natsD (if c = .b then List.range wd else [])), none, none]) (sm_set 4 nd (em_if (tm_cmp (em_var 3 (em_glob T.BLACK (v2_eqS (asB ?_))))))) ?_
    · rw [show ("black" : Str) = Col.b.s from rfl, col_dec]
      refine bif_d (fun e => em_tupRg T.tuple T.range (em_var 2 ⟨wd, rfl, by omega, ?_⟩)) fun e => em_tup (am_nil ⟨Nat.le_of_ble_eq_true rfl, ?_⟩)
      · rw [if_pos e]; exact ⟨rfl, rfl⟩
      · rw [if_neg e]; exact ⟨rfl, rfl⟩
    · rintro ρ' s' ⟨rfl, rfl⟩
      refine sms_cons (sm_set 5 nd (em_bin (fl_rows M 0 (em_tup (am_cons (em_bin (em_tup (am_cons (em_non (am_nil ⟨Nat.le_of_ble_eq_true rfl, em_var 2 (v2_mulT (n := (wd : Int)) (by omega) (by omega) (am_nil ⟨Nat.le_of_ble_eq_true rfl, v2_addT (xs := m.rows.map rowD) (ys := [D.tup (List.replicate (wd : Int).toNat D.non)]) (by rw [List.length_map]; simp; omega) ?_⟩))⟩))))))))))
      refine sms_cons (sm_set 6 nd (em_call G hr1 (am_cons (fl_held M 0 (am_cons (em_var 1 (am_cons (em_callB T.len (am_cons (fl_rows M 0 (am_nil (vc_lenT (am_nil ⟨m.held.map oD, r, _, rfl, by rw [List.length_map]; exact h1, by rw [List.length_map]; exact h2, ?_⟩)))))))))))))
      refine sms_cons (sm_ret (em_mom I hr (am_cons (fl_stage M 0 (am_cons (em_var 5 (am_cons (em_var 6 (am_cons (em_bin (fl_paint M 0 (em_tup (am_cons (em_var 3 (am_nil ⟨Nat.le_of_ble_eq_true rfl, v2_addT (xs := m.paint.map colD) (ys := [colD c]) (by rw [List.length_map]; simp; omega) ?_⟩)))))))))))))))
      refine am_cons (em_bin (fl_seen M 0 (em_tup (am_cons (em_var 4 (am_nil ⟨Nat.le_of_ble_eq_true rfl, v2_addT (xs := m.seen.map natsD) (ys := [natsD (if c = .b then List.range wd else [])]) (by rw [List.length_map]; simp; omega) (am_nil ⟨_, _, _, _, _, rfl, ?_⟩)⟩))))))
      have e : moD C (m.grown r wd c) = momG C (.str m.ph.s) (D.tup (m.rows.map rowD ++ [D.tup (List.replicate (wd : Int).toNat D.non)])) (D.tup ((m.held.map oD).set r (.int ((m.rows.map rowD).length : Int)))) (D.tup (m.paint.map colD ++ [colD c])) (D.tup (m.seen.map natsD ++ [natsD (if c = .b then List.range wd else [])])) := by
        unfold Mo.grown moD rowsD paintD seenD rowD
        rw [List.map_append, List.map_append, List.map_append, List.map_set, List.length_map, Int.toNat_natCast]
        simp only [List.map_cons, List.map_nil, List.map_replicate, oD]
      rw [e] at k
      exact k
def wWithVisited (C : Addr) : Wt := fun ds s Φ => ∃ (m : Mo) (x : Nat) (fs : List Nat) (r : Row), ds = [moD C m, .int x, natsD fs] ∧ m.rows[x]? = some r ∧ x < m.paint.length ∧ m.paint.length ≤ 100 ∧ x < m.seen.length ∧ m.seen.length ≤ 100 ∧ Φ (moD C (m.withVisited x fs)) s
theorem m_visited {C : Addr} (T : Tx K mg) (M : MomC K C) (I : MkC P w K mg base "Moment" C 1 (wMinit C)) (G : GFn P w K mg base "put" 1 wPut) (Df : DefM K C "with_visited" "Moment.with_visited" sWithVisited) : MFn P w K mg base C "with_visited" 3 (wWithVisited C) := by
  refine mkM (N := ["self", "x", "fields", "color", "colors", "visited"]) (ps := ["self", "x", "fields"]) Df ⟨rfl, rfl, rfl, by decide +kernel, rfl, by decide +kernel, by decide +kernel⟩ (fun _ _ _ _ _ _ us hl => match us, hl with | [_, _, _], _ => rfl) (fun ds s Φ h => ?_) fun f cdv A outer sh H E hr ds s Φ h => ?_
  · obtain ⟨_, _, _, _, rfl, _⟩ := h
    rfl
  · obtain ⟨m, x, fs, r, rfl, h0, h1, h2, h3, h4, k⟩ := h
    have nd : (["self", "x", "fields", "color", "colors", "visited"] : List Str).Nodup := by decide +kernel
    have hr1 := hr.mono (show 1 ≤ 2 by decide)
    refine sms_cut (fun ρ' s' => s' = s ∧ ρ' = [some (moD C m), some (.int x), some (natsD fs), some (colD (if fs.length = r.length then .b else .g)), none, none]) (sm_set 3 nd (em_if (tm_cmp (em_callB T.len (am_cons (em_var 2 (am_nil (vc_lenT ?_)))))))) ?_
    · refine em_callB T.len (am_cons (em_ix (fl_rows M 0 (em_var 1 (vi_tup (rows_at h0) (am_nil (vc_lenT (v2_eqI (asB ?_)))))))))
      rw [List.length_map, List.length_map]
      refine bif_d (fun e => em_glob T.BLACK ⟨rfl, ?_⟩) fun e => em_glob T.GREY ⟨rfl, ?_⟩
      · rw [if_pos (Int.ofNat.inj e)]; rfl
      · rw [if_neg (fun z => e (by rw [z]))]; rfl
    · rintro ρ' s' ⟨rfl, rfl⟩
      refine sms_cons (sm_par 4 5 nd (am_cons (em_call G hr1 (am_cons (fl_paint M 0 (am_cons (em_var 1 (am_cons (em_var 3 (am_nil ⟨m.paint.map colD, x, _, rfl, by rw [List.length_map]; exact h1, by rw [List.length_map]; exact h2, ?_⟩)))))))) ) (by decide) rfl)
      refine am_cons (em_call G hr1 (am_cons (fl_seen M 0 (am_cons (em_var 1 (am_cons (em_var 2 (am_nil ⟨m.seen.map natsD, x, _, rfl, by rw [List.length_map]; exact h3, by rw [List.length_map]; exact h4, am_nil ⟨_, _, rfl, ?_⟩⟩))))))))
      refine sms_cons (sm_ret (em_mom I hr (am_cons (fl_stage M 0 (am_cons (fl_rows M 0 (am_cons (fl_held M 0 (am_cons (em_var 4 (am_cons (em_var 5 (am_nil ⟨_, _, _, _, _, rfl, ?_⟩)))))))))))))
      have e : moD C (m.withVisited x fs) = momG C (.str m.ph.s) (rowsD m.rows) (rowD m.held) (D.tup ((m.paint.map colD).set x (colD (if fs.length = r.length then .b else .g)))) (D.tup ((m.seen.map natsD).set x (natsD fs))) := by
        rw [paint_set, seen_set]
        unfold Mo.withVisited moD
        rw [getD_of h0]
      rw [e] at k
      exact k
def wHave (C : Addr) : Wt := fun ds s Φ => ∃ (m : Mo) (c : Col), ds = [moD C m, colD c] ∧ (∀ o ∈ m.held, ∀ i, o = some i → i < m.paint.length) ∧ m.held.length ≤ 100 ∧ Φ (.bl (m.has c)) s
theorem m_have {C : Addr} (T : Tx K mg) (M : MomC K C) (Df : DefM K C "registers_have" "Moment.registers_have" sHave) : MFn P w K mg base C "registers_have" 3 (wHave C) := by
  refine mkM (N := ["self", "color", "x"]) (ps := ["self", "color"]) Df ⟨rfl, rfl, rfl, by decide +kernel, rfl, by decide +kernel, by decide +kernel⟩ (fun _ _ _ _ _ _ us hl => match us, hl with | [_, _], _ => rfl) (fun ds s Φ h => ?_) fun f cdv A outer sh H E hr ds s Φ h => ?_
  · obtain ⟨_, _, rfl, _⟩ := h
    rfl
  · obtain ⟨m, c, rfl, h1, h2, k⟩ := h
    have nd : (["self", "color", "x"] : List Str).Nodup := by decide +kernel
    refine sms_cons (sm_ret (em_callB (id := "any") T.any (am_cons (em_lcP (own := [("x", 2)]) (.one 2) nd (blk_ok rfl) (im_tup (fl_held M 0 ⟨m.held.map oD, rfl, fun _ => true, fun d => .bl (match d with | .int i => decide (m.paint[i.toNat]? = some c) | _ => false), fun _ => trivial, by rw [List.length_map]; omega, ?_, fun _ _ _ => trivial, ?_⟩)) (tg_one 2 nd)))))
    · intro d hd
      obtain ⟨o, ho, rfl⟩ := List.mem_map.mp hd
      refine ⟨_, rfl, fun s' mm es => ⟨rfl, rfl, fun _ sh' H' C' cl fp => ?_⟩⟩
      refine em_and (em_cmp (em_var 2 (em_non (v2_notN (asB ?_)))))
      rw [isNon_oD]
      cases o with
      | none => exact bif_f ⟨rfl, rfl⟩
      | some i =>
        have hi := h1 _ ho i rfl
        refine bif_t (em_one (em_cmp (em_ix (fl_paint M 0 (em_var 2 (vi_tup (paint_at (List.getElem?_eq_getElem hi)) (em_var 1 (v2_eqS ⟨?_, rfl⟩))))))))
        rw [col_dec]
        show D.bl _ = D.bl (decide (m.paint[(i : Int).toNat]? = some c))
        rw [Int.toNat_natCast, List.getElem?_eq_getElem hi]
        simp
    · refine am_nil (vc_any rfl (.lst _) (bs := m.held.map fun o => match o with | none => false | some x => decide (m.paint[x]? = some c)) ?_ ?_)
      · unfold blsD
        rw [List.filter_eq_self.mpr fun _ _ => rfl, List.map_map, List.map_map]
        refine List.map_congr_left fun o _ => ?_
        cases o <;> rfl
      · unfold Mo.has at k
        rw [List.any_map]
        exact k
end Sg
end T_P3

section T_P4
set_option autoImplicit true
set_option maxRecDepth 100000
set_option maxHeartbeats 4000000
namespace Sg
open PySem L2 Mp
variable {P : Program} {w : World} {K : PySem.W.Frag} {mg : Str → Option Value} {base : Heap}
abbrev sFirst : Stmt := top 31
abbrev sGreyed : Stmt := top 32
abbrev sReach : Stmt := top 34
abbrev sReachable : Stmt := top 35
abbrev sHeap : Stmt := top 20
def firstMo (rows : List Row) (held : Row) : Mo := ⟨.ready, rows, held, List.replicate rows.length .w, List.replicate rows.length []⟩
theorem g_first {C : Addr} (T : Tx K mg) (I : MkC P w K mg base "Moment" C 1 (wMinit C)) (Df : DefG K mg "first_moment" sFirst) : GFn P w K mg base "first_moment" 3 fun ds s Φ => ∃ (wd : Nat) (rows : List Row) (held : Row), ds = [heapD wd rows, rowD held] ∧ rows.length ≤ 100 ∧ Φ (moD C (firstMo rows held)) s := by
  refine mkG (N := ["heap", "registers", "objects"]) (ps := ["heap", "registers"]) Df ⟨rfl, rfl, rfl, by decide +kernel, rfl, by decide +kernel, by decide +kernel⟩ (fun _ _ _ _ _ _ us hl => match us, hl with | [_, _], _ => rfl) (fun ds s Φ h => ?_) fun f cdv A outer sh H E hr ds s Φ h => ?_
  · obtain ⟨_, _, _, rfl, _⟩ := h
    rfl
  · obtain ⟨wd, rows, held, rfl, hl, k⟩ := h
    have nd : (["heap", "registers", "objects"] : List Str).Nodup := by decide +kernel
    refine sms_cons (sm_set 2 nd (em_ix (em_var 0 (em_int (vi_tup (d := rowsD rows) rfl ?_)))))
    refine sms_cons (sm_ret (em_mom I hr (am_cons (em_glob T.READY (am_cons (em_var 2 (am_cons (em_var 1 ?_)))))))) 
    refine am_cons (em_bin (em_tup (am_cons (em_glob T.WHITE (am_nil ⟨Nat.le_of_ble_eq_true rfl, em_callB T.len (am_cons (em_var 2 (am_nil (vc_lenT ?_))))⟩)))))
    rw [List.length_map]
    refine v2_mulT (n := (rows.length : Int)) (by omega) (by omega) ?_
    refine am_cons (em_bin (em_tup (am_cons (em_tup (am_nil ⟨Nat.le_of_ble_eq_true rfl, am_nil ⟨Nat.le_of_ble_eq_true rfl, em_callB T.len (am_cons (em_var 2 (am_nil (vc_lenT ?_))))⟩⟩)))))
    rw [List.length_map]
    refine v2_mulT (n := (rows.length : Int)) (by omega) (by omega) (am_nil ⟨_, _, _, _, _, rfl, ?_⟩)
    have e : moD C (firstMo rows held) = momG C (.str "ready") (rowsD rows) (rowD held) (D.tup (List.replicate (rows.length : Int).toNat (D.str "white"))) (D.tup (List.replicate (rows.length : Int).toNat (D.tup []))) := by
      unfold moD firstMo paintD seenD
      rw [Int.toNat_natCast, List.map_replicate, List.map_replicate]
      rfl
    rw [e] at k
    exact k
def ixOf : D → Nat
  | .tup (.int i :: _) => i.toNat
  | _ => 0
theorem zip_at {p q : List Col} {i : Nat} {d : D} (h : (zipD (p.map colD) (q.map colD))[i]? = some d) : ∃ a b : Col, d = .tup [colD a, colD b] := by
  unfold zipD at h
  rw [List.getElem?_zipWith] at h
  cases e1 : (p.map colD)[i]? with
  | none => rw [e1] at h; cases h
  | some x =>
    cases e2 : (q.map colD)[i]? with
    | none => rw [e1, e2] at h; cases h
    | some y =>
      rw [e1, e2] at h
      cases h
      rw [List.getElem?_map, Option.map_eq_some_iff] at e1 e2
      obtain ⟨a, _, rfl⟩ := e1
      obtain ⟨b, _, rfl⟩ := e2
      exact ⟨a, b, rfl⟩
theorem g_greyed {C : Addr} (T : Tx K mg) (M : MomC K C) (Df : DefG K mg "greyed" sGreyed) : GFn P w K mg base "greyed" 3 fun ds s Φ => ∃ (a b : Mo), ds = [moD C a, moD C b] ∧ a.paint.length ≤ b.paint.length ∧ a.paint.length ≤ 100 ∧ ∀ l : List Nat, Φ (natsD l) s := by
  refine mkG (N := ["before", "after", "pairs", "x", "one", "other"]) (ps := ["before", "after"]) Df ⟨rfl, rfl, rfl, by decide +kernel, rfl, by decide +kernel, by decide +kernel⟩ (fun _ _ _ _ _ _ us hl => match us, hl with | [_, _], _ => rfl) (fun ds s Φ h => ?_) fun f cdv A outer sh H E hr ds s Φ h => ?_
  · obtain ⟨_, _, rfl, _⟩ := h
    rfl
  · obtain ⟨a, b, rfl, hl, hn, k⟩ := h
    have nd : (["before", "after", "pairs", "x", "one", "other"] : List Str).Nodup := by decide +kernel
    refine sms_cons (sm_set 2 nd (em_listZip T.list T.zip (am_cons (fl_paint M 0 (am_cons (fl_paint M 1 (am_nil ⟨a.paint.map colD, b.paint.map colD, rfl, by rw [List.length_map, List.length_map]; exact hl, by rw [List.length_map]; omega, ?_⟩)))))))
    refine sms_cons (sm_ret (em_callTy (T := "tuple") T.tuple (am_cons (em_lcP (own := [("x", 3), ("one", 4), ("other", 5)]) (.nest 3 4 5) nd (blk_ok rfl) (im_enumL T.enumerate (em_var 2 ⟨_, .lst _, fun d => match d with | .tup [_, .tup [x, y]] => (match x, y with | .str x, .str y => decide (y = "grey") && !decide (x = "grey") | _, _ => false) | _ => false, fun d => natD (ixOf d), fun _ => .lst _, ?_, ?_, fun _ _ _ => trivial, am_nil (vc_tupL (.lst _) ?_)⟩)) (tg_nest 3 4 5 nd)))))
    · rw [enumD_len]
      unfold zipD
      rw [List.length_zipWith, List.length_map, List.length_map]
      omega
    · intro d hd
      obtain ⟨i, hi⟩ := List.mem_iff_getElem?.mp hd
      have hil : i < (zipD (a.paint.map colD) (b.paint.map colD)).length := by
        have := (List.getElem?_eq_some_iff.mp hi).1
        rwa [enumD_len] at this
      rw [enumD_at (List.getElem?_eq_getElem hil)] at hi
      cases hi
      obtain ⟨x, y, e⟩ := zip_at (List.getElem?_eq_getElem hil)
      rw [e]
      refine ⟨_, rfl, fun s' mm es sh' H' C' cl fp => ?_⟩
      refine tm_w (wm_and (tm_cmp (em_var 5 (em_glob T.GREY (v2_eqS (asB ⟨fun h1 => wm_and1 (tm_cmp (em_var 4 (em_glob T.GREY (v2_neS (asB ⟨?_, rfl, fun _ sh2 H2 C2 cl2 fp2 => em_var 3 ⟨?_, rfl⟩⟩))))), fun h1 => ⟨?_, rfl, fun z => nomatch z⟩⟩))))))
      · show _ = (decide (y.s = "grey") && !decide (x.s = "grey"))
        rw [h1]
        rfl
      · show D.int _ = D.int ((i : Int).toNat : Nat)
        rw [Int.toNat_natCast]
      · show _ = (decide (y.s = "grey") && !decide (x.s = "grey"))
        rw [h1]
        rfl
    · have := k (((enumD (zipD (a.paint.map colD) (b.paint.map colD))).filter fun d => match d with | .tup [_, .tup [x, y]] => (match x, y with | .str x, .str y => decide (y = "grey") && !decide (x = "grey") | _, _ => false) | _ => false).map ixOf)
      unfold natsD at this
      rw [List.map_map] at this
      exact this
end Sg
end T_P4

section T_P5
set_option autoImplicit true
set_option maxRecDepth 100000
set_option maxHeartbeats 4000000
namespace Sg
open PySem L2 Mp
variable {P : Program} {w : World} {K : PySem.W.Frag} {mg : Str → Option Value} {base : Heap}
theorem bif_F {b : Bool} {A B : Prop} (h : B) (e : b = false := by rfl) : Bif b A B := by rw [e]; exact bif_f h
theorem bif_T {b : Bool} {A B : Prop} (h : A) (e : b = true := by rfl) : Bif b A B := by rw [e]; exact bif_t h
/-- a good net -/
structure NetOk (wd : Nat) (rows : List Row) : Prop where
  w1 : 1 ≤ wd
  w4 : wd ≤ 4
  few : rows.length ≤ 40
  wide : ∀ r ∈ rows, r.length = wd
  fld : ∀ r ∈ rows, ∀ o ∈ r, ∀ i, o = some i → i < rows.length
theorem g_heap (T : Tx K mg) (G1 : GFn P w K mg base "is_between" 1 wBetween) (G2 : GFn P w K mg base "is_held" 2 fun ds s Φ => ∃ (o : Option Nat) (n : Nat), ds = [oD o, .int n] ∧ (∀ i, o = some i → i < n) ∧ Φ (.bl true) s) (Df : DefG K mg "is_heap" sHeap) :
    GFn P w K mg base "is_heap" 3 fun ds s Φ => ∃ (wd : Nat) (rows : List Row), ds = [heapD wd rows] ∧ NetOk wd rows ∧ Φ (.bl true) s := by
  refine mkG (N := ["thing", "width", "objects", "fields", "field"]) (ps := ["thing"]) Df ⟨rfl, rfl, rfl, by decide +kernel, rfl, by decide +kernel, by decide +kernel⟩ (fun _ _ _ _ _ _ us hl => match us, hl with | [_], _ => rfl) (fun ds s Φ h => ?_) fun f cdv A outer sh H E hr ds s Φ h => ?_
  · obtain ⟨_, _, rfl, _⟩ := h
    rfl
  · obtain ⟨wd, rows, rfl, ok, k⟩ := h
    have nd : (["thing", "width", "objects", "fields", "field"] : List Str).Nodup := by decide +kernel
    refine sms_cons (sm_if (tm_w (wm_or (tm_not (tm_val (em_callB (id := "isinstance") T.isinstance (am_cons (em_var 0 (am_cons (em_bty (n := "tuple") T.tuple (am_nil (vc_isi (heapD wd rows) "tuple" "tuple" true (asB (bif_f (wm_or ?_)))))))))))))))
    refine tm_cmp (em_callB T.len (am_cons (em_var 0 (am_nil (vc_lenT (ds := [.int wd, rowsD rows]) (em_int (v2_neI (asB (bif_F (wm_or1 (tm_not (tm_val (em_call G1 (hr.mono (by decide)) ?_)))))))))))))
    refine am_cons (em_ix (em_var 0 (em_int (vi_tup (d := .int wd) rfl (am_cons (em_glob T.LEAST_WIDTH (am_cons (em_glob T.MOST_WIDTH (am_nil ⟨wd, 1, 4, rfl, ?_⟩)))))))))
    rw [decide_eq_true (show (1 : Int) ≤ wd ∧ (wd : Int) ≤ 4 from ⟨by have := ok.w1; omega, by have := ok.w4; omega⟩)]
    refine asB (bif_f (sms_nil (sms_cons (sm_asg (em_var 0 (gm_tup (n := 2) (gms_cons (gm_name 1 nd (gms_cons (gm_name 2 nd (gms_nil ?_))))) rfl))))))
    refine sms_cons (sm_if (tm_w (wm_or (tm_not (tm_val (em_callB (id := "isinstance") T.isinstance (am_cons (em_var 2 (am_cons (em_bty (n := "tuple") T.tuple (am_nil (vc_isi (rowsD rows) "tuple" "tuple" true (asB (bif_f (wm_or1 ?_)))))))))))))))
    refine tm_cmp (em_callB T.len (am_cons (em_var 2 (am_nil (vc_lenT (em_glob T.MOST_OBJECTS (v2_gt (asB (bif_df ?_ (sms_nil ?_))))))))))
    · rw [List.length_map]
      have := ok.few
      omega
    refine sms_cut (fun ρ' s' => s' = s) (sm_for (im_tup (em_var 2 ⟨rows.map rowD, rfl, ?_⟩))) ?_
    · refine ⟨fun i ρ' s' => s' = s ∧ ∃ o p, ρ' = [some (heapD wd rows), some (.int wd), some (rowsD rows), o, p], ⟨rfl, none, none, rfl⟩, ?_, ?_⟩
      · rintro i x ρ' s' hi ⟨rfl, o, p, rfl⟩
        refine ⟨trivial, gm_name 3 nd ?_⟩
        rw [List.getElem?_map, Option.map_eq_some_iff] at hi
        obtain ⟨r, hr', rfl⟩ := hi
        have hm := mem_of_get? hr'
        refine sms_cons (sm_if (tm_w (wm_or (tm_not (tm_val (em_callB (id := "isinstance") T.isinstance (am_cons (em_var 3 (am_cons (em_bty (n := "tuple") T.tuple (am_nil (vc_isi (rowD r) "tuple" "tuple" true (asB (bif_f (wm_or1 ?_)))))))))))))))
        refine tm_cmp (em_callB T.len (am_cons (em_var 3 (am_nil (vc_lenT (em_var 1 (v2_neI (asB ?_))))))))
        rw [List.length_map, ok.wide r hm]
        refine bif_nd (fun z => absurd rfl z) fun _ => sms_nil ?_
        refine sms_cons (sm_if (tm_not (tm_val (em_callB (id := "all") T.all (am_cons (em_lcP (own := [("field", 4)]) (.one 4) nd (blk_ok rfl) (im_tup (em_var 3 ⟨r.map oD, rfl, fun _ => true, fun _ => .bl true, fun _ => trivial, ?_, ?_, fun _ _ _ => trivial, ?_⟩)) (tg_one 4 nd)))))))
        · rw [List.length_map, ok.wide r hm]
          have := ok.w4
          omega
        · intro d hd
          obtain ⟨o, ho, rfl⟩ := List.mem_map.mp hd
          refine ⟨_, rfl, fun s' mm es => ⟨rfl, rfl, fun _ sh' H' C' cl fp => ?_⟩⟩
          refine em_call G2 hr (am_cons (em_var 4 (am_cons (em_callB T.len (am_cons (em_var 2 (am_nil (vc_lenT (am_nil ⟨o, rows.length, ?_, ok.fld r hm o ho, rfl, rfl⟩)))))))))
          rw [List.length_map]
        · refine am_nil (vc_all rfl (.lst _) (bs := r.map fun _ => true) ?_ (asB ?_))
          · rw [List.filter_eq_self.mpr fun _ _ => rfl, List.map_map]
            unfold blsD
            rw [List.map_map]
            rfl
          · have : (r.map fun _ => true).all id = true := by simp
            rw [this]
            exact bif_f (sms_nil (sms_nil ⟨rfl, _, _, rfl⟩))
      · rintro ρ' s' ⟨rfl, o, p, rfl⟩
        exact ⟨trivial, rfl⟩
    · rintro ρ' s' rfl
      exact sms_cons (sm_ret (em_bl k))
end Sg
end T_P5

section T_M1
set_option autoImplicit true
set_option maxRecDepth 100000
set_option maxHeartbeats 4000000
namespace Sg
open PySem L2 Mp
/-! ### reaching -/
def fieldsOf (rows : List Row) (x : Nat) : Row := rows.getD x []
inductive Reaches (rows : List Row) (starts : List Nat) : Nat → Prop where
  | start {x : Nat} (h : x ∈ starts) : Reaches rows starts x
  | step {x y : Nat} (h : Reaches rows starts x) (hy : some y ∈ fieldsOf rows x) : Reaches rows starts y
theorem Reaches.sub {rows : List Row} {starts : List Nat} {R : Nat → Prop} (h0 : ∀ x ∈ starts, R x) (h1 : ∀ x y, R x → some y ∈ fieldsOf rows x → R y) : ∀ {x}, Reaches rows starts x → R x := by
  intro x h
  induction h with
  | start h => exact h0 _ h
  | step _ hy ih => exact h1 _ _ ih hy
/-- the rows' fields lie below n -/
def FldOk (rows : List Row) : Prop := ∀ r ∈ rows, ∀ o ∈ r, ∀ i, o = some i → i < rows.length
theorem FldOk.at_ {rows : List Row} (ok : FldOk rows) {x y : Nat} (h : some y ∈ fieldsOf rows x) : y < rows.length := by
  unfold fieldsOf at h
  rw [List.getD_eq_getElem?_getD] at h
  cases e : rows[x]? with
  | none => rw [e] at h; cases h
  | some r => rw [e] at h; exact ok r (mem_of_get? e) _ h y rfl
/-- between two turns of the outer loop -/
structure RInv (rows : List Row) (starts ks ws : List Nat) : Prop where
  nd : ks.Nodup
  lt : ∀ x ∈ ks, x < rows.length
  sub : ∀ x ∈ ws, x ∈ ks
  st : ∀ x ∈ starts, x ∈ ks
  re : ∀ x ∈ ks, Reaches rows starts x
  cl : ∀ x ∈ ks, x ∉ ws → ∀ y, some y ∈ fieldsOf rows x → y ∈ ks
/-- within a turn: of one's fields the first i are done -/
structure RIn (rows : List Row) (starts ks ws : List Nat) (one i : Nat) : Prop where
  nd : ks.Nodup
  lt : ∀ x ∈ ks, x < rows.length
  sub : ∀ x ∈ ws, x ∈ ks
  st : ∀ x ∈ starts, x ∈ ks
  re : ∀ x ∈ ks, Reaches rows starts x
  on : one ∈ ks
  cl : ∀ x ∈ ks, x ∉ ws → x ≠ one → ∀ y, some y ∈ fieldsOf rows x → y ∈ ks
  fs : ∀ y, some y ∈ (fieldsOf rows one).take i → y ∈ ks
theorem RInv.pop {rows : List Row} {starts ks ws : List Nat} {one : Nat} (h : RInv rows starts ks (ws ++ [one])) : RIn rows starts ks ws one 0 := by
  refine ⟨h.nd, h.lt, fun x hx => h.sub x (List.mem_append_left _ hx), h.st, h.re, h.sub one (by simp), fun x hx hw hne => h.cl x hx fun z => ?_, fun y hy => by simp at hy⟩
  rcases List.mem_append.mp z with z | z
  · exact hw z
  · exact hne (List.mem_singleton.mp z)
theorem RIn.done {rows : List Row} {starts ks ws : List Nat} {one : Nat} (h : RIn rows starts ks ws one (fieldsOf rows one).length) : RInv rows starts ks ws := by
  refine ⟨h.nd, h.lt, h.sub, h.st, h.re, fun x hx hw y hy => ?_⟩
  by_cases e : x = one
  · subst e
    exact h.fs y (by rw [List.take_length]; exact hy)
  · exact h.cl x hx hw e y hy
theorem take_succ_mem {α : Type} {l : List α} {i : Nat} {a b : α} (h : l[i]? = some a) (hb : b ∈ l.take (i + 1)) : b ∈ l.take i ∨ b = a := by
  rw [List.take_add_one, h] at hb
  rcases List.mem_append.mp hb with z | z
  · exact .inl z
  · exact .inr (by simpa using z)
theorem RIn.skip {rows : List Row} {starts ks ws : List Nat} {one i : Nat} {o : Option Nat} (h : RIn rows starts ks ws one i) (ho : (fieldsOf rows one)[i]? = some o) (hk : ∀ y, o = some y → y ∈ ks) : RIn rows starts ks ws one (i + 1) :=
  ⟨h.nd, h.lt, h.sub, h.st, h.re, h.on, h.cl, fun y hy => (take_succ_mem ho hy).elim (h.fs y) fun e => hk y e.symm⟩
theorem RIn.add {rows : List Row} {starts ks ws : List Nat} {one i y : Nat} (ok : FldOk rows) (h : RIn rows starts ks ws one i) (ho : (fieldsOf rows one)[i]? = some (some y)) (hk : y ∉ ks) : RIn rows starts (ks ++ [y]) (ws ++ [y]) one (i + 1) := by
  have hm : some y ∈ fieldsOf rows one := mem_of_get? ho
  refine ⟨List.nodup_append.mpr ⟨h.nd, by simp, fun a ha b hb e => ?_⟩, fun x hx => ?_, fun x hx => ?_, fun x hx => List.mem_append_left _ (h.st x hx), fun x hx => ?_, List.mem_append_left _ h.on, fun x hx hw hne z hz => ?_, fun z hz => ?_⟩
  · rw [List.mem_singleton.mp hb] at e
    exact hk (e ▸ ha)
  · rcases List.mem_append.mp hx with z | z
    · exact h.lt x z
    · rw [List.mem_singleton.mp z]; exact ok.at_ hm
  · rcases List.mem_append.mp hx with z | z
    · exact List.mem_append_left _ (h.sub x z)
    · exact List.mem_append_right _ z
  · rcases List.mem_append.mp hx with z | z
    · exact h.re x z
    · rw [List.mem_singleton.mp z]; exact .step (h.re one h.on) hm
  · rcases List.mem_append.mp hx with q | q
    · exact List.mem_append_left _ (h.cl x q (fun z => hw (List.mem_append_left _ z)) hne z hz)
    · exact absurd (List.mem_append_right _ q) hw
  · rcases take_succ_mem ho hz with q | q
    · exact List.mem_append_left _ (h.fs z q)
    · cases q
      simp
theorem nodup_lt_len : ∀ {n : Nat} {ks : List Nat}, ks.Nodup → (∀ x ∈ ks, x < n) → ks.length ≤ n
  | 0, ks, _, lt => by
    cases ks with
    | nil => exact Nat.le_refl _
    | cons a r => exact absurd (lt a List.mem_cons_self) (Nat.not_lt_zero _)
  | n + 1, ks, nd, lt => by
    have ih := nodup_lt_len (n := n) (ks := ks.erase n) (nd.erase n) fun x hx => by
      have h1 := lt x (List.mem_of_mem_erase hx)
      have h2 : x ≠ n := fun e => by
        subst e
        exact (nd.mem_erase_iff.mp hx).1 rfl
      omega
    have hl := List.length_erase (a := n) (l := ks)
    split at hl <;> omega
theorem RInv.fin {rows : List Row} {starts ks : List Nat} (h : RInv rows starts ks []) (x : Nat) : x ∈ ks ↔ Reaches rows starts x :=
  ⟨h.re x, fun r => r.sub (R := (· ∈ ks)) h.st fun a b ha hb => h.cl a ha (by simp) b hb⟩
end Sg
end T_M1

section T_P6
set_option autoImplicit true
set_option maxRecDepth 100000
set_option maxHeartbeats 4000000
namespace Sg
open PySem L2 Mp
variable {P : Program} {w : World} {K : PySem.W.Frag} {mg : Str → Option Value} {base : Heap}
theorem room64 {k : Nat} {A : Around} (r : Room k A) : A.units + 64 < cLine := by have := r.un; omega
theorem room65 {k : Nat} {A : Around} (r : Room k A) : A.units + 65 < cLine := by have := r.un; omega
theorem room1 {k : Nat} {A : Around} (r : Room k A) : A.units + 1 < cLine := by have := r.un; omega
/-! ints as data -/
theorem toPs_nats : ∀ l : List Nat, toPs (l.map natD) = some (l.map fun i => PyData.int (i : Nat))
  | [] => rfl
  | a :: l => by
    show (match toP (natD a), toPs (l.map natD) with | some p, some ps => some (p :: ps) | _, _ => none) = _
    rw [toPs_nats l]
    rfl
theorem canAll_ints : ∀ l : List Int, PyData.canLayAll0 (l.map PyData.int) = true
  | [] => rfl
  | a :: l => canAll_ints l
theorem depthAll_ints : ∀ l : List Int, PyData.depthAll (l.map PyData.int) = 0
  | [] => rfl
  | a :: l => by
    show max 0 (PyData.depthAll (l.map PyData.int)) = 0
    rw [depthAll_ints l]
    rfl
theorem shaped_nats (l : List Nat) : SeqAt.shaped (.list (l.map fun i => PyData.int (i : Nat))) = true := by
  have e : (l.map fun i => PyData.int (i : Nat)) = (l.map fun i : Nat => (i : Int)).map PyData.int := by rw [List.map_map]; rfl
  rw [e]
  show (PyData.canLayAll0 _ && decide (PyData.depthAll _ + 1 ≤ 64)) = true
  rw [canAll_ints, depthAll_ints]
  rfl
def kN (ks : List Nat) : List Key := ks.map fun i : Nat => .inl (i : Int)
def trues (ks : List Nat) : List D := ks.map fun _ => .bl true
theorem kN_some : ∀ {ks : List Nat} {i : Nat}, i ∈ ks → ∃ n, kIx (kN ks) (.inl (i : Int)) = some n
  | k :: ks, i, h => by
    by_cases e : k = i
    · exact ⟨0, if_pos (by rw [e])⟩
    · have hi : i ∈ ks := by
        rcases List.mem_cons.mp h with z | z
        · exact absurd z.symm e
        · exact z
      obtain ⟨n, hn⟩ := kN_some hi
      refine ⟨n + 1, ?_⟩
      show (if (Sum.inl (k : Int) : Key) = .inl (i : Int) then some 0 else (kIx (kN ks) (.inl (i : Int))).map (· + 1)) = _
      have hne : (Sum.inl (k : Int) : Key) ≠ .inl (i : Int) := fun z => e (Int.ofNat.inj (Sum.inl.inj z))
      rw [if_neg hne, hn]
      rfl
theorem kN_none : ∀ {ks : List Nat} {i : Nat}, i ∉ ks → kIx (kN ks) (.inl (i : Int)) = none
  | [], _, _ => rfl
  | k :: ks, i, h => by
    have e : k ≠ i := fun z => h (by rw [z]; exact List.mem_cons_self)
    show (if (Sum.inl (k : Int) : Key) = .inl (i : Int) then some 0 else (kIx (kN ks) (.inl (i : Int))).map (· + 1)) = _
    have hne : (Sum.inl (k : Int) : Key) ≠ .inl (i : Int) := fun z => e (Int.ofNat.inj (Sum.inl.inj z))
    rw [if_neg hne, kN_none fun z => h (List.mem_cons_of_mem _ z)]
    rfl
theorem kN_isSome (ks : List Nat) (i : Nat) : (kIx (kN ks) (.inl (i : Int))).isSome = decide (i ∈ ks) := by
  by_cases h : i ∈ ks
  · obtain ⟨n, e⟩ := kN_some h
    rw [e, decide_eq_true h]
    rfl
  · rw [kN_none h, decide_eq_false h]
    rfl
theorem kN_nodup {ks : List Nat} (h : ks.Nodup) : (kN ks).Nodup := by
  unfold kN
  exact List.pairwise_map.mpr (h.imp fun hne z => hne (Int.ofNat.inj (Sum.inl.inj z)))
theorem trues_set (ks : List Nat) (n : Nat) : (trues ks).set n (.bl true) = trues ks := by
  unfold trues
  rw [show (fun _ : Nat => D.bl true) = (fun _ => D.bl true) from rfl]
  induction ks generalizing n with
  | nil => rfl
  | cons a l ih =>
    cases n with
    | zero => rfl
    | succ n =>
      show _ :: _ = _ :: _
      rw [ih]
theorem kN_kD (ks : List Nat) : (kN ks).map kD = ks.map natD := by
  unfold kN
  rw [List.map_map]
  rfl
theorem set_0 (s : Sto) (a b c : MO) : ((s ++ [a]) ++ [b]).set s.length c = (s ++ [c]) ++ [b] := by
  rw [List.append_assoc, List.append_assoc, List.set_append_right _ _ (Nat.le_refl _), Nat.sub_self]
  rfl
theorem get_0 (s : Sto) (a b : MO) : ((s ++ [a]) ++ [b])[s.length]? = some a := by
  rw [List.append_assoc, List.getElem?_append_right (Nat.le_refl _), Nat.sub_self]
  rfl
theorem bd_nats (n : Nat) (l : List Nat) : Bd n (natsD l) := bdL_of fun d hd => by
  obtain ⟨i, _, rfl⟩ := List.mem_map.mp hd
  trivial
def wReach : WtK := fun ds es s Φ => ∃ (wd : Nat) (rows : List Row) (starts : List Nat), es = [] ∧ ds = heapD wd rows :: starts.map natD ∧ FldOk rows ∧ rows.length ≤ 40 ∧ starts.length ≤ 50 ∧ (∀ x ∈ starts, x < rows.length) ∧
  ∀ l : List Nat, (∀ x, x ∈ l ↔ Reaches rows starts x) → l.length ≤ 40 → Φ (natsD l) s
theorem g_reach (T : Tx K mg) (Df : DefG K mg "reach_from" sReach) : GFnK P w K mg base "reach_from" [] 3 wReach := by
  obtain ⟨f, fd, hm, F⟩ := Df
  refine ⟨f, hm, F.kp, def_star (N := ["heap", "objects", "found", "one", "waiting", "field"]) (ps := ["heap"]) (ks := []) (pv := "objects") bh_drp F ⟨rfl, rfl, rfl, by decide +kernel, rfl, by decide +kernel, by decide +kernel⟩
    (fun kV doc pm an cdv ct us rest ws h1 h2 => match us, ws, rest, h1, h2 with | [_], [], [], _, _ => rfl | [_], [], _ :: _, _, _ => rfl) (fun ds es s Φ h => ?_) fun cdv A outer sh H E hr ds es s Φ h => ?_⟩
  · obtain ⟨wd, rows, starts, rfl, rfl, h1, h2, h3, _⟩ := h
    simp
    omega
  · obtain ⟨wd, rows, starts, rfl, rfl, fo, h2, h3, h4, k⟩ := h
    have nd : (["heap", "objects", "found", "one", "waiting", "field"] : List Str).Nodup := by decide +kernel
    have hr1 := room1 hr
    have hr64 := room64 hr
    refine sms_cons (sm_set 2 nd (em_dict0 ?_))
    -- the starts
    refine sms_cut (fun ρ' s' => ∃ ks o, s' = s ++ [.dic (kN ks) (trues ks)] ∧ RInv rows starts ks ks ∧ ρ' = [some (heapD wd rows), some (.tup (starts.map natD)), some (.ref s.length), o, none, none]) (sm_for (im_tup (em_var 1 ⟨starts.map natD, rfl, ?_⟩))) ?_
    · refine ⟨fun i ρ' s' => ∃ ks o, s' = s ++ [.dic (kN ks) (trues ks)] ∧ ks.Nodup ∧ (∀ x, x ∈ ks ↔ x ∈ starts.take i) ∧ ρ' = [some (heapD wd rows), some (.tup (starts.map natD)), some (.ref s.length), o, none, none], ⟨[], none, rfl, List.nodup_nil, fun x => by simp, rfl⟩, ?_, ?_⟩
      · rintro i x ρ' s' hi ⟨ks, o, rfl, nk, hk, rfl⟩
        refine ⟨trivial, gm_name 3 nd ?_⟩
        rw [List.getElem?_map, Option.map_eq_some_iff] at hi
        obtain ⟨y, hy, rfl⟩ := hi
        have kl : ks.length ≤ 1000 := by
          have := nodup_lt_len nk (n := rows.length) fun x hx => h4 x (List.mem_of_mem_take ((hk x).mp hx))
          omega
        have et : starts.take (i + 1) = starts.take i ++ [y] := by rw [List.take_add_one, hy]; rfl
        refine sms_cons (sm_setD hr1 (em_bl (em_var 2 (em_var 3 ⟨s.length, _, _, .inl (y : Int), rfl, get_last _ _, rfl, by unfold kN; rw [List.length_map]; exact kl, ?_⟩))))
        by_cases hyk : y ∈ ks
        · obtain ⟨n, hn⟩ := kN_some hyk
          refine .inl ⟨n, kN_nodup nk, hn, sms_nil ⟨ks, some (natD y), ?_, nk, fun x => ?_, rfl⟩⟩
          · rw [set_last, trues_set]
          · rw [et, List.mem_append, ← hk]
            simp only [List.mem_singleton]
            exact ⟨.inl, fun z => z.elim id fun e => by rw [e]; exact hyk⟩
        · refine .inr ⟨kN_none hyk, sms_nil ⟨ks ++ [y], some (natD y), ?_, List.nodup_append.mpr ⟨nk, by simp, fun a ha b hb e => ?_⟩, fun x => ?_, rfl⟩⟩
          · rw [set_last]
            unfold kN trues
            rw [List.map_append, List.map_append]
            rfl
          · rw [List.mem_singleton.mp hb] at e
            exact hyk (e ▸ ha)
          · rw [et, List.mem_append, List.mem_append, hk]
      · rintro ρ' s' ⟨ks, o, rfl, nk, hk, rfl⟩
        rw [List.length_map, List.take_length] at hk
        exact ⟨trivial, ks, o, rfl, ⟨nk, fun x hx => h4 x ((hk x).mp hx), fun x hx => hx, fun x hx => (hk x).mpr hx, fun x hx => .start ((hk x).mp hx), fun x hx hw => absurd hx hw⟩, rfl⟩
    rintro ρ' s' ⟨ks, o, rfl, ri, rfl⟩
    refine sms_cons (sm_set 4 nd (em_callTy (T := "list") T.list (am_cons (em_var 2 (am_nil (vc_listDC rfl rfl (get_last _ _) ?_))))))
    rw [kN_kD]
    -- the closure
    refine sms_cut (fun ρ' s' => ∃ ks o p, s' = (s ++ [.dic (kN ks) (trues ks)]) ++ [.lst []] ∧ RInv rows starts ks [] ∧ ρ' = [some (heapD wd rows), some (.tup (starts.map natD)), some (.ref s.length), o, some (.ref (s ++ [MO.dic (kN ks) (trues ks)]).length), p])
      (sm_while (fun m ρ' s' => ∃ ks ws o p, s' = (s ++ [.dic (kN ks) (trues ks)]) ++ [.lst (ws.map natD)] ∧ RInv rows starts ks ws ∧ m = 2 * (rows.length - ks.length) + ws.length ∧ ws.length ≤ ks.length ∧ ρ' = [some (heapD wd rows), some (.tup (starts.map natD)), some (.ref s.length), o, some (.ref (s ++ [MO.dic (kN ks) (trues ks)]).length), p]) _ ⟨ks, ks, o, none, rfl, ri, rfl, Nat.le_refl _, rfl⟩ ?_) ?_
    · rintro m ρ' s' ⟨ks, ws, o, p, rfl, ri, rfl, hw, rfl⟩
      have kl : ks.length ≤ rows.length := nodup_lt_len ri.nd ri.lt
      refine tm_cmp (em_var 4 (em_lst (am_nil ⟨Nat.le_of_ble_eq_true rfl, v2_neLP (k := decide (ws = [])) hr64 (.ref (get_last _ _)) (toPs_nats ws) rfl (shaped_nats ws) rfl ?_ (asB ?_)⟩)))
      · cases ws <;> rfl
      refine bif_nd (fun hne => ?_) fun he => ?_
      · obtain ⟨ws', one, rfl⟩ : ∃ ws' one, ws = ws' ++ [one] := ⟨ws.dropLast, ws.getLast hne, (List.dropLast_concat_getLast hne).symm⟩
        rw [List.map_append]
        refine sms_cons (sm_set 3 nd (em_pop (em_var 4 ⟨_, ws'.map natD, natD one, rfl, get_last _ _, ?_⟩)))
        rw [set_last]
        have rin := ri.pop
        have hone : one < rows.length := ri.lt one rin.on
        have hrow : rows[one]? = some rows[one] := List.getElem?_eq_getElem hone
        have hf : fieldsOf rows one = rows[one] := getD_of hrow
        refine sms_cons (sm_for (im_tup (em_ix (em_ix (em_var 0 (em_int (vi_tup (d := rowsD rows) rfl (em_var 3 (vi_tup (rows_at hrow) ⟨rows[one].map oD, rfl, ?_⟩)))))))))
        refine ⟨fun i ρ' s' => ∃ ks2 ws2 p, s' = (s ++ [.dic (kN ks2) (trues ks2)]) ++ [.lst (ws2.map natD)] ∧ RIn rows starts ks2 ws2 one i ∧ 2 * (rows.length - ks2.length) + ws2.length < 2 * (rows.length - ks.length) + (ws' ++ [one]).length ∧ ws2.length ≤ ks2.length ∧ ρ' = [some (heapD wd rows), some (.tup (starts.map natD)), some (.ref s.length), some (natD one), some (.ref (s ++ [MO.dic (kN ks2) (trues ks2)]).length), p], ⟨ks, ws', p, rfl, rin, by rw [List.length_append, List.length_singleton]; omega, by rw [List.length_append, List.length_singleton] at hw; omega, rfl⟩, ?_, ?_⟩
        · rintro i x ρ' s' hi ⟨ks2, ws2, p2, rfl, rin2, hm, hw2, rfl⟩
          refine ⟨trivial, gm_name 5 nd ?_⟩
          rw [List.getElem?_map, Option.map_eq_some_iff] at hi
          obtain ⟨y, hy, rfl⟩ := hi
          rw [← hf] at hy
          refine sms_cons (sm_if (tm_w (wm_and (tm_cmp (em_var 5 (em_non (v2_notN (asB ?_))))))))
          rw [isNon_oD]
          cases y with
          | none => exact bif_f (bif_f (sms_nil (sms_nil ⟨ks2, ws2, _, rfl, rin2.skip hy (fun _ z => nomatch z), hm, hw2, rfl⟩)))
          | some y =>
            refine bif_t (wm_and1 (tm_dnin hr1 (em_var 5 (em_var 2 ⟨s.length, _, _, .inl (y : Int), rfl, get_0 _ _ _, rfl, by unfold kN trues; rw [List.length_map, List.length_map], ?_⟩))))
            rw [kN_isSome]
            have kl2 : ks2.length ≤ rows.length := nodup_lt_len rin2.nd rin2.lt
            refine bif_nd (fun hyk => ?_) fun hyk => sms_nil (sms_nil ⟨ks2, ws2, _, rfl, rin2.skip hy (fun z e => by cases e; exact hyk), hm, hw2, rfl⟩)
            refine sms_cons (sm_setD hr1 (em_bl (em_var 2 (em_var 5 ⟨s.length, _, _, .inl (y : Int), rfl, get_0 _ _ _, rfl, by unfold kN; rw [List.length_map]; omega, .inr ⟨kN_none hyk, ?_⟩⟩))))
            rw [set_0]
            have ek : kN ks2 ++ [.inl (y : Int)] = kN (ks2 ++ [y]) := by unfold kN; rw [List.map_append]; rfl
            have et : trues ks2 ++ [.bl true] = trues (ks2 ++ [y]) := by unfold trues; rw [List.map_append]; rfl
            rw [ek, et]
            have ri3 := rin2.add fo hy hyk
            have kl3 : (ks2 ++ [y]).length ≤ rows.length := nodup_lt_len ri3.nd ri3.lt
            rw [List.length_append, List.length_singleton] at kl3
            have eln : (s ++ [MO.dic (kN ks2) (trues ks2)]).length = (s ++ [MO.dic (kN (ks2 ++ [y])) (trues (ks2 ++ [y]))]).length := by rw [List.length_append, List.length_append]; rfl
            refine sms_cons (sm_expr (em_append (em_var 4 ⟨(s ++ [MO.dic (kN ks2) (trues ks2)]).length, rfl, ⟨ws2.map natD, by rw [eln]; exact get_last _ _⟩, em_var 5 ⟨ws2.map natD, by rw [eln]; exact get_last _ _, by rw [List.length_map]; omega, ?_⟩⟩)))
            rw [eln, set_last]
            refine sms_nil (sms_nil ⟨ks2 ++ [y], ws2 ++ [y], _, by rw [List.map_append]; rfl, ri3, ?_, ?_, rfl⟩)
            · rw [List.length_append, List.length_append, List.length_singleton]
              omega
            · rw [List.length_append, List.length_append]
              simp
              exact hw2
        · rintro ρ' s' ⟨ks2, ws2, p2, rfl, rin2, hm, hw2, rfl⟩
          rw [List.length_map, ← hf] at rin2
          exact ⟨trivial, sms_nil ⟨_, hm, ks2, ws2, _, _, rfl, rin2.done, rfl, hw2, rfl⟩⟩
      · subst he
        exact ⟨ks, o, p, rfl, ri, rfl⟩
    rintro ρ' s' ⟨ks, o, p, rfl, ri, rfl⟩
    have kl : ks.length ≤ rows.length := nodup_lt_len ri.nd ri.lt
    refine sms_cons (sm_ret (em_callTy (T := "tuple") T.tuple (am_cons (em_callB (id := "sorted") T.sorted (am_cons (em_callTy (T := "list") T.list (am_cons (em_var 2 (am_nil (vc_listDK rfl rfl (get_0 _ _ _) (am_nil (vc_sorted (ns := ks.map fun i : Nat => (i : Int)) (.lst _) ?_ ?_ ?_))))))))))))
    · rw [kN_kD, List.map_map]
      rfl
    · rw [List.length_map]
      omega
    · intro ns hp _
      refine am_nil (vc_tupL (.lst _) ?_)
      have hall : ∀ n ∈ ns, ∃ i : Nat, n = i := fun n hn => by
        obtain ⟨i, _, rfl⟩ := List.mem_map.mp (hp.mem_iff.mp hn)
        exact ⟨i, rfl⟩
      have hns : ns = (ns.map Int.toNat).map fun i : Nat => (i : Int) := by
        rw [List.map_map]
        refine ((List.map_congr_left fun n hn => ?_).trans (List.map_id ns)).symm
        obtain ⟨i, rfl⟩ := hall n hn
        rfl
      have e : D.tup (ns.map D.int) = natsD (ns.map Int.toNat) := by
        unfold natsD
        conv => lhs; rw [hns]
        rw [List.map_map, List.map_map, List.map_map]
        rfl
      rw [e]
      refine ⟨s, [.dic (kN ks) (trues ks), .lst []], by rw [List.append_assoc]; rfl, rfl, bd_nats _ _, fun h => h, k _ (fun x => ?_) ?_⟩
      · rw [← ri.fin x]
        constructor
        · intro hx
          obtain ⟨n, hn, rfl⟩ := List.mem_map.mp hx
          obtain ⟨i, hi, rfl⟩ := List.mem_map.mp (hp.mem_iff.mp hn)
          exact hi
        · intro hx
          exact List.mem_map.mpr ⟨(x : Int), hp.mem_iff.mpr (List.mem_map.mpr ⟨x, hx, rfl⟩), rfl⟩
      · rw [List.length_map, hp.length_eq, List.length_map]
        omega
end Sg
end T_P6

section T_M2
set_option autoImplicit true
set_option maxRecDepth 100000
set_option maxHeartbeats 4000000
namespace Sg
open PySem L2 Mp
/-! ### acts -/
inductive Act where
  | start | look | fin
  | load (r s f : Nat)
  | store (x f : Nat) (y : Option Nat)
  | move (r s : Nat)
  | clear (r : Nat)
  | new (r : Nat)
  | scan (x : Nat)
  | scanF (x f : Nat)
def Act.word : Act → Str
  | .start => "start" | .look => "look" | .fin => "end" | .load .. => "load" | .store .. => "store" | .move .. => "move" | .clear .. => "clear" | .new .. => "new" | .scan .. => "scan" | .scanF .. => "scan"
def Act.rest : Act → List D
  | .start => [] | .look => [] | .fin => []
  | .load r s f => [natD r, natD s, natD f]
  | .store x f y => [natD x, natD f, oD y]
  | .move r s => [natD r, natD s]
  | .clear r => [natD r]
  | .new r => [natD r]
  | .scan x => [natD x]
  | .scanF x f => [natD x, natD f]
def actD (a : Act) : D := .tup (.str a.word :: a.rest)
/-- the mode's acts -/
def Act.fits (fields : Bool) : Act → Prop
  | .scan _ => fields = false
  | .scanF _ _ => fields = true
  | _ => True
def Act.named : Act → List Nat
  | .load r s _ => [r, s]
  | .move r s => [r, s]
  | .store x _ none => [x]
  | .store x _ (some y) => [x, y]
  | .clear r => [r]
  | .new r => [r]
  | _ => []
def Act.needs : Act → List Nat
  | .load _ s _ => [s]
  | .move _ s => [s]
  | .store x _ none => [x]
  | .store x _ (some y) => [x, y]
  | .clear r => [r]
  | _ => []
def Act.field : Act → Option Nat
  | .load _ _ f => some f
  | .store _ f _ => some f
  | .scanF _ f => some f
  | _ => none
/-! entries -/
inductive Srt where
  | load | old | new | source
deriving DecidableEq
def Srt.s : Srt → Str
  | .load => "load" | .old => "old" | .new => "new" | .source => "source"
theorem Srt.inj : ∀ {a b : Srt}, a.s = b.s → a = b := by
  intro a b
  cases a <;> cases b <;> first | (intro _; rfl) | (intro h; exact absurd h (by decide +kernel))
abbrev Ent := Srt × Col
def entD (e : Ent) : D := .tup [.str e.1.s, .str e.2.s]
def entsD (l : List Ent) : D := .tup (l.map entD)
def allEnts : List Ent := [(.load, .w), (.load, .g), (.load, .b), (.old, .w), (.old, .g), (.old, .b), (.new, .w), (.new, .g), (.new, .b), (.source, .w), (.source, .g), (.source, .b)]
theorem mem_allEnts (e : Ent) : e ∈ allEnts := by
  obtain ⟨a, c⟩ := e
  cases a <;> cases c <;> simp [allEnts]
/-- a table: its entries, in the order of all, as the set has them -/
structure Tab where
  has : Ent → Bool
  fresh : Col
  again : Bool
def Tab.kept (t : Tab) : List Ent := allEnts.filter t.has
theorem Tab.mem_kept (t : Tab) (e : Ent) : e ∈ t.kept ↔ t.has e = true := by
  unfold Tab.kept
  rw [List.mem_filter]
  exact ⟨fun h => h.2, fun h => ⟨mem_allEnts e, h⟩⟩
def rootsS (b : Bool) : Str := if b then "again" else "once"
/-- what may be done -/
def Good (fields again : Bool) (wd : Nat) (m : Mo) : Act → Prop
  | .start => m.ph = .ready
  | .look => m.ph = .marking ∧ again = true
  | .fin => m.ph = .marking ∧ .g ∉ m.paint ∧ (again = true → m.has .w = false)
  | .load r s f => m.ph = .marking ∧ r < m.held.length ∧ (∃ x, m.held[s]? = some (some x)) ∧ f < wd
  | .store x f y => m.ph = .marking ∧ (∃ o, m.held[x]? = some (some o)) ∧ f < wd ∧ ∀ r, y = some r → ∃ o, m.held[r]? = some (some o)
  | .move r s => m.ph = .marking ∧ r < m.held.length ∧ r ≠ s ∧ ∃ o, m.held[s]? = some (some o)
  | .clear r => m.ph = .marking ∧ ∃ o, m.held[r]? = some (some o)
  | .new r => m.ph = .marking ∧ r < m.held.length ∧ m.rows.length < 40
  | .scan x => fields = false ∧ m.ph = .marking ∧ m.paint[x]? = some .g
  | .scanF x f => fields = true ∧ m.ph = .marking ∧ m.paint[x]? = some .g ∧ f < wd ∧ f ∉ m.seen.getD x []
/-! sorting -/
def ins1 (n : Nat) : List Nat → List Nat
  | [] => [n]
  | a :: l => if n ≤ a then n :: a :: l else a :: ins1 n l
/-- l with n put in: l is sorted -/
theorem ins1_perm (n : Nat) : ∀ l : List Nat, (ins1 n l).Perm (l ++ [n])
  | [] => .refl _
  | a :: l => by
    unfold ins1
    split
    · exact (List.perm_append_comm (l₁ := [n]) (l₂ := a :: l))
    · exact (ins1_perm n l).cons a
theorem ins1_sorted (n : Nat) : ∀ {l : List Nat}, l.Pairwise (· ≤ ·) → (ins1 n l).Pairwise (· ≤ ·)
  | [], _ => List.pairwise_singleton _ _
  | a :: l, h => by
    unfold ins1
    obtain ⟨h1, h2⟩ := List.pairwise_cons.mp h
    split
    · rename_i hn
      exact List.pairwise_cons.mpr ⟨fun x hx => by
        rcases List.mem_cons.mp hx with e | e
        · rw [e]; exact hn
        · exact Nat.le_trans hn (h1 x e), h⟩
    · rename_i hn
      refine List.pairwise_cons.mpr ⟨fun x hx => ?_, ins1_sorted n h2⟩
      rcases List.mem_append.mp ((ins1_perm n l).mem_iff.mp hx) with e | e
      · exact h1 x e
      · rw [List.mem_singleton.mp e]; omega
theorem sorted_uniq : ∀ {l m : List Nat}, l.Perm m → l.Pairwise (· ≤ ·) → m.Pairwise (· ≤ ·) → l = m
  | [], m, p, _, _ => (List.nil_perm.mp p).symm
  | a :: l, [], p, _, _ => (List.perm_nil.mp p)
  | a :: l, b :: m, p, h1, h2 => by
    obtain ⟨a1, a2⟩ := List.pairwise_cons.mp h1
    obtain ⟨b1, b2⟩ := List.pairwise_cons.mp h2
    have e : a = b := by
      have ha : a ∈ b :: m := p.mem_iff.mp List.mem_cons_self
      have hb : b ∈ a :: l := p.mem_iff.mpr List.mem_cons_self
      rcases List.mem_cons.mp ha with q | q
      · exact q
      · rcases List.mem_cons.mp hb with r | r
        · exact r.symm
        · exact Nat.le_antisymm (a1 b r) (b1 a q)
    subst e
    rw [sorted_uniq (List.perm_cons a |>.mp p) a2 b2]
/-! the step -/
def Mo.at_ (m : Mo) (x f : Nat) : Option Nat := (m.rows.getD x []).getD f none
def Mo.reg (m : Mo) (r : Nat) : Option Nat := m.held.getD r none
def Mo.col (m : Mo) (x : Nat) : Col := m.paint.getD x .w
def Mo.load (t : Tab) (m : Mo) (r x f : Nat) : Mo := (if t.has (.load, m.col x) = true then m.shaded [m.at_ x f] else m).holding r (m.at_ x f)
def Mo.store (t : Tab) (m : Mo) (x f : Nat) (given : Option Nat) : Mo :=
  let m1 := m.storedAt x f given
  let m2 := if t.has (.old, m.col x) = true then m1.shaded [m.at_ x f] else m1
  let m3 := if t.has (.new, m.col x) = true then m2.shaded [given] else m2
  if t.has (.source, m.col x) = true then m3.reopened x else m3
def Mo.scan (w : Nat) (m : Mo) (x : Nat) : Mo := (m.shaded (m.rows.getD x [])).withVisited x (List.range w)
def Mo.scanF (m : Mo) (x f : Nat) : Mo := (m.shaded [m.at_ x f]).withVisited x (ins1 f (m.seen.getD x []))
def stepMo (t : Tab) (w : Nat) (m : Mo) : Act → Mo
  | .start => (m.shaded m.held).inPhase .marking
  | .look => (m.shaded m.held).inPhase .marking
  | .fin => m.inPhase .ended
  | .load r s f => m.load t r ((m.reg s).getD 0) f
  | .store x f y => m.store t ((m.reg x).getD 0) f (y.bind m.reg)
  | .move r s => m.holding r (m.reg s)
  | .clear r => m.holding r none
  | .new r => m.grown r w t.fresh
  | .scan x => m.scan w x
  | .scanF x f => m.scanF x f
end Sg
end T_M2

section T_P7
set_option autoImplicit true
set_option maxRecDepth 100000
set_option maxHeartbeats 4000000
namespace Sg
open PySem L2 Mp
variable {P : Program} {w : World} {K : PySem.W.Frag} {mg : Str → Option Value} {base : Heap}
abbrev sIndex : Stmt := top 40
abbrev sSize : Stmt := top 41
abbrev sStep : Stmt := top 42
abbrev sNamed : Stmt := top 43
abbrev sHeldOf : Stmt := top 44
abbrev sField : Stmt := top 45
def modeS (b : Bool) : Str := if b then "fields" else "whole"
/-- a Bif whose test is known, closed -/
theorem bif_TT {b : Bool} {A B : Prop} (h : A) (e : b = true := by first | decide +kernel | rfl) : Bif b A B := by rw [e]; exact bif_t h
theorem bif_FF {b : Bool} {A B : Prop} (h : B) (e : b = false := by first | decide +kernel | rfl) : Bif b A B := by rw [e]; exact bif_f h
theorem atI_0 {d : Mp.D} {ds : List Mp.D} : atI (d :: ds) 0 = some d := atI_nat (j := 0) rfl
theorem g_reachable (T : Tx K mg) (G : GFnK P w K mg base "reach_from" [] 3 wReach) {y : Str} (Df : ∃ f fd, mg y = some (.ref f) ∧ FunD K "reachable" "reachable" (defArgs sReachable) (defBody sReachable) (defScope sReachable) [] [] f fd) :
    GFn P w K mg base y 4 fun ds s Φ => ∃ (wd : Nat) (rows : List Row) (held : Row), ds = [heapD wd rows, rowD held] ∧ FldOk rows ∧ rows.length ≤ 40 ∧ held.length ≤ 50 ∧ (∀ o ∈ held, ∀ i, o = some i → i < rows.length) ∧
      ∀ l : List Nat, (∀ x, x ∈ l ↔ Reaches rows (held.filterMap id) x) → l.length ≤ 40 → Φ (natsD l) s := by
  obtain ⟨f, fd, hm, F⟩ := Df
  refine ⟨f, fd, ["heap", "registers"], hm, F.kp, def_ok (N := ["heap", "registers", "held", "spot"]) F ⟨rfl, rfl, rfl, by decide +kernel, rfl, by decide +kernel, by decide +kernel⟩ (fun ds s Φ h => ?_) (fun cdv A outer sh H E hr ds s Φ h => ?_), F.bindsN fun _ _ _ _ _ _ us hl => match us, hl with | [_, _], _ => rfl⟩
  · obtain ⟨_, _, _, rfl, _⟩ := h
    rfl
  · obtain ⟨wd, rows, held, rfl, fo, h1, h2, h3, k⟩ := h
    have nd : (["heap", "registers", "held", "spot"] : List Str).Nodup := by decide +kernel
    refine sms_cons (sm_lcP (own := [("spot", 3)]) 2 (.one 3) nd (blk_ok rfl) (im_tup (em_var 1 ⟨held.map oD, rfl, fun d => !Mp.isNon d, fun d => d, fun _ => trivial, by rw [List.length_map]; omega, ?_, ?_, ?_⟩)) (tg_one 3 nd))
    · intro d hd
      exact ⟨_, rfl, fun s' mm es sh' H' C' cl fp => tm_cmp (em_var 3 (em_non (v2_notN (asB ⟨rfl, rfl, fun _ sh2 H2 C2 cl2 fp2 => em_var 3 ⟨rfl, rfl⟩⟩))))⟩
    · intro d hd _
      obtain ⟨o, _, rfl⟩ := List.mem_map.mp hd
      cases o <;> trivial
    · have e : ((held.map oD).filter fun d => !Mp.isNon d).map (fun d => d) = (held.filterMap id).map natD := by
        rw [List.map_id']
        clear k h2 h3
        induction held with
        | nil => rfl
        | cons o l ih =>
          cases o with
          | none => exact ih
          | some i =>
            show natD i :: _ = natD i :: _
            rw [ih]
      rw [e]
      refine sms_cons (sm_ret (em_callS2 G hr (am_cons (em_var 0 (am_star (em_var 2 ⟨_, .lst (.lst _), am_nil ⟨wd, rows, held.filterMap id, rfl, by rw [List.append_nil], fo, h1, ?_, ?_, k⟩⟩))))))
      · exact Nat.le_trans (List.length_filterMap_le _ _) h2
      · intro x hx
        obtain ⟨o, ho, e⟩ := List.mem_filterMap.mp hx
        exact h3 o ho x e
theorem g_index (T : Tx K mg) {x : Str} {st : Stmt} (hst : st = sIndex) (Df : DefG K mg "is_index" st) : GFn P w K mg base "is_index" 1 fun ds s Φ => ∃ i : Int, ds = [.int i] ∧ Φ (.bl (decide (0 ≤ i))) s := by
  subst hst
  refine mkG (N := ["thing"]) (ps := ["thing"]) Df ⟨rfl, rfl, rfl, by decide +kernel, rfl, by decide +kernel, by decide +kernel⟩ (fun _ _ _ _ _ _ us hl => match us, hl with | [_], _ => rfl) (fun ds s Φ h => ?_) fun f cdv A outer sh H E hr ds s Φ h => ?_
  · obtain ⟨_, rfl, _⟩ := h
    rfl
  · obtain ⟨i, rfl, k⟩ := h
    refine sms_cons (sm_ret (em_and (em_callB (id := "isinstance") T.isinstance (am_cons (em_var 0 (am_cons (em_bty (n := "int") T.int (am_nil (vc_isi (.int i) "int" "int" true (asB (bif_t ?_)))))))))))
    refine em_and (em_not (em_callB (id := "isinstance") T.isinstance (am_cons (em_var 0 (am_cons (em_bty (n := "bool") T.bool (am_nil (vc_isi (.int i) "int" "bool" false (asB (asB (bif_t ?_)))))))))))
    exact em_one (em_cmp (em_var 0 (em_int (v2_ge k))))
def sizesT : List (Str × Int) := [("start", 1), ("load", 4), ("store", 4), ("move", 3), ("clear", 2), ("new", 2), ("look", 1), ("end", 1)]
theorem g_size {dS : Addr} (T : Tx K mg) (CS : GCon K mg "SIZES" (.adr dS)) (KD : KInts K w dS sizesT) (Df : DefG K mg "size_of" sSize) : GFn P w K mg base "size_of" 1 fun ds s Φ => ∃ (a : Act) (b : Bool), ds = [.str a.word, .str (modeS b)] ∧ a.fits b ∧ Φ (.int ((a.rest.length + 1 : Nat) : Int)) s := by
  refine mkG (N := ["kind", "scanning"]) (ps := ["kind", "scanning"]) Df ⟨rfl, rfl, rfl, by decide +kernel, rfl, by decide +kernel, by decide +kernel⟩ (fun _ _ _ _ _ _ us hl => match us, hl with | [_, _], _ => rfl) (fun ds s Φ h => ?_) fun f cdv A outer sh H E hr ds s Φ h => ?_
  · obtain ⟨_, _, rfl, _⟩ := h
    rfl
  · obtain ⟨a, b, rfl, hf, k⟩ := h
    have hr1 := room1 hr
    refine sms_cons (sm_if (tm_cmp (em_var 0 (em_str (v2_eqS (asB ?_))))))
    have rest : ∀ {s' : Sto}, Φ (match sizesT.lookup a.word with | some i => .int i | none => .int 0) s' → SMs (cxOf CX0 P w K mg base ["kind", "scanning"] "size_of" (defScope sSize) f cdv A outer sh H E).nox [some (.str a.word), some (.str (modeS b))] s' ((defBody sSize).drop 1) { nx := fun _ s' => Φ .non s', rt := Φ } := fun {s'} k => by
      exact sms_cons (sm_ret (em_getK KD ⟨rfl, rfl, rfl, rfl⟩ (em_glob CS ⟨rfl, em_var 0 (em_int ⟨_, rfl, k⟩)⟩)))
    cases a with
    | scan x =>
      have hb : b = false := hf
      subst hb
      exact bif_TT (sms_cons (sm_ret (em_if (tm_cmp (em_var 1 (em_glob T.WHOLE (v2_eqS (x := "whole") (y := "whole") (asB (bif_TT (em_int k))))))))))
    | scanF x f =>
      have hb : b = true := hf
      subst hb
      exact bif_TT (sms_cons (sm_ret (em_if (tm_cmp (em_var 1 (em_glob T.WHOLE (v2_eqS (x := "fields") (y := "whole") (asB (bif_FF (em_int k))))))))))
    | _ => exact bif_FF (sms_nil (rest k))
/-- a def with keyword-only parameters, all given -/
def DefGK (K : PySem.W.Frag) (mg : Str → Option Value) (x : Str) (st : Stmt) (kws : List (Str × V)) : Prop := ∃ f fd, mg x = some (.ref f) ∧ FunD K x x (defArgs st) (defBody st) (defScope st) [] kws f fd
theorem g_step (T : Tx K mg) (GI : GFn P w K mg base "is_index" 1 fun ds s Φ => ∃ i : Int, ds = [.int i] ∧ Φ (.bl (decide (0 ≤ i))) s)
    (GS : GFn P w K mg base "size_of" 1 fun ds s Φ => ∃ (a : Act) (b : Bool), ds = [.str a.word, .str (modeS b)] ∧ a.fits b ∧ Φ (.int ((a.rest.length + 1 : Nat) : Int)) s) {kws : List (Str × V)} (hkw : kws ≠ []) (Df : DefGK K mg "is_step" sStep kws) :
    GFnK P w K mg base "is_step" ["scanning"] 2 fun ds es s Φ => ∃ (a : Act) (b : Bool), ds = [actD a] ∧ es = [.str (modeS b)] ∧ a.fits b ∧ Φ (.bl true) s := by
  obtain ⟨f, fd, hm, F⟩ := Df
  obtain ⟨mv, KB⟩ := F.kbinds0 (ps := ["thing", "scanning"]) 1 ["scanning"] [] (fun {α} vs mz zs => vs ++ zs) hkw (fun q hq => nomatch hq) (fun r1 _ r3 => r1.append r3) (fun Dd doc pm an cdv ct us mv ws h1 h2 h3 => match us, mv, ws, h1, h2, h3 with | [_], [], [_], _, _, _ => rfl)
  have FO := def_ok (P := P) (w := w) (mg := mg) (base := base) (k := 1) (N := ["thing", "scanning", "numbers", "number"]) (ps := ["thing", "scanning"]) (W := fun ds s Φ => ∃ (a : Act) (b : Bool), ds = [actD a, .str (modeS b)] ∧ a.fits b ∧ Φ (.bl true) s) F ⟨rfl, rfl, rfl, by decide +kernel, rfl, by decide +kernel, by decide +kernel⟩ (fun ds s Φ h => ?_) (fun cdv A outer sh H E hr ds s Φ h => ?_)
  · have FK := fnOk_kw FO KB (fun _ _ => rfl)
    refine ⟨f, hm, F.kp, fun A outer s H us ws vs zs Q E hr e0 r rz hz h => FK A outer s H us ws vs zs Q E hr e0 r rz hz ?_⟩
    obtain ⟨α, st, ds, es, Φ, so, dl, el, ⟨a, b, rfl, rfl, hf, q⟩, kk⟩ := h
    exact ⟨α, st, _, _, Φ, so, dl, el, ⟨rfl, a, b, rfl, hf, q⟩, kk⟩
  · obtain ⟨_, _, rfl, _⟩ := h
    rfl
  · obtain ⟨a, b, rfl, hf, k⟩ := h
    have nd : (["thing", "scanning", "numbers", "number"] : List Str).Nodup := by decide +kernel
    refine sms_cons (sm_if (tm_w (wm_or (tm_not (tm_val (em_callB (id := "isinstance") T.isinstance (am_cons (em_var 0 (am_cons (em_bty (n := "tuple") T.tuple (am_nil (vc_isi (actD a) "tuple" "tuple" true (asB (bif_FF (wm_or ?_)))))))))))))))
    refine tm_cmp (em_callB (id := "len") T.len (am_cons (em_var 0 (am_nil (vc_lenT (ds := .str a.word :: a.rest) (em_int (v2_eqI (asB (bif_df ?_ (wm_or1 (tm_not (tm_val ?_))))))))))))
    · rw [List.length_cons]
      omega
    refine em_callB (id := "isinstance") T.isinstance (am_cons (em_ix (em_var 0 (em_int (vi_tup (ds := .str a.word :: a.rest) (d := .str a.word) atI_0 (am_cons (em_bty (n := "str") T.str (am_nil (vc_isi (.str a.word) "str" "str" true (asB (bif_FF (sms_nil ?_))))))))))))
    refine sms_cons (sm_if (tm_cmp (em_callB (id := "len") T.len (am_cons (em_var 0 (am_nil (vc_lenT (ds := .str a.word :: a.rest) (em_call GS hr (am_cons (em_ix (em_var 0 (em_int (vi_tup (ds := .str a.word :: a.rest) (d := .str a.word) atI_0 (am_cons (em_var 1 (am_nil ⟨a, b, rfl, hf, v2_neI (asB ?_)⟩))))))))))))))))
    rw [List.length_cons]
    refine bif_nd (fun z => absurd rfl z) fun _ => sms_nil ?_
    refine sms_cut (fun ρ' s' => s' = s ∧ ∃ ns : List Nat, ns.length ≤ 10 ∧ ρ' = [some (actD a), some (.str (modeS b)), some (natsD ns), none]) (sm_set 2 nd (em_if (tm_w (wm_and (tm_cmp (em_ix (em_var 0 (em_int (vi_tup (ds := .str a.word :: a.rest) (d := .str a.word) atI_0 (em_str (v2_eqS (asB ?_)))))))))))) ?_
    · have cut : ∀ {N : En} {ρ : Slo}, True := trivial
      cases a with
      | store x f y =>
        refine bif_TT (wm_and1 (tm_cmp (em_ix (em_var 0 (em_int (vi_tup (ds := [.str "store", natD x, natD f, oD y]) (d := oD y) rfl (em_non (v2_isN (asB ?_)))))))))
        rw [isNon_oD]
        cases y with
        | none => exact bif_t (em_slice (em_var 0 (om_some (em_int ⟨_, rfl, om_some (em_int ⟨_, rfl, vsl_tup ⟨rfl, [x, f], Nat.le_of_ble_eq_true rfl, rfl⟩⟩)⟩))))
        | some y => exact bif_f (em_slice (em_var 0 (om_some (em_int ⟨_, rfl, om_none (vsl_tup ⟨rfl, [x, f, y], Nat.le_of_ble_eq_true rfl, rfl⟩)⟩))))
      | start => exact bif_FF (bif_f (em_slice (em_var 0 (om_some (em_int ⟨_, rfl, om_none (vsl_tup ⟨rfl, [], Nat.le_of_ble_eq_true rfl, rfl⟩)⟩)))))
      | look => exact bif_FF (bif_f (em_slice (em_var 0 (om_some (em_int ⟨_, rfl, om_none (vsl_tup ⟨rfl, [], Nat.le_of_ble_eq_true rfl, rfl⟩)⟩)))))
      | fin => exact bif_FF (bif_f (em_slice (em_var 0 (om_some (em_int ⟨_, rfl, om_none (vsl_tup ⟨rfl, [], Nat.le_of_ble_eq_true rfl, rfl⟩)⟩)))))
      | load r s f => exact bif_FF (bif_f (em_slice (em_var 0 (om_some (em_int ⟨_, rfl, om_none (vsl_tup ⟨rfl, [r, s, f], Nat.le_of_ble_eq_true rfl, rfl⟩)⟩)))))
      | move r s => exact bif_FF (bif_f (em_slice (em_var 0 (om_some (em_int ⟨_, rfl, om_none (vsl_tup ⟨rfl, [r, s], Nat.le_of_ble_eq_true rfl, rfl⟩)⟩)))))
      | clear r => exact bif_FF (bif_f (em_slice (em_var 0 (om_some (em_int ⟨_, rfl, om_none (vsl_tup ⟨rfl, [r], Nat.le_of_ble_eq_true rfl, rfl⟩)⟩)))))
      | new r => exact bif_FF (bif_f (em_slice (em_var 0 (om_some (em_int ⟨_, rfl, om_none (vsl_tup ⟨rfl, [r], Nat.le_of_ble_eq_true rfl, rfl⟩)⟩)))))
      | scan x => exact bif_FF (bif_f (em_slice (em_var 0 (om_some (em_int ⟨_, rfl, om_none (vsl_tup ⟨rfl, [x], Nat.le_of_ble_eq_true rfl, rfl⟩)⟩)))))
      | scanF x f => exact bif_FF (bif_f (em_slice (em_var 0 (om_some (em_int ⟨_, rfl, om_none (vsl_tup ⟨rfl, [x, f], Nat.le_of_ble_eq_true rfl, rfl⟩)⟩)))))
    · rintro ρ' s' ⟨rfl, ns, hl, rfl⟩
      refine sms_cons (sm_ret (em_callB (id := "all") T.all (am_cons (em_lcP (own := [("number", 3)]) (.one 3) nd (blk_ok rfl) (im_tup (em_var 2 ⟨ns.map natD, rfl, fun _ => true, fun _ => .bl true, fun _ => trivial, by rw [List.length_map]; omega, ?_, fun _ _ _ => trivial, am_nil (vc_all rfl (.lst _) (bs := ns.map fun _ => true) ?_ ?_)⟩)) (tg_one 3 nd)))))
      · intro d hd
        obtain ⟨i, _, rfl⟩ := List.mem_map.mp hd
        refine ⟨_, rfl, fun s' mm es => ⟨rfl, rfl, fun _ sh' H' C' cl fp => em_call GI hr (am_cons (em_var 3 (am_nil ⟨(i : Int), rfl, ?_, rfl⟩)))⟩⟩
        rw [decide_eq_true (Int.natCast_nonneg i)]
      · rw [List.filter_eq_self.mpr fun _ _ => rfl, List.map_map]
        unfold blsD
        rw [List.map_map]
        rfl
      · have : (ns.map fun _ => true).all id = true := by simp
        rw [this]
        exact k
end Sg
end T_P7

section T_P8
set_option autoImplicit true
set_option maxRecDepth 100000
set_option maxHeartbeats 4000000
namespace Sg
open PySem L2 Mp
variable {P : Program} {w : World} {K : PySem.W.Frag} {mg : Str → Option Value} {base : Heap}
theorem em_n {X : Cx} {ρ : Slo} {s : Sto} {Φ : Mp.D → Sto → Prop} {pos : Pos} {i : Int} {j} (h : Φ (.int i) s) : EM X ρ s (.Constant (.int i) j pos) Φ := em_int h
def wAct (r : Act → Mp.D) : Wt := fun ds s Φ => ∃ a : Act, ds = [actD a] ∧ Φ (r a) s
theorem g_named (T : Tx K mg) (Df : DefG K mg "registers_named" sNamed) : GFn P w K mg base "registers_named" 1 (wAct fun a => natsD a.named) := by
  refine mkG (N := ["step", "kind"]) (ps := ["step"]) Df ⟨rfl, rfl, rfl, by decide +kernel, rfl, by decide +kernel, by decide +kernel⟩ (fun _ _ _ _ _ _ us hl => match us, hl with | [_], _ => rfl) (fun ds s Φ h => ?_) fun f cdv A outer sh H E hr ds s Φ h => ?_
  · obtain ⟨_, rfl, _⟩ := h
    rfl
  · obtain ⟨a, rfl, k⟩ := h
    have nd : (["step", "kind"] : List Str).Nodup := by decide +kernel
    refine sms_cons (sm_set 1 nd (em_ix (em_v0 (em_int (vi_tup (ds := .str a.word :: a.rest) (d := .str a.word) atI_0 ?_)))))
    refine sms_cons (sm_if (tm_cmp (em_v1 (em_tup (am_cons (em_str (am_cons (em_str (am_nil ⟨Nat.le_of_ble_eq_true rfl, v2_inT rfl rfl (asB ?_)⟩)))))))))
    cases a with
    | load r s f => exact bif_TT (sms_cons (sm_ret (em_slice (em_v0 (om_some (em_int ⟨_, rfl, om_some (em_int ⟨_, rfl, vsl_tup k⟩)⟩))))))
    | move r s => exact bif_TT (sms_cons (sm_ret (em_slice (em_v0 (om_some (em_int ⟨_, rfl, om_some (em_int ⟨_, rfl, vsl_tup k⟩)⟩))))))
    | store x f y =>
      refine bif_FF (sms_nil (sms_cons (sm_if (tm_cmp (em_v1 (em_str (v2_eqS (asB (bif_TT (sms_cons (sm_ret (em_if (tm_cmp (em_ix (em_v0 (em_int (vi_tup (ds := [.str "store", natD x, natD f, oD y]) (d := oD y) rfl (em_non (v2_isN (asB ?_))))))))))))))))))))
      rw [isNon_oD]
      cases y with
      | none => exact bif_t (em_slice (em_v0 (om_some (em_int ⟨_, rfl, om_some (em_int ⟨_, rfl, vsl_tup k⟩)⟩))))
      | some y => exact bif_f (em_tup (am_cons (em_ix (em_v0 (em_int (vi_tup (ds := [.str "store", natD x, natD f, natD y]) (d := natD x) rfl (am_cons (em_ix (em_v0 (em_int (vi_tup (ds := [.str "store", natD x, natD f, natD y]) (d := natD y) rfl (am_nil ⟨Nat.le_of_ble_eq_true rfl, k⟩))))))))))))
    | clear r => exact bif_FF (sms_nil (sms_cons (sm_if (tm_cmp (em_v1 (em_str (v2_eqS (asB (bif_FF (sms_nil (sms_cons (sm_ret (em_if (tm_cmp (em_v1 (em_tup (am_cons (em_str (am_cons (em_str (am_nil ⟨Nat.le_of_ble_eq_true rfl, v2_inT rfl rfl (asB (bif_TT (em_slice (em_v0 (om_some (em_int ⟨_, rfl, om_none (vsl_tup k)⟩))))))⟩)))))))))))))))))))))
    | new r => exact bif_FF (sms_nil (sms_cons (sm_if (tm_cmp (em_v1 (em_str (v2_eqS (asB (bif_FF (sms_nil (sms_cons (sm_ret (em_if (tm_cmp (em_v1 (em_tup (am_cons (em_str (am_cons (em_str (am_nil ⟨Nat.le_of_ble_eq_true rfl, v2_inT rfl rfl (asB (bif_TT (em_slice (em_v0 (om_some (em_int ⟨_, rfl, om_none (vsl_tup k)⟩))))))⟩)))))))))))))))))))))
    | _ => exact bif_FF (sms_nil (sms_cons (sm_if (tm_cmp (em_v1 (em_str (v2_eqS (asB (bif_FF (sms_nil (sms_cons (sm_ret (em_if (tm_cmp (em_v1 (em_tup (am_cons (em_str (am_cons (em_str (am_nil ⟨Nat.le_of_ble_eq_true rfl, v2_inT rfl rfl (asB (bif_FF (em_tup (am_nil ⟨Nat.le_of_ble_eq_true rfl, k⟩))))⟩)))))))))))))))))))))
theorem g_heldOf (T : Tx K mg) (G : GFn P w K mg base "registers_named" 1 (wAct fun a => natsD a.named)) (Df : DefG K mg "registers_held" sHeldOf) : GFn P w K mg base "registers_held" 2 (wAct fun a => natsD a.needs) := by
  refine mkG (N := ["step", "kind"]) (ps := ["step"]) Df ⟨rfl, rfl, rfl, by decide +kernel, rfl, by decide +kernel, by decide +kernel⟩ (fun _ _ _ _ _ _ us hl => match us, hl with | [_], _ => rfl) (fun ds s Φ h => ?_) fun f cdv A outer sh H E hr ds s Φ h => ?_
  · obtain ⟨_, rfl, _⟩ := h
    rfl
  · obtain ⟨a, rfl, k⟩ := h
    have nd : (["step", "kind"] : List Str).Nodup := by decide +kernel
    refine sms_cons (sm_set 1 nd (em_ix (em_v0 (em_int (vi_tup (ds := .str a.word :: a.rest) (d := .str a.word) atI_0 ?_)))))
    refine sms_cons (sm_if (tm_cmp (em_v1 (em_tup (am_cons (em_str (am_cons (em_str (am_nil ⟨Nat.le_of_ble_eq_true rfl, v2_inT rfl rfl (asB ?_)⟩)))))))))
    cases a with
    | load r s f => exact bif_TT (sms_cons (sm_ret (em_slice (em_v0 (om_some (em_int ⟨_, rfl, om_some (em_int ⟨_, rfl, vsl_tup k⟩)⟩))))))
    | move r s => exact bif_TT (sms_cons (sm_ret (em_slice (em_v0 (om_some (em_int ⟨_, rfl, om_some (em_int ⟨_, rfl, vsl_tup k⟩)⟩))))))
    | store x f y =>
      have e : (Act.store x f y).needs = (Act.store x f y).named := by cases y <;> rfl
      have k : Φ (natsD (Act.store x f y).named) s := by rw [← e]; exact k
      exact bif_FF (sms_nil (sms_cons (sm_ret (em_if (tm_cmp (em_v1 (em_tup (am_cons (em_str (am_cons (em_str (am_nil ⟨Nat.le_of_ble_eq_true rfl, v2_inT rfl rfl (asB (bif_TT (em_call G hr (am_cons (em_v0 (am_nil ⟨.store x f y, rfl, k⟩))))))⟩))))))))))))
    | clear r => exact bif_FF (sms_nil (sms_cons (sm_ret (em_if (tm_cmp (em_v1 (em_tup (am_cons (em_str (am_cons (em_str (am_nil ⟨Nat.le_of_ble_eq_true rfl, v2_inT rfl rfl (asB (bif_TT (em_call G hr (am_cons (em_v0 (am_nil ⟨.clear r, rfl, k⟩))))))⟩))))))))))))
    | _ => exact bif_FF (sms_nil (sms_cons (sm_ret (em_if (tm_cmp (em_v1 (em_tup (am_cons (em_str (am_cons (em_str (am_nil ⟨Nat.le_of_ble_eq_true rfl, v2_inT rfl rfl (asB (bif_FF (em_tup (am_nil ⟨Nat.le_of_ble_eq_true rfl, k⟩))))⟩))))))))))))
theorem g_field (T : Tx K mg) (Df : DefG K mg "field_named" sField) : GFn P w K mg base "field_named" 1 (wAct fun a => oD a.field) := by
  refine mkG (N := ["step"]) (ps := ["step"]) Df ⟨rfl, rfl, rfl, by decide +kernel, rfl, by decide +kernel, by decide +kernel⟩ (fun _ _ _ _ _ _ us hl => match us, hl with | [_], _ => rfl) (fun ds s Φ h => ?_) fun f cdv A outer sh H E hr ds s Φ h => ?_
  · obtain ⟨_, rfl, _⟩ := h
    rfl
  · obtain ⟨a, rfl, k⟩ := h
    refine sms_cons (sm_if (tm_cmp (em_ix (em_v0 (em_int (vi_tup (ds := .str a.word :: a.rest) (d := .str a.word) atI_0 (em_str (v2_eqS (asB ?_)))))))))
    cases a with
    | load r s f => exact bif_TT (sms_cons (sm_ret (em_ix (em_v0 (em_int (vi_tup (ds := [.str "load", natD r, natD s, natD f]) (d := natD f) rfl k))))))
    | store x f y =>
      exact bif_FF (sms_nil (sms_cons (sm_if (tm_w (wm_or (tm_cmp (em_ix (em_v0 (em_int (vi_tup (ds := [.str "store", natD x, natD f, oD y]) (d := .str "store") rfl (em_str (v2_eqS (asB (bif_TT (bif_t (sms_cons (sm_ret (em_ix (em_v0 (em_int (vi_tup (ds := [.str "store", natD x, natD f, oD y]) (d := natD f) rfl k)))))))))))))))))))))
    | scanF x f =>
      exact bif_FF (sms_nil (sms_cons (sm_if (tm_w (wm_or (tm_cmp (em_ix (em_v0 (em_int (vi_tup (ds := [.str "scan", natD x, natD f]) (d := .str "scan") rfl (em_str (v2_eqS (asB (bif_FF (wm_or1 (tm_w (wm_and (tm_cmp (em_callB (id := "len") T.len (am_cons (em_v0 (am_nil (vc_lenT (ds := [.str "scan", natD x, natD f]) (em_int (v2_eqI (asB (bif_TT (wm_and1 (tm_cmp (em_ix (em_v0 (em_int (vi_tup (ds := [.str "scan", natD x, natD f]) (d := .str "scan") rfl (em_str (v2_eqS (asB (bif_TT (sms_cons (sm_ret (em_ix (em_v0 (em_int (vi_tup (ds := [.str "scan", natD x, natD f]) (d := natD f) rfl k)))))))))))))))))))))))))))))))))))))))))))
    | move x f =>
      exact bif_FF (sms_nil (sms_cons (sm_if (tm_w (wm_or (tm_cmp (em_ix (em_v0 (em_int (vi_tup (ds := [.str "move", natD x, natD f]) (d := .str "move") rfl (em_str (v2_eqS (asB (bif_FF (wm_or1 (tm_w (wm_and (tm_cmp (em_callB (id := "len") T.len (am_cons (em_v0 (am_nil (vc_lenT (ds := [.str "move", natD x, natD f]) (em_int (v2_eqI (asB (bif_TT (wm_and1 (tm_cmp (em_ix (em_v0 (em_int (vi_tup (ds := [.str "move", natD x, natD f]) (d := .str "move") rfl (em_str (v2_eqS (asB (bif_FF (sms_nil (sms_cons (sm_ret (em_non k)))))))))))))))))))))))))))))))))))))))))
    | start => exact bif_FF (sms_nil (sms_cons (sm_if (tm_w (wm_or (tm_cmp (em_ix (em_v0 (em_int (vi_tup (ds := [.str "start"]) (d := .str "start") rfl (em_str (v2_eqS (asB (bif_FF (wm_or1 (tm_w (wm_and (tm_cmp (em_callB (id := "len") T.len (am_cons (em_v0 (am_nil (vc_lenT (ds := [.str "start"]) (em_int (v2_eqI (asB (bif_FF (bif_f (sms_nil (sms_cons (sm_ret (em_non k))))))))))))))))))))))))))))))))
    | look => exact bif_FF (sms_nil (sms_cons (sm_if (tm_w (wm_or (tm_cmp (em_ix (em_v0 (em_int (vi_tup (ds := [.str "look"]) (d := .str "look") rfl (em_str (v2_eqS (asB (bif_FF (wm_or1 (tm_w (wm_and (tm_cmp (em_callB (id := "len") T.len (am_cons (em_v0 (am_nil (vc_lenT (ds := [.str "look"]) (em_int (v2_eqI (asB (bif_FF (bif_f (sms_nil (sms_cons (sm_ret (em_non k))))))))))))))))))))))))))))))))
    | fin => exact bif_FF (sms_nil (sms_cons (sm_if (tm_w (wm_or (tm_cmp (em_ix (em_v0 (em_int (vi_tup (ds := [.str "end"]) (d := .str "end") rfl (em_str (v2_eqS (asB (bif_FF (wm_or1 (tm_w (wm_and (tm_cmp (em_callB (id := "len") T.len (am_cons (em_v0 (am_nil (vc_lenT (ds := [.str "end"]) (em_int (v2_eqI (asB (bif_FF (bif_f (sms_nil (sms_cons (sm_ret (em_non k))))))))))))))))))))))))))))))))
    | clear r => exact bif_FF (sms_nil (sms_cons (sm_if (tm_w (wm_or (tm_cmp (em_ix (em_v0 (em_int (vi_tup (ds := [.str "clear", natD r]) (d := .str "clear") rfl (em_str (v2_eqS (asB (bif_FF (wm_or1 (tm_w (wm_and (tm_cmp (em_callB (id := "len") T.len (am_cons (em_v0 (am_nil (vc_lenT (ds := [.str "clear", natD r]) (em_int (v2_eqI (asB (bif_FF (bif_f (sms_nil (sms_cons (sm_ret (em_non k))))))))))))))))))))))))))))))))
    | new r => exact bif_FF (sms_nil (sms_cons (sm_if (tm_w (wm_or (tm_cmp (em_ix (em_v0 (em_int (vi_tup (ds := [.str "new", natD r]) (d := .str "new") rfl (em_str (v2_eqS (asB (bif_FF (wm_or1 (tm_w (wm_and (tm_cmp (em_callB (id := "len") T.len (am_cons (em_v0 (am_nil (vc_lenT (ds := [.str "new", natD r]) (em_int (v2_eqI (asB (bif_FF (bif_f (sms_nil (sms_cons (sm_ret (em_non k))))))))))))))))))))))))))))))))
    | scan r => exact bif_FF (sms_nil (sms_cons (sm_if (tm_w (wm_or (tm_cmp (em_ix (em_v0 (em_int (vi_tup (ds := [.str "scan", natD r]) (d := .str "scan") rfl (em_str (v2_eqS (asB (bif_FF (wm_or1 (tm_w (wm_and (tm_cmp (em_callB (id := "len") T.len (am_cons (em_v0 (am_nil (vc_lenT (ds := [.str "scan", natD r]) (em_int (v2_eqI (asB (bif_FF (bif_f (sms_nil (sms_cons (sm_ret (em_non k))))))))))))))))))))))))))))))))
end Sg
end T_P8

section T_P9
set_option autoImplicit true
set_option maxRecDepth 100000
set_option maxHeartbeats 4000000
namespace Sg
open PySem L2 Mp
variable {P : Program} {w : World} {K : PySem.W.Frag} {mg : Str → Option Value} {base : Heap}
abbrev sIsColor : Stmt := top 55
abbrev sIsEntry : Stmt := top 56
abbrev sListed : Stmt := top 57
abbrev sSorted : Stmt := top 58
abbrev colorsD : Mp.D := .tup [.str "white", .str "grey", .str "black"]
abbrev kindsD : Mp.D := .tup [.str "load", .str "old", .str "new", .str "source"]
/-! entries as data -/
def entP (e : Ent) : PyData := .tuple [.str e.1.s, .str e.2.s]
theorem toP_ent (e : Ent) : toP (entD e) = some (entP e) := rfl
theorem toPs_ents : ∀ l : List Ent, toPs (l.map entD) = some (l.map entP)
  | [] => rfl
  | a :: l => by
    show (match toP (entD a), toPs (l.map entD) with | some p, some ps => some (p :: ps) | _, _ => none) = _
    rw [toPs_ents l]
    rfl
theorem can_ent (e : Ent) : PyData.canLay0 (entP e) = true := by
  obtain ⟨a, c⟩ := e
  cases a <;> cases c <;> decide +kernel
theorem shaped_ent (e : Ent) : SeqAt.shaped (entP e) = true := by
  show (PyData.canLay0 (entP e) && decide (PyData.depth (entP e) ≤ 64)) = true
  rw [can_ent]
  rfl
theorem canAll_ents : ∀ l : List Ent, PyData.canLayAll0 (l.map entP) = true
  | [] => rfl
  | a :: l => by
    show (PyData.canLay0 (entP a) && PyData.canLayAll0 (l.map entP)) = true
    rw [can_ent, canAll_ents l]
    rfl
theorem depthAll_ents : ∀ l : List Ent, PyData.depthAll (l.map entP) ≤ 1
  | [] => Nat.zero_le _
  | a :: l => by
    show max 1 (PyData.depthAll (l.map entP)) ≤ 1
    have := depthAll_ents l
    omega
theorem shaped_ents (l : List Ent) : SeqAt.shaped (.tuple (l.map entP)) = true := by
  show (PyData.canLayAll0 (l.map entP) && decide (PyData.depthAll (l.map entP) + 1 ≤ 64)) = true
  rw [canAll_ents, Bool.true_and]
  have := depthAll_ents l
  exact decide_eq_true (by omega)
theorem eqv_ent (a b : Ent) : PyData.eqv (entP a) (entP b) = decide (a = b) := by
  obtain ⟨a1, a2⟩ := a
  obtain ⟨b1, b2⟩ := b
  cases a1 <;> cases a2 <;> cases b1 <;> cases b2 <;> decide +kernel
theorem any_ent (l : List Ent) (e : Ent) : ((l.map entP).any fun z => PyData.eqv z (entP e)) = decide (e ∈ l) := by
  rw [List.any_map]
  induction l with
  | nil => rfl
  | cons a l ih =>
    show (PyData.eqv (entP a) (entP e) || _) = _
    rw [ih, eqv_ent]
    by_cases h : a = e
    · subst h
      simp
    · have h' : ¬ e = a := fun z => h z.symm
      simp [h, h']
theorem v2_inE {X : Cx} {s : Sto} {Φ : Mp.D → Sto → Prop} {e : Ent} {l : List Ent} (hu : X.A.units + 65 < cLine) (h : Φ (.bl (decide (e ∈ l))) s) : V2 X (compareOp .In) (entD e) (entsD l) s Φ :=
  v2_inP hu (toP_ent e) (toPs_ents l) (shaped_ent e) (shaped_ents l) (any_ent l e) h
def wAll (n : Nat) (c : List Mp.D → Prop) (r : Mp.D) : Wt := fun ds s Φ => ds.length = n ∧ c ds ∧ Φ r s
theorem g_isColor (T : Tx K mg) (CC : GCon K mg "COLORS" colorsD) (Df : DefG K mg "is_color" sIsColor) : GFn P w K mg base "is_color" 1 fun ds s Φ => ∃ c : Col, ds = [colD c] ∧ Φ (.bl true) s := by
  refine mkG (N := ["thing"]) (ps := ["thing"]) Df ⟨rfl, rfl, rfl, by decide +kernel, rfl, by decide +kernel, by decide +kernel⟩ (fun _ _ _ _ _ _ us hl => match us, hl with | [_], _ => rfl) (fun ds s Φ h => ?_) fun f cdv A outer sh H E hr ds s Φ h => ?_
  · obtain ⟨_, rfl, _⟩ := h
    rfl
  · obtain ⟨c, rfl, k⟩ := h
    refine sms_cons (sm_ret (em_and (em_callB (id := "isinstance") T.isinstance (am_cons (em_v0 (am_cons (em_bty (n := "str") T.str (am_nil (vc_isi (colD c) "str" "str" true (asB (bif_t (em_one (em_cmp (em_v0 (em_glob CC (v2_inT rfl rfl ?_))))))))))))))))
    have : inD (colD c) [.str "white", .str "grey", .str "black"] = true := by cases c <;> decide +kernel
    rw [this]
    exact k
theorem g_isEntry (T : Tx K mg) (CK : GCon K mg "KINDS" kindsD) (G : GFn P w K mg base "is_color" 1 fun ds s Φ => ∃ c : Col, ds = [colD c] ∧ Φ (.bl true) s) (Df : DefG K mg "is_entry" sIsEntry) : GFn P w K mg base "is_entry" 2 fun ds s Φ => ∃ e : Ent, ds = [entD e] ∧ Φ (.bl true) s := by
  refine mkG (N := ["thing"]) (ps := ["thing"]) Df ⟨rfl, rfl, rfl, by decide +kernel, rfl, by decide +kernel, by decide +kernel⟩ (fun _ _ _ _ _ _ us hl => match us, hl with | [_], _ => rfl) (fun ds s Φ h => ?_) fun f cdv A outer sh H E hr ds s Φ h => ?_
  · obtain ⟨_, rfl, _⟩ := h
    rfl
  · obtain ⟨e, rfl, k⟩ := h
    refine sms_cons (sm_if (tm_w (wm_or (tm_not (tm_val (em_callB (id := "isinstance") T.isinstance (am_cons (em_v0 (am_cons (em_bty (n := "tuple") T.tuple (am_nil (vc_isi (entD e) "tuple" "tuple" true (asB (bif_FF (wm_or ?_)))))))))))))))
    refine tm_cmp (em_callB (id := "len") T.len (am_cons (em_v0 (am_nil (vc_lenT (em_int (v2_neI (asB (bif_FF (wm_or1 (tm_not (tm_val (em_callB (id := "isinstance") T.isinstance (am_cons (em_ix (em_v0 (em_int (vi_tup (d := .str e.1.s) rfl (am_cons (em_bty (n := "str") T.str (am_nil (vc_isi (.str e.1.s) "str" "str" true (asB (bif_FF (sms_nil ?_)))))))))))))))))))))))))
    refine sms_cons (sm_ret (em_and (em_cmp (em_ix (em_v0 (em_int (vi_tup (d := .str e.1.s) rfl (em_glob CK (v2_inT rfl rfl ?_)))))))))
    have : inD (.str e.1.s) [.str "load", .str "old", .str "new", .str "source"] = true := by
      obtain ⟨a, c⟩ := e
      cases a <;> cases c <;> decide +kernel
    rw [this]
    exact asB (bif_t (em_one (em_call G hr (am_cons (em_ix (em_v0 (em_int (vi_tup (d := colD e.2) rfl (am_nil ⟨e.2, rfl, k⟩)))))))))
def listedOf (l : List Ent) : List Ent := allEnts.filter fun e => decide (e ∈ l)
theorem g_listed (T : Tx K mg) (CE : GCon K mg "ENTRIES" (entsD allEnts)) (Df : DefG K mg "listed" sListed) : GFn P w K mg base "listed" 1 fun ds s Φ => ∃ l : List Ent, ds = [entsD l] ∧ Φ (entsD (listedOf l)) s := by
  refine mkG (N := ["entries", "entry"]) (ps := ["entries"]) Df ⟨rfl, rfl, rfl, by decide +kernel, rfl, by decide +kernel, by decide +kernel⟩ (fun _ _ _ _ _ _ us hl => match us, hl with | [_], _ => rfl) (fun ds s Φ h => ?_) fun f cdv A outer sh H E hr ds s Φ h => ?_
  · obtain ⟨_, rfl, _⟩ := h
    rfl
  · obtain ⟨l, rfl, k⟩ := h
    have nd : (["entries", "entry"] : List Str).Nodup := by decide +kernel
    have key : ∃ f : Mp.D → Bool, ∀ e : Ent, f (entD e) = decide (e ∈ l) := ⟨fun d => match d with
      | .tup [.str a, .str b] => l.any fun e => decide (e.1.s = a) && decide (e.2.s = b)
      | _ => false, fun e => by
        show (l.any fun x => decide (x.1.s = e.1.s) && decide (x.2.s = e.2.s)) = _
        by_cases h : e ∈ l
        · rw [decide_eq_true h]
          exact List.any_eq_true.mpr ⟨e, h, by simp⟩
        · rw [decide_eq_false h]
          refine List.any_eq_false.mpr fun x hx => ?_
          intro z
          simp only [Bool.and_eq_true, decide_eq_true_eq] at z
          exact h (by rw [show e = x from Prod.ext (Srt.inj z.1).symm (Col.inj z.2).symm]; exact hx)⟩
    obtain ⟨f, hf⟩ := key
    refine sms_cons (sm_ret (em_callTy (T := "tuple") T.tuple (am_cons (em_lcP (own := [("entry", 1)]) (.one 1) nd (blk_ok rfl) (im_tup (em_glob CE ⟨allEnts.map entD, rfl, f, fun d => d, fun _ => trivial, by rw [List.length_map]; exact Nat.le_of_ble_eq_true rfl, ?_, ?_, am_nil (vc_tupL (.lst _) ?_)⟩)) (tg_one 1 nd)))))
    · intro d hd
      obtain ⟨e, _, rfl⟩ := List.mem_map.mp hd
      refine ⟨_, rfl, fun s' mm es sh' H' C' cl fp => tm_cmp (em_v1 (em_v0 (v2_inE (room65 hr) (asB ⟨(hf e).symm, rfl, fun _ sh2 H2 C2 cl2 fp2 => em_v1 ⟨rfl, rfl⟩⟩))))⟩
    · intro d hd _
      obtain ⟨e, _, rfl⟩ := List.mem_map.mp hd
      exact ⟨trivial, trivial, trivial⟩
    · have e : ((allEnts.map entD).filter f).map (fun d => d) = (listedOf l).map entD := by
        rw [List.map_id', List.filter_map]
        unfold listedOf
        congr 1
        exact List.filter_congr fun x _ => hf x
      rw [e]
      exact k
def wSorted : WtK := fun ds es s Φ => ∃ l : List Ent, es = [] ∧ ds = l.map entD ∧ l.length ≤ 100 ∧ Φ (entsD (listedOf l)) s
theorem g_sorted (T : Tx K mg) (GE : GFn P w K mg base "is_entry" 2 fun ds s Φ => ∃ e : Ent, ds = [entD e] ∧ Φ (.bl true) s) (GL : GFn P w K mg base "listed" 1 fun ds s Φ => ∃ l : List Ent, ds = [entsD l] ∧ Φ (entsD (listedOf l)) s) (Df : DefG K mg "sorted_entries" sSorted) :
    GFnK P w K mg base "sorted_entries" [] 3 wSorted := by
  obtain ⟨f, fd, hm, F⟩ := Df
  refine ⟨f, hm, F.kp, def_star (N := ["entries", "index", "entry"]) (ps := []) (ks := []) (pv := "entries") bh_id F ⟨rfl, rfl, rfl, by decide +kernel, rfl, by decide +kernel, by decide +kernel⟩
    (fun kV doc pm an cdv ct us rest ws h1 h2 => match us, ws, rest, h1, h2 with | [], [], [], _, _ => rfl | [], [], _ :: _, _, _ => rfl) (fun ds es s Φ h => ?_) fun cdv A outer sh H E hr ds es s Φ h => ?_⟩
  · obtain ⟨l, rfl, rfl, h1, _⟩ := h
    simp
    omega
  · obtain ⟨l, rfl, rfl, hl, k⟩ := h
    have nd : (["entries", "index", "entry"] : List Str).Nodup := by decide +kernel
    refine sms_cut (fun ρ' s' => s' = s ∧ ∃ a b, ρ' = [some (entsD l), a, b]) (sm_for (im_enumT T.enumerate (em_v0 ⟨l.map entD, rfl, fun i ρ' s' => s' = s ∧ ∃ a b, ρ' = [some (entsD l), a, b], ⟨rfl, none, none, rfl⟩, ?_, ?_⟩))) ?_
    · rintro i x ρ' s' hi ⟨rfl, a, b, rfl⟩
      have hil : i < (l.map entD).length := by
        have := (List.getElem?_eq_some_iff.mp hi).1
        rwa [enumD_len] at this
      rw [enumD_at (List.getElem?_eq_getElem hil)] at hi
      cases hi
      refine ⟨trivial, gm_tup (n := 2) (gms_cons (gm_name 1 nd (gms_cons (gm_name 2 nd (gms_nil ?_))))) rfl⟩
      rw [List.length_map] at hil
      have e : (l.map entD)[i]'(by rw [List.length_map]; exact hil) = entD l[i] := List.getElem_map _
      rw [e]
      exact sms_cons (sm_if (tm_not (tm_val (em_call GE (hr.mono (by decide)) (am_cons (em_v2 (am_nil ⟨l[i], rfl, asB (bif_FF (sms_nil (sms_nil ⟨rfl, _, _, rfl⟩)))⟩)))))))
    · rintro ρ' s' ⟨rfl, a, b, rfl⟩
      exact ⟨trivial, rfl, a, b, rfl⟩
    · rintro ρ' s' ⟨rfl, a, b, rfl⟩
      exact sms_cons (sm_ret (em_call GL (hr.mono (by decide)) (am_cons (em_v0 (am_nil ⟨l, rfl, k⟩)))))
end Sg
end T_P9

section T_P10
set_option autoImplicit true
set_option maxRecDepth 100000
set_option maxHeartbeats 4000000
namespace Sg
open PySem L2 Mp
variable {P : Program} {w : World} {K : PySem.W.Frag} {mg : Str → Option Value} {base : Heap}
abbrev sTinit : Stmt := cls 70 2
abbrev sTempty : Stmt := cls 70 3
abbrev sTfresh : Stmt := cls 70 7
abbrev sTroots : Stmt := cls 70 8
abbrev sTwith : Stmt := cls 70 9
abbrev sTbeside : Stmt := cls 70 11
abbrev sTneed : Stmt := cls 70 13
abbrev sTor : Stmt := cls 70 14
abbrev sTcont : Stmt := cls 70 18
def ksT : List Str := ["kept", "kept_fresh", "kept_roots"]
abbrev rootsD : Mp.D := .tup [.str "once", .str "again"]
structure TabC (K : PySem.W.Frag) (C : Addr) : Prop where
  cl : Cls K C
  n1 : NoAttr K C "kept"
  n2 : NoAttr K C "kept_fresh"
  n3 : NoAttr K C "kept_roots"
  roots : ConD K C "ROOTS" rootsD
  self : PySem.W.selfFirst K C = true
def tabV (C : Addr) (l : List Ent) (c : Col) (b : Bool) : Mp.D := .ins C ksT [entsD l, colD c, .str (rootsS b)]
def tabD (C : Addr) (t : Tab) : Mp.D := tabV C t.kept t.fresh t.again
def wTinit (C : Addr) : WtK := fun ds es s Φ => ∃ (j : Nat) (l : List Ent) (c : Col) (b : Bool), ds = .ref j :: l.map entD ∧ es = [colD c, .str (rootsS b)] ∧ l.length ≤ 100 ∧ s[j]? = some (.ins C [] []) ∧ Φ .non (s.set j (.ins C ksT [entsD (listedOf l), colD c, .str (rootsS b)]))
theorem mk_tab {C : Addr} (T : Tx K mg) (TC : TabC K C) (GS : GFnK P w K mg base "sorted_entries" [] 3 wSorted) (GC : GFn P w K mg base "is_color" 1 fun ds s Φ => ∃ c : Col, ds = [colD c] ∧ Φ (.bl true) s) {kws : List (Str × V)}
    (Df : ∃ f fd, mg "Table" = some (.ref C) ∧ Mk K C f ∧ FunD K "__init__" "Table.__init__" (defArgs sTinit) (defBody sTinit) (defScope sTinit) [] kws f fd) : MkCK P w K mg base "Table" C ["fresh", "roots"] 4 (wTinit C) := by
  obtain ⟨f, fd, hm, mk, F⟩ := Df
  refine ⟨f, hm, mk, def_star (N := ["self", "fresh", "roots", "entries"]) (ps := ["self"]) (ks := ["fresh", "roots"]) (pv := "entries") bh_id F ⟨rfl, rfl, rfl, by decide +kernel, rfl, by decide +kernel, by decide +kernel⟩
    (fun kV doc pm an cdv ct us rest ws h1 h2 => match us, ws, rest, h1, h2 with | [_], [_, _], [], _, _ => rfl | [_], [_, _], _ :: _, _, _ => rfl) (fun ds es s Φ h => ?_) fun cdv A outer sh H E hr ds es s Φ h => ?_⟩
  · obtain ⟨j, l, c, b, rfl, rfl, h1, _⟩ := h
    simp
    omega
  · obtain ⟨j, l, c, b, rfl, rfl, hl, hj, k⟩ := h
    refine sms_cons (sm_setF (em_callS1 GS hr (em_v3 ⟨l.map entD, .tup _, l, rfl, rfl, hl, em_v0 ⟨j, C, _, _, rfl, hj, TC.cl, TC.n1, by decide, .inr ⟨by decide +kernel, ?_⟩⟩⟩)))
    refine sms_cons (sm_if (tm_not (tm_val (em_call GC (hr.mono (by decide)) (am_cons (em_v1 (am_nil ⟨c, rfl, asB (bif_FF (sms_nil ?_)) ⟩)))))))
    refine sms_cons (sm_if (tm_w (wm_or (tm_not (tm_val (em_callB (id := "isinstance") T.isinstance (am_cons (em_v2 (am_cons (em_bty (n := "str") T.str (am_nil (vc_isi (.str (rootsS b)) "str" "str" true (asB (bif_FF (wm_or1 (tm_cmp (em_v2 (em_con (em_v0 ⟨C, _, _, rootsD, .ref (set_get hj), TC.cl, TC.roots, by decide +kernel, v2_ninT rfl rfl (asB ?_)⟩)))))))))))))))))))
    have : inD (.str (rootsS b)) [.str "once", .str "again"] = true := by cases b <;> decide +kernel
    rw [this]
    refine bif_f (sms_nil ?_)
    refine sms_cons (sm_setF (em_v1 (em_v0 ⟨j, C, _, _, rfl, set_get hj, TC.cl, TC.n2, by decide, .inr ⟨by decide +kernel, ?_⟩⟩)))
    rw [List.set_set]
    refine sms_cons (sm_setF (em_v2 (em_v0 ⟨j, C, _, _, rfl, set_get hj, TC.cl, TC.n3, by decide, .inr ⟨by decide +kernel, ?_⟩⟩)))
    rw [List.set_set]
    exact sms_nil k
theorem bd_ents (n : Nat) (l : List Ent) : Bd n (entsD l) := bdL_of fun d hd => by
  obtain ⟨e, _, rfl⟩ := List.mem_map.mp hd
  exact ⟨trivial, trivial, trivial⟩
/-- what a table made is -/
theorem mkF_tab {C : Addr} {l : List Ent} {c : Col} {b : Bool} {s : Sto} {Φ : Mp.D → Sto → Prop} (hl : l.length ≤ 100) (h : Φ (tabV C (listedOf l) c b) s) : MkF (wTinit C) C (l.map entD) [colD c, .str (rootsS b)] s Φ := by
  refine ⟨s.length, l, c, b, rfl, rfl, hl, get_last _ _, ?_⟩
  rw [set_last]
  exact ⟨rfl, ksT, [entsD (listedOf l), colD c, .str (rootsS b)], rfl, fun _ _ => ⟨bd_ents _ _, trivial, trivial, trivial⟩, h⟩
def wTempty (C : Addr) : WtK := fun ds es s Φ => ∃ (c : Col) (b : Bool), ds = [.adr C] ∧ es = [colD c, .str (rootsS b)] ∧ Φ (tabV C [] c b) s
theorem c_empty {C : Addr} (TC : TabC K C) (I : MkCK P w K mg base "Table" C ["fresh", "roots"] 4 (wTinit C)) {kws : List (Str × V)} (hkw : kws ≠ [])
    (Df : ∃ mc p g fd, ClX.CRead K C mc ∧ ClX.CMet K C mc "empty" p g ∧ FunD K "empty" "Table.empty" (defArgs sTempty) (defBody sTempty) (defScope sTempty) [] kws g fd) : CFnK P w K mg base C "empty" ["fresh", "roots"] 6 (wTempty C) := by
  obtain ⟨mc, p, g, fd, r, c, F⟩ := Df
  obtain ⟨mv, KB⟩ := F.kbinds0 (ps := ["cls", "fresh", "roots"]) 1 ["fresh", "roots"] [] (fun {α} vs mz zs => vs ++ zs) hkw (fun q hq => nomatch hq) (fun r1 _ r3 => r1.append r3) (fun Dd doc pm an cdv ct us mv ws h1 h2 h3 => match us, mv, ws, h1, h2, h3 with | [_], [], [_, _], _, _, _ => rfl)
  have FO := def_ok (P := P) (w := w) (mg := mg) (base := base) (k := 5) (N := ["cls", "fresh", "roots"]) (ps := ["cls", "fresh", "roots"]) (W := fun ds s Φ => ∃ (c : Col) (b : Bool), ds = [.adr C, colD c, .str (rootsS b)] ∧ Φ (tabV C [] c b) s) F ⟨rfl, rfl, rfl, by decide +kernel, rfl, by decide +kernel, by decide +kernel⟩ (fun ds s Φ h => ?_) (fun cdv A outer sh H E hr ds s Φ h => ?_)
  · have FK := fnOk_kw FO KB (fun _ _ => rfl)
    refine ⟨mc, p, g, r, c, fun A outer s H us ws vs zs Q E hr e0 r rz hz h => FK A outer s H us ws vs zs Q E hr e0 r rz hz ?_⟩
    obtain ⟨α, st, ds, es, Φ, so, dl, el, ⟨a, b, rfl, rfl, q⟩, kk⟩ := h
    exact ⟨α, st, _, _, Φ, so, dl, el, ⟨rfl, a, b, rfl, q⟩, kk⟩
  · obtain ⟨_, _, rfl, _⟩ := h
    rfl
  · obtain ⟨c, b, rfl, k⟩ := h
    exact sms_cons (sm_ret (em_slotK (.inr rfl) I hr 0 (km_cons (em_v1 (km_cons (em_v2 (km_nil ⟨rfl, mkF_tab (l := []) (Nat.zero_le _) k⟩))))) rfl))
section
variable {X : Cx} {ρ : Slo} {s : Sto} {Φ : Mp.D → Sto → Prop} {pos p : Pos} {e : Expr} {C : Addr}
theorem at_kept (M : TabC X.K C) (h : EM X ρ s e fun x s1 => ∃ l c b, x = tabV C l c b ∧ Φ (entsD l) s1) (hb : attributeBase e "kept" X.env (eval e X.env) = eval e X.env := by rfl) : EM X ρ s (.Attribute e "kept" pos) Φ :=
  em_fld 0 (em_mono h fun x s1 ⟨l, c, b, e, q⟩ => ⟨C, ksT, [entsD l, colD c, .str (rootsS b)], entsD l, by rw [e]; exact .ins _ _ _, M.cl, M.n1, by decide +kernel, rfl, q⟩) hb
theorem at_kfresh (M : TabC X.K C) (h : EM X ρ s e fun x s1 => ∃ l c b, x = tabV C l c b ∧ Φ (colD c) s1) (hb : attributeBase e "kept_fresh" X.env (eval e X.env) = eval e X.env := by rfl) : EM X ρ s (.Attribute e "kept_fresh" pos) Φ :=
  em_fld 1 (em_mono h fun x s1 ⟨l, c, b, e, q⟩ => ⟨C, ksT, [entsD l, colD c, .str (rootsS b)], colD c, by rw [e]; exact .ins _ _ _, M.cl, M.n2, by decide +kernel, rfl, q⟩) hb
theorem at_kroots (M : TabC X.K C) (h : EM X ρ s e fun x s1 => ∃ l c b, x = tabV C l c b ∧ Φ (.str (rootsS b)) s1) (hb : attributeBase e "kept_roots" X.env (eval e X.env) = eval e X.env := by rfl) : EM X ρ s (.Attribute e "kept_roots" pos) Φ :=
  em_fld 2 (em_mono h fun x s1 ⟨l, c, b, e, q⟩ => ⟨C, ksT, [entsD l, colD c, .str (rootsS b)], .str (rootsS b), by rw [e]; exact .ins _ _ _, M.cl, M.n3, by decide +kernel, rfl, q⟩) hb
end
theorem p_fresh {C : Addr} (TC : TabC K C) (Df : DefP K C "fresh" "Table.fresh" sTfresh) : PFn P w K mg base C "fresh" 1 fun ds s Φ => ∃ l c b, ds = [tabV C l c b] ∧ Φ (colD c) s := by
  refine mkP (N := ["self"]) (ps := ["self"]) Df ⟨rfl, rfl, rfl, by decide +kernel, rfl, by decide +kernel, by decide +kernel⟩ (fun _ _ _ _ _ _ us hl => match us, hl with | [_], _ => rfl) (fun ds s Φ h => ?_) fun f cdv A outer sh H E hr ds s Φ h => ?_
  · obtain ⟨_, _, _, rfl, _⟩ := h
    rfl
  · obtain ⟨l, c, b, rfl, k⟩ := h
    exact sms_cons (sm_ret (at_kfresh TC (em_v0 ⟨l, c, b, rfl, k⟩)))
theorem p_roots {C : Addr} (TC : TabC K C) (Df : DefP K C "roots" "Table.roots" sTroots) : PFn P w K mg base C "roots" 1 fun ds s Φ => ∃ l c b, ds = [tabV C l c b] ∧ Φ (.str (rootsS b)) s := by
  refine mkP (N := ["self"]) (ps := ["self"]) Df ⟨rfl, rfl, rfl, by decide +kernel, rfl, by decide +kernel, by decide +kernel⟩ (fun _ _ _ _ _ _ us hl => match us, hl with | [_], _ => rfl) (fun ds s Φ h => ?_) fun f cdv A outer sh H E hr ds s Φ h => ?_
  · obtain ⟨_, _, _, rfl, _⟩ := h
    rfl
  · obtain ⟨l, c, b, rfl, k⟩ := h
    exact sms_cons (sm_ret (at_kroots TC (em_v0 ⟨l, c, b, rfl, k⟩)))
theorem m_with {C : Addr} (TC : TabC K C) (I : MkCK P w K mg base "Table" C ["fresh", "roots"] 4 (wTinit C)) (Df : DefM K C "with_entries" "Table.with_entries" sTwith) :
    MFn P w K mg base C "with_entries" 6 fun ds s Φ => ∃ l c b l2, ds = [tabV C l c b, entsD l2] ∧ l2.length ≤ 100 ∧ Φ (tabV C (listedOf l2) c b) s := by
  refine mkM (N := ["self", "entries"]) (ps := ["self", "entries"]) Df ⟨rfl, rfl, rfl, by decide +kernel, rfl, by decide +kernel, by decide +kernel⟩ (fun _ _ _ _ _ _ us hl => match us, hl with | [_, _], _ => rfl) (fun ds s Φ h => ?_) fun f cdv A outer sh H E hr ds s Φ h => ?_
  · obtain ⟨_, _, _, _, rfl, _⟩ := h
    rfl
  · obtain ⟨l, c, b, l2, rfl, hl, k⟩ := h
    exact sms_cons (sm_ret (em_makeS (.inr rfl) I hr (em_v1 ⟨l2.map entD, rfl, km_cons (at_kfresh TC (em_v0 ⟨l, c, b, rfl, km_cons (at_kroots TC (em_v0 ⟨l, c, b, rfl, km_nil ⟨rfl, mkF_tab hl k⟩⟩))⟩))⟩)))
theorem m_beside {C : Addr} (TC : TabC K C) (Df : DefM K C "is_beside" "Table.is_beside" sTbeside) : MFn P w K mg base C "is_beside" 1 fun ds s Φ => ∃ l l2 c b, ds = [tabV C l c b, tabV C l2 c b] ∧ Φ (.bl true) s := by
  refine mkM (N := ["self", "other"]) (ps := ["self", "other"]) Df ⟨rfl, rfl, rfl, by decide +kernel, rfl, by decide +kernel, by decide +kernel⟩ (fun _ _ _ _ _ _ us hl => match us, hl with | [_, _], _ => rfl) (fun ds s Φ h => ?_) fun f cdv A outer sh H E hr ds s Φ h => ?_
  · obtain ⟨_, _, _, _, rfl, _⟩ := h
    rfl
  · obtain ⟨l, l2, c, b, rfl, k⟩ := h
    refine sms_cons (sm_ret (em_and (em_cmp (at_kfresh TC (em_v0 ⟨l, c, b, rfl, at_kfresh TC (em_v1 ⟨l2, c, b, rfl, v2_eqS ?_⟩)⟩)))))
    rw [decide_eq_true rfl]
    refine asB (bif_t (em_one (em_cmp (at_kroots TC (em_v0 ⟨l, c, b, rfl, at_kroots TC (em_v1 ⟨l2, c, b, rfl, v2_eqS ?_⟩)⟩)))))
    rw [decide_eq_true rfl]
    exact k
theorem m_need {C : Addr} (TC : TabC K C) (M : MFn P w K mg base C "is_beside" 1 fun ds s Φ => ∃ l l2 c b, ds = [tabV C l c b, tabV C l2 c b] ∧ Φ (.bl true) s) (Df : DefM K C "need_beside" "Table.need_beside" sTneed) : MFn P w K mg base C "need_beside" 2 fun ds s Φ => ∃ l l2 c b, ds = [tabV C l c b, tabV C l2 c b] ∧ Φ .non s := by
  refine mkM (N := ["self", "other"]) (ps := ["self", "other"]) Df ⟨rfl, rfl, rfl, by decide +kernel, rfl, by decide +kernel, by decide +kernel⟩ (fun _ _ _ _ _ _ us hl => match us, hl with | [_, _], _ => rfl) (fun ds s Φ h => ?_) fun f cdv A outer sh H E hr ds s Φ h => ?_
  · obtain ⟨_, _, _, _, rfl, _⟩ := h
    rfl
  · obtain ⟨l, l2, c, b, rfl, k⟩ := h
    exact sms_cons (sm_if (tm_not (tm_val (em_meth M hr (em_v0 ⟨_, _, .ins _ _ _, by decide +kernel, am_cons (em_v1 (am_nil ⟨l, l2, c, b, rfl, asB (bif_FF (sms_nil (sms_nil k)))⟩))⟩)))))
def wTor (C : Addr) : WtK := fun ds es s Φ => ∃ l l2 c b, es = [] ∧ ds = [tabV C l c b, tabV C l2 c b] ∧ l.length + l2.length ≤ 100 ∧ Φ (tabV C (listedOf (listedOf (l ++ l2))) c b) s
theorem m_or {C : Addr} (TC : TabC K C) (GL : GFn P w K mg base "listed" 1 fun ds s Φ => ∃ l : List Ent, ds = [entsD l] ∧ Φ (entsD (listedOf l)) s)
    (M : MFn P w K mg base C "need_beside" 2 fun ds s Φ => ∃ l l2 c b, ds = [tabV C l c b, tabV C l2 c b] ∧ Φ .non s) (MW : MFn P w K mg base C "with_entries" 6 fun ds s Φ => ∃ l c b l2, ds = [tabV C l c b, entsD l2] ∧ l2.length ≤ 100 ∧ Φ (tabV C (listedOf l2) c b) s)
    (Df : DefB K C "__or__" "Table.__or__" sTor) : MFnK P w K mg base C "__or__" [] 7 (wTor C) := by
  obtain ⟨f, fd, bm, cl, F⟩ := Df
  refine ⟨cl, f, bm, ?_⟩
  have FO := def_ok (P := P) (w := w) (mg := mg) (base := base) (k := 6) (N := ["self", "other"]) (ps := ["self", "other"]) (W := fun ds s Φ => wTor C ds [] s Φ) F ⟨rfl, rfl, rfl, by decide +kernel, rfl, by decide +kernel, by decide +kernel⟩ (fun ds s Φ h => ?_) (fun cdv A outer sh H E hr ds s Φ h => ?_)
  · have FK := fnOk_rk FO (F.bindsN fun _ _ _ _ _ _ us hl => match us, hl with | [_, _], _ => rfl)
    refine fun A outer s H us ws vs zs Q E hr e0 r rz hz h => FK A outer s H us ws vs zs Q E hr e0 r rz hz ?_
    obtain ⟨α, st, ds, es, Φ, so, dl, el, q, kk⟩ := h
    refine ⟨α, st, ds, es, Φ, so, dl, el, ?_, kk⟩
    obtain ⟨l, l2, c, b, rfl, h⟩ := q
    exact ⟨l, l2, c, b, rfl, h⟩
  · obtain ⟨_, _, _, _, _, rfl, _⟩ := h
    rfl
  · obtain ⟨l, l2, c, b, _, rfl, hl, k⟩ := h
    refine sms_cons (sm_expr (em_meth M (hr.mono (by decide)) (em_v0 ⟨_, _, .ins _ _ _, by decide +kernel, am_cons (em_v1 (am_nil ⟨l, l2, c, b, rfl, ?_⟩))⟩)))
    refine sms_cons (sm_ret (em_meth MW hr (em_v0 ⟨_, _, .ins _ _ _, by decide +kernel, am_cons (em_call GL (hr.mono (by decide)) (am_cons (em_bin (at_kept TC (em_v0 ⟨l, c, b, rfl, at_kept TC (em_v1 ⟨l2, c, b, rfl, v2_addT (by rw [List.length_map, List.length_map]; omega) (am_nil ⟨l ++ l2, ?_, am_nil ⟨l, c, b, listedOf (l ++ l2), rfl, ?_, k⟩⟩)⟩)⟩)))))⟩)))
    · unfold entsD
      rw [List.map_append]
    · exact Nat.le_trans (List.length_filter_le _ _) (Nat.le_of_ble_eq_true rfl)
def wTcont (C : Addr) : WtK := fun ds es s Φ => ∃ l c b e, es = [] ∧ ds = [tabV C l c b, entD e] ∧ Φ (.bl (decide (e ∈ l))) s
theorem m_cont {C : Addr} (TC : TabC K C) (GE : GFn P w K mg base "is_entry" 2 fun ds s Φ => ∃ e : Ent, ds = [entD e] ∧ Φ (.bl true) s) (Df : DefB K C "__contains__" "Table.__contains__" sTcont) : MFnK P w K mg base C "__contains__" [] 3 (wTcont C) := by
  obtain ⟨f, fd, bm, cl, F⟩ := Df
  refine ⟨cl, f, bm, ?_⟩
  have FO := def_ok (P := P) (w := w) (mg := mg) (base := base) (k := 2) (N := ["self", "thing"]) (ps := ["self", "thing"]) (W := fun ds s Φ => wTcont C ds [] s Φ) F ⟨rfl, rfl, rfl, by decide +kernel, rfl, by decide +kernel, by decide +kernel⟩ (fun ds s Φ h => ?_) (fun cdv A outer sh H E hr ds s Φ h => ?_)
  · have FK := fnOk_rk FO (F.bindsN fun _ _ _ _ _ _ us hl => match us, hl with | [_, _], _ => rfl)
    refine fun A outer s H us ws vs zs Q E hr e0 r rz hz h => FK A outer s H us ws vs zs Q E hr e0 r rz hz ?_
    obtain ⟨α, st, ds, es, Φ, so, dl, el, q, kk⟩ := h
    refine ⟨α, st, ds, es, Φ, so, dl, el, ?_, kk⟩
    obtain ⟨l, c, b, e, rfl, h⟩ := q
    exact ⟨l, c, b, e, rfl, h⟩
  · obtain ⟨_, _, _, _, _, rfl, _⟩ := h
    rfl
  · obtain ⟨l, c, b, e, _, rfl, k⟩ := h
    exact sms_cons (sm_ret (em_and (em_call GE hr (am_cons (em_v1 (am_nil ⟨e, rfl, asB (bif_t (em_one (em_cmp (em_v1 (at_kept TC (em_v0 ⟨l, c, b, rfl, v2_inE (room65 hr) k⟩))))))⟩))))))
end Sg
end T_P10

section T_P11
set_option autoImplicit true
set_option maxRecDepth 100000
set_option maxHeartbeats 4000000
namespace Sg
open PySem L2 Mp
variable {P : Program} {w : World} {K : PySem.W.Frag} {mg : Str → Option Value} {base : Heap}
abbrev sCinit : Stmt := cls 73 3
abbrev sNow : Stmt := cls 73 5
abbrev sCheap : Stmt := cls 73 9
abbrev sCregs : Stmt := cls 73 10
abbrev sCstate : Stmt := cls 73 13
abbrev sCphase : Stmt := cls 73 14
abbrev sCold : Stmt := cls 73 17
abbrev sCreach : Stmt := cls 73 19
def ksC : List Str := ["wide", "many", "first", "rule", "story"]
def cyc (C : Addr) (wd n : Nat) (first : List Nat) (tab : Mp.D) (story : List Mp.D) : MO := .ins C ksC [.int wd, .int n, natsD first, tab, .lst story]
structure CycC (K : PySem.W.Frag) (C : Addr) (b : Bool) : Prop where
  cl : Cls K C
  n1 : NoAttr K C "wide"
  n2 : NoAttr K C "many"
  n3 : NoAttr K C "first"
  n4 : NoAttr K C "rule"
  n5 : NoAttr K C "story"
  scan : ConD K C "SCANNING" (.str (modeS b))
  mo : ConD K C "MOST_OBJECTS" (.int 40)
  mr : ConD K C "MOST_REGISTERS" (.int 6)
def wCinit (C CM : Addr) : WtK := fun ds es s Φ => ∃ (j wd : Nat) (rows : List Row) (held : Row) (tab : Mp.D), ds = .ref j :: heapD wd rows :: held.map oD ∧ es = [tab] ∧ Mp.isNon tab = false ∧ NetOk wd rows ∧ 1 ≤ held.length ∧ held.length ≤ 6 ∧ (∀ o ∈ held, ∀ i, o = some i → i < rows.length) ∧ s[j]? = some (.ins C [] []) ∧
  ∀ first : List Nat, (∀ x, x ∈ first ↔ Reaches rows (held.filterMap id) x) → first.length ≤ 40 → Φ .non (s.set j (cyc C wd rows.length first tab [.tup [.non, moD CM (firstMo rows held)]]))
abbrev GReachable (P : Program) (w : World) (K : PySem.W.Frag) (mg : Str → Option Value) (base : Heap) (y : Str) : Prop := GFn P w K mg base y 4 fun ds s Φ => ∃ (wd : Nat) (rows : List Row) (held : Row), ds = [heapD wd rows, rowD held] ∧ FldOk rows ∧ rows.length ≤ 40 ∧ held.length ≤ 50 ∧ (∀ o ∈ held, ∀ i, o = some i → i < rows.length) ∧
      ∀ l : List Nat, (∀ x, x ∈ l ↔ Reaches rows (held.filterMap id) x) → l.length ≤ 40 → Φ (natsD l) s
theorem mk_cyc {C CM : Addr} {b : Bool} {x : Str} (T : Tx K mg) (CC : CycC K C b) (GH : GFn P w K mg base "is_heap" 3 fun ds s Φ => ∃ (wd : Nat) (rows : List Row), ds = [heapD wd rows] ∧ NetOk wd rows ∧ Φ (.bl true) s)
    (GI : GFn P w K mg base "is_index" 1 fun ds s Φ => ∃ i : Int, ds = [.int i] ∧ Φ (.bl (decide (0 ≤ i))) s) (GR : GReachable P w K mg base "reachable_reaching")
    (GF : GFn P w K mg base "first_moment" 3 fun ds s Φ => ∃ (wd : Nat) (rows : List Row) (held : Row), ds = [heapD wd rows, rowD held] ∧ rows.length ≤ 100 ∧ Φ (moD CM (firstMo rows held)) s) {kws : List (Str × V)}
    (Df : ∃ f fd, mg x = some (.ref C) ∧ Mk K C f ∧ FunD K "__init__" "Cycle.__init__" (defArgs sCinit) (defBody sCinit) (defScope sCinit) [] kws f fd) : MkCK P w K mg base x C ["table"] 5 (wCinit C CM) := by
  obtain ⟨f, fd, hm, mk, F⟩ := Df
  refine ⟨f, hm, mk, def_star (N := ["self", "heap", "table", "registers", "at", "x"]) (ps := ["self", "heap"]) (ks := ["table"]) (pv := "registers") bh_id F ⟨rfl, rfl, rfl, by decide +kernel, rfl, by decide +kernel, by decide +kernel⟩
    (fun kV doc pm an cdv ct us rest ws h1 h2 => match us, ws, rest, h1, h2 with | [_, _], [_], [], _, _ => rfl | [_, _], [_], _ :: _, _, _ => rfl) (fun ds es s Φ h => ?_) fun cdv A outer sh H E hr ds es s Φ h => ?_⟩
  · obtain ⟨j, wd, rows, held, tab, rfl, rfl, _, _, _, h6, _⟩ := h
    simp
    omega
  · obtain ⟨j, wd, rows, held, tab, rfl, rfl, ht, ok, h1, h6, hh, hj, k⟩ := h
    have nd : (["self", "heap", "table", "registers", "at", "x"] : List Str).Nodup := by decide +kernel
    refine sms_cons (sm_if (tm_not (tm_val (em_call GH (hr.mono (by decide)) (am_cons (em_v1 (am_nil ⟨wd, rows, rfl, ok, asB (bif_FF (sms_nil ?_))⟩)))))))
    refine sms_cons (sm_if (tm_w (wm_or (tm_cmp (em_callB (id := "len") T.len (am_cons (em_v3 (am_nil (vc_lenT (ds := held.map oD) (em_int (v2_eqI (asB (bif_df (by rw [List.length_map]; omega) (wm_or1 (tm_cmp (em_callB (id := "len") T.len (am_cons (em_v3 (am_nil (vc_lenT (ds := held.map oD) (em_con (em_v0 ⟨C, _, _, .int 6, .ref hj, CC.cl, CC.mr, by decide +kernel, v2_gt (asB (bif_df (by rw [List.length_map]; omega) (sms_nil ?_)))⟩))))))))))))))))))))))
    refine sms_cut (fun ρ' s' => s' = s ∧ ∃ a b, ρ' = [some (.ref j), some (heapD wd rows), some tab, some (rowD held), a, b]) (sm_for (im_enumT T.enumerate (em_v3 ⟨held.map oD, rfl, fun i ρ' s' => s' = s ∧ ∃ a b, ρ' = [some (.ref j), some (heapD wd rows), some tab, some (rowD held), a, b], ⟨rfl, none, none, rfl⟩, ?_, ?_⟩))) ?_
    · rintro i x ρ' s' hi ⟨rfl, a, b, rfl⟩
      have hil : i < (held.map oD).length := by
        have := (List.getElem?_eq_some_iff.mp hi).1
        rwa [enumD_len] at this
      rw [enumD_at (List.getElem?_eq_getElem hil)] at hi
      cases hi
      refine ⟨trivial, gm_tup (n := 2) (gms_cons (gm_name 4 nd (gms_cons (gm_name 5 nd (gms_nil ?_))))) rfl⟩
      rw [List.length_map] at hil
      have e : (held.map oD)[i]'(by rw [List.length_map]; exact hil) = oD held[i] := List.getElem_map _
      have hm : held[i] ∈ held := List.getElem_mem hil
      rw [e]
      generalize held[i] = o at hm
      refine sms_cons (sm_if (tm_w (wm_and (tm_cmp (em_v5 (em_non (v2_notN (asB ?_))))))))
      rw [isNon_oD]
      cases o with
      | none => exact bif_f (bif_f (sms_nil (sms_nil ⟨rfl, _, _, rfl⟩)))
      | some y =>
        have hy := hh _ hm y rfl
        refine bif_t (wm_and1 (tm_not (tm_w (wm_and (tm_val (em_call GI (hr.mono (by decide)) (am_cons (em_v5 (am_nil ⟨(y : Int), rfl, asB (bif_dt (Int.natCast_nonneg y) (wm_and1 (tm_cmp (em_v5 (em_callB (id := "len") T.len (am_cons (em_ix (em_v1 (em_int (vi_tup (d := rowsD rows) rfl (am_nil (vc_lenT (ds := rows.map rowD) (v2_lt (asB ?_))))))))))))))⟩)))))))))
        rw [List.length_map, decide_eq_true (show (y : Int) < (rows.length : Nat) by omega)]
        exact bif_f (sms_nil (sms_nil ⟨rfl, _, _, rfl⟩))
    · rintro ρ' s' ⟨rfl, a, b, rfl⟩
      exact ⟨trivial, rfl, a, b, rfl⟩
    · rintro ρ' s' ⟨rfl, a, b', rfl⟩
      refine sms_cons (sm_setF (em_ix (em_v1 (em_int (vi_tup (d := .int wd) rfl (em_v0 ⟨j, C, _, _, rfl, hj, CC.cl, CC.n1, by decide, .inr ⟨by decide +kernel, ?_⟩⟩))))))
      refine sms_cons (sm_setF (em_callB (id := "len") T.len (am_cons (em_ix (em_v1 (em_int (vi_tup (d := rowsD rows) rfl (am_nil (vc_lenT (ds := rows.map rowD) (em_v0 ⟨j, C, _, _, rfl, set_get hj, CC.cl, CC.n2, by decide, .inr ⟨by decide +kernel, ?_⟩⟩))))))))))
      rw [List.set_set]
      refine sms_cons (sm_setF (em_call GR hr (am_cons (em_v1 (am_cons (em_v3 (am_nil ⟨wd, rows, held, rfl, ok.fld, ok.few, by omega, hh, fun first hf hl => em_v0 ⟨j, C, _, _, rfl, set_get hj, CC.cl, CC.n3, by decide, .inr ⟨by decide +kernel, ?_⟩⟩⟩)))))))
      rw [List.set_set]
      refine sms_cons (sm_setF (em_if (tm_cmp (em_v2 (em_non (v2_isN (asB ?_)))))))
      rw [ht]
      refine bif_f (em_v2 (em_v0 ⟨j, C, _, _, rfl, set_get hj, CC.cl, CC.n4, by decide, .inr ⟨by decide +kernel, ?_⟩⟩))
      rw [List.set_set]
      refine sms_cons (sm_setF (em_lst (am_cons (em_tup (am_cons (em_non (am_cons (em_call GF (hr.mono (by decide)) (am_cons (em_v1 (am_cons (em_v3 (am_nil ⟨wd, rows, held, rfl, by have := ok.few; omega, am_nil ⟨Nat.le_of_ble_eq_true rfl, am_nil ⟨Nat.le_of_ble_eq_true rfl, em_v0 ⟨j, C, _, _, rfl, set_get hj, CC.cl, CC.n5, by decide, .inr ⟨by decide +kernel, ?_⟩⟩⟩⟩⟩)))))))))))))
      rw [List.set_set]
      rw [List.length_map]
      exact sms_nil (k first hf hl)
end Sg
end T_P11

section T_P12
set_option autoImplicit true
set_option maxRecDepth 100000
set_option maxHeartbeats 4000000
namespace Mp
open PySem PySem.Spec PyProof.Rows L2
theorem em_neg {X : Cx} {ρ : Slo} {s : Sto} {Φ : D → Sto → Prop} {pos : Pos} {a : Expr} (h : EM X ρ s a fun d s1 => ∃ i, d = .int i ∧ Φ (.int (-i)) s1) : EM X ρ s (.UnaryOp .USub a pos) Φ := by
  intro α σ H Q so re k
  refine toRE (pe_un un_neg pe_sem) (h α σ H _ so re ?_)
  rintro γ s1 d v H1 w1 da ⟨i, rfl, q⟩
  exact ⟨i, da, (k.step so w1).nowI w1.ok q⟩
end Mp
namespace Sg
open PySem L2 Mp
variable {P : Program} {w : World} {K : PySem.W.Frag} {mg : Str → Option Value} {base : Heap}
section
variable {X : Cx} {ρ : Slo} {s : Sto} {Φ : Mp.D → Sto → Prop} {pos p : Pos} {e : Expr} {C : Addr} {b : Bool}
theorem at_wide (M : CycC X.K C b) (h : EM X ρ s e fun x s1 => ∃ j wd n f t l, x = .ref j ∧ s1[j]? = some (cyc C wd n f t l) ∧ Φ (.int wd) s1) (hb : attributeBase e "wide" X.env (eval e X.env) = eval e X.env := by rfl) : EM X ρ s (.Attribute e "wide" pos) Φ :=
  em_fld 0 (em_mono h fun x s1 ⟨j, wd, n, f, t, l, e, c, q⟩ => ⟨C, ksC, [.int wd, .int n, natsD f, t, .lst l], .int wd, by rw [e]; exact .ref c, M.cl, M.n1, by decide +kernel, rfl, q⟩) hb
theorem at_first (M : CycC X.K C b) (h : EM X ρ s e fun x s1 => ∃ j wd n f t l, x = .ref j ∧ s1[j]? = some (cyc C wd n f t l) ∧ Φ (natsD f) s1) (hb : attributeBase e "first" X.env (eval e X.env) = eval e X.env := by rfl) : EM X ρ s (.Attribute e "first" pos) Φ :=
  em_fld 2 (em_mono h fun x s1 ⟨j, wd, n, f, t, l, e, c, q⟩ => ⟨C, ksC, [.int wd, .int n, natsD f, t, .lst l], natsD f, by rw [e]; exact .ref c, M.cl, M.n3, by decide +kernel, rfl, q⟩) hb
theorem at_rule (M : CycC X.K C b) (h : EM X ρ s e fun x s1 => ∃ j wd n f t l, x = .ref j ∧ s1[j]? = some (cyc C wd n f t l) ∧ Φ t s1) (hb : attributeBase e "rule" X.env (eval e X.env) = eval e X.env := by rfl) : EM X ρ s (.Attribute e "rule" pos) Φ :=
  em_fld 3 (em_mono h fun x s1 ⟨j, wd, n, f, t, l, e, c, q⟩ => ⟨C, ksC, [.int wd, .int n, natsD f, t, .lst l], t, by rw [e]; exact .ref c, M.cl, M.n4, by decide +kernel, rfl, q⟩) hb
theorem at_story (M : CycC X.K C b) (h : EM X ρ s e fun x s1 => ∃ j wd n f t l, x = .ref j ∧ s1[j]? = some (cyc C wd n f t l) ∧ Φ (.lst l) s1) (hb : attributeBase e "story" X.env (eval e X.env) = eval e X.env := by rfl) : EM X ρ s (.Attribute e "story" pos) Φ :=
  em_fld 4 (em_mono h fun x s1 ⟨j, wd, n, f, t, l, e, c, q⟩ => ⟨C, ksC, [.int wd, .int n, natsD f, t, .lst l], .lst l, by rw [e]; exact .ref c, M.cl, M.n5, by decide +kernel, rfl, q⟩) hb
end
/-- the cycle at cell j, its last moment -/
def CycAt (C CM : Addr) (s : Sto) (j wd n : Nat) (first : List Nat) (tab : Mp.D) (m : Mo) : Prop := ∃ (l : List Mp.D) (x : Mp.D), s[j]? = some (cyc C wd n first tab (l ++ [.tup [x, moD CM m]])) ∧ l.length ≤ 200
theorem last_at {l : List Mp.D} {x : Mp.D} : atI (l ++ [x]) (-1) = some x := by
  unfold atI ixN
  rw [List.length_append, List.length_singleton, if_neg (by decide), if_pos (by omega)]
  have : (-1 + ((l.length + 1 : Nat) : Int)).toNat = l.length := by omega
  rw [this]
  show (l ++ [x])[l.length]? = some x
  rw [List.getElem?_append_right (Nat.le_refl _), Nat.sub_self]
  rfl
def wCyc (C CM : Addr) (r : Nat → Nat → List Nat → Mp.D → Mo → Mp.D) : Wt := fun ds s Φ => ∃ j wd n f t m, ds = [.ref j] ∧ CycAt C CM s j wd n f t m ∧ Φ (r wd n f t m) s
theorem m_now {C CM : Addr} {b : Bool} (CC : CycC K C b) (Df : DefM K C "now" "Cycle.now" sNow) : MFn P w K mg base C "now" 1 (wCyc C CM fun _ _ _ _ m => moD CM m) := by
  refine mkM (N := ["self"]) (ps := ["self"]) Df ⟨rfl, rfl, rfl, by decide +kernel, rfl, by decide +kernel, by decide +kernel⟩ (fun _ _ _ _ _ _ us hl => match us, hl with | [_], _ => rfl) (fun ds s Φ h => ?_) fun f cdv A outer sh H E hr ds s Φ h => ?_
  · obtain ⟨_, _, _, _, _, _, rfl, _⟩ := h
    rfl
  · obtain ⟨j, wd, n, f, t, m, rfl, ⟨l, x, hj, hl⟩, k⟩ := h
    refine sms_cons (sm_ret (em_ix (em_ix (at_story CC (em_v0 ⟨j, wd, n, f, t, l ++ [.tup [x, moD CM m]], rfl, hj, em_neg (em_int ⟨1, rfl, vi_lst last_at (em_int (vi_tup (ds := [x, moD CM m]) (d := moD CM m) rfl k))⟩)⟩)))))
abbrev MNow (P : Program) (w : World) (K : PySem.W.Frag) (mg : Str → Option Value) (base : Heap) (C CM : Addr) : Prop := MFn P w K mg base C "now" 1 (wCyc C CM fun _ _ _ _ m => moD CM m)
theorem p_heap {C CM : Addr} {b : Bool} (M : MomC K CM) (CC : CycC K C b) (MN : MNow P w K mg base C CM) (Df : DefP K C "heap" "Cycle.heap" sCheap) : PFn P w K mg base C "heap" 2 (wCyc C CM fun wd _ _ _ m => heapD wd m.rows) := by
  refine mkP (N := ["self"]) (ps := ["self"]) Df ⟨rfl, rfl, rfl, by decide +kernel, rfl, by decide +kernel, by decide +kernel⟩ (fun _ _ _ _ _ _ us hl => match us, hl with | [_], _ => rfl) (fun ds s Φ h => ?_) fun f cdv A outer sh H E hr ds s Φ h => ?_
  · obtain ⟨_, _, _, _, _, _, rfl, _⟩ := h
    rfl
  · obtain ⟨j, wd, n, f, t, m, rfl, c, k⟩ := h
    obtain ⟨l, x, hj, hl⟩ := id c
    exact sms_cons (sm_ret (em_tup (am_cons (at_wide CC (em_v0 ⟨j, wd, n, f, t, _, rfl, hj, am_cons (at_rows M (em_meth0 MN hr (em_v0 ⟨_, _, .ref hj, by decide +kernel, j, wd, n, f, t, m, rfl, c, _, _, _, _, _, rfl, am_nil ⟨Nat.le_of_ble_eq_true rfl, k⟩⟩)))⟩)))))
theorem p_regs {C CM : Addr} {b : Bool} (M : MomC K CM) (CC : CycC K C b) (MN : MNow P w K mg base C CM) (Df : DefP K C "registers" "Cycle.registers" sCregs) : PFn P w K mg base C "registers" 2 (wCyc C CM fun _ _ _ _ m => rowD m.held) := by
  refine mkP (N := ["self"]) (ps := ["self"]) Df ⟨rfl, rfl, rfl, by decide +kernel, rfl, by decide +kernel, by decide +kernel⟩ (fun _ _ _ _ _ _ us hl => match us, hl with | [_], _ => rfl) (fun ds s Φ h => ?_) fun f cdv A outer sh H E hr ds s Φ h => ?_
  · obtain ⟨_, _, _, _, _, _, rfl, _⟩ := h
    rfl
  · obtain ⟨j, wd, n, f, t, m, rfl, c, k⟩ := h
    obtain ⟨l, x, hj, hl⟩ := id c
    exact sms_cons (sm_ret (at_held M (em_meth0 MN hr (em_v0 ⟨_, _, .ref hj, by decide +kernel, j, wd, n, f, t, m, rfl, c, _, _, _, _, _, rfl, k⟩))))
theorem p_phase {C CM : Addr} {b : Bool} (M : MomC K CM) (CC : CycC K C b) (MN : MNow P w K mg base C CM) (Df : DefP K C "phase" "Cycle.phase" sCphase) : PFn P w K mg base C "phase" 2 (wCyc C CM fun _ _ _ _ m => .str m.ph.s) := by
  refine mkP (N := ["self"]) (ps := ["self"]) Df ⟨rfl, rfl, rfl, by decide +kernel, rfl, by decide +kernel, by decide +kernel⟩ (fun _ _ _ _ _ _ us hl => match us, hl with | [_], _ => rfl) (fun ds s Φ h => ?_) fun f cdv A outer sh H E hr ds s Φ h => ?_
  · obtain ⟨_, _, _, _, _, _, rfl, _⟩ := h
    rfl
  · obtain ⟨j, wd, n, f, t, m, rfl, c, k⟩ := h
    obtain ⟨l, x, hj, hl⟩ := id c
    exact sms_cons (sm_ret (at_stage M (em_meth0 MN hr (em_v0 ⟨_, _, .ref hj, by decide +kernel, j, wd, n, f, t, m, rfl, c, _, _, _, _, _, rfl, k⟩))))
theorem p_old {C CM : Addr} {b : Bool} (CC : CycC K C b) (Df : DefP K C "old" "Cycle.old" sCold) : PFn P w K mg base C "old" 1 (wCyc C CM fun _ _ f _ _ => natsD f) := by
  refine mkP (N := ["self"]) (ps := ["self"]) Df ⟨rfl, rfl, rfl, by decide +kernel, rfl, by decide +kernel, by decide +kernel⟩ (fun _ _ _ _ _ _ us hl => match us, hl with | [_], _ => rfl) (fun ds s Φ h => ?_) fun f cdv A outer sh H E hr ds s Φ h => ?_
  · obtain ⟨_, _, _, _, _, _, rfl, _⟩ := h
    rfl
  · obtain ⟨j, wd, n, f, t, m, rfl, c, k⟩ := h
    obtain ⟨l, x, hj, hl⟩ := id c
    exact sms_cons (sm_ret (at_first CC (em_v0 ⟨j, wd, n, f, t, _, rfl, hj, k⟩)))
def stateD (wd : Nat) (m : Mo) : Mp.D := .tup [heapD wd m.rows, rowD m.held, paintD m.paint, seenD m.seen]
theorem p_state {C CM : Addr} {b : Bool} (M : MomC K CM) (CC : CycC K C b) (MN : MNow P w K mg base C CM) (Df : DefP K C "state" "Cycle.state" sCstate) : PFn P w K mg base C "state" 2 (wCyc C CM fun wd _ _ _ m => stateD wd m) := by
  refine mkP (N := ["self", "here"]) (ps := ["self"]) Df ⟨rfl, rfl, rfl, by decide +kernel, rfl, by decide +kernel, by decide +kernel⟩ (fun _ _ _ _ _ _ us hl => match us, hl with | [_], _ => rfl) (fun ds s Φ h => ?_) fun f cdv A outer sh H E hr ds s Φ h => ?_
  · obtain ⟨_, _, _, _, _, _, rfl, _⟩ := h
    rfl
  · obtain ⟨j, wd, n, f, t, m, rfl, c, k⟩ := h
    obtain ⟨l, x, hj, hl⟩ := id c
    have nd : (["self", "here"] : List Str).Nodup := by decide +kernel
    refine sms_cons (sm_set 1 nd (em_meth0 MN hr (em_v0 ⟨_, _, .ref hj, by decide +kernel, j, wd, n, f, t, m, rfl, c, ?_⟩)))
    exact sms_cons (sm_ret (em_tup (am_cons (em_tup (am_cons (at_wide CC (em_v0 ⟨j, wd, n, f, t, _, rfl, hj, am_cons (at_rows M (em_v1 ⟨_, _, _, _, _, rfl, am_nil ⟨Nat.le_of_ble_eq_true rfl, am_cons (at_held M (em_v1 ⟨_, _, _, _, _, rfl, am_cons (at_paint M (em_v1 ⟨_, _, _, _, _, rfl, am_cons (at_seen M (em_v1 ⟨_, _, _, _, _, rfl, am_nil ⟨Nat.le_of_ble_eq_true rfl, k⟩⟩))⟩))⟩))⟩⟩))⟩)))))))
theorem p_reach {C CM : Addr} {b : Bool} (CC : CycC K C b) (PH : PFn P w K mg base C "heap" 2 (wCyc C CM fun wd _ _ _ m => heapD wd m.rows)) (PR : PFn P w K mg base C "registers" 2 (wCyc C CM fun _ _ _ _ m => rowD m.held)) (GR : GReachable P w K mg base "reachable_reaching")
    (Df : DefP K C "reachable" "Cycle.reachable" sCreach) : PFn P w K mg base C "reachable" 5 fun ds s Φ => ∃ j wd n f t m, ds = [.ref j] ∧ CycAt C CM s j wd n f t m ∧ FldOk m.rows ∧ m.rows.length ≤ 40 ∧ m.held.length ≤ 50 ∧ (∀ o ∈ m.held, ∀ i, o = some i → i < m.rows.length) ∧
      ∀ l : List Nat, (∀ x, x ∈ l ↔ Reaches m.rows (m.held.filterMap id) x) → l.length ≤ 40 → Φ (natsD l) s := by
  refine mkP (N := ["self"]) (ps := ["self"]) Df ⟨rfl, rfl, rfl, by decide +kernel, rfl, by decide +kernel, by decide +kernel⟩ (fun _ _ _ _ _ _ us hl => match us, hl with | [_], _ => rfl) (fun ds s Φ h => ?_) fun f cdv A outer sh H E hr ds s Φ h => ?_
  · obtain ⟨_, _, _, _, _, _, rfl, _⟩ := h
    rfl
  · obtain ⟨j, wd, n, f, t, m, rfl, c, h1, h2, h3, h4, k⟩ := h
    obtain ⟨l, x, hj, hl⟩ := id c
    exact sms_cons (sm_ret (em_call GR hr (am_cons (em_prop PH (hr.mono (by decide)) (em_v0 ⟨_, _, .ref hj, j, wd, n, f, t, m, rfl, c, am_cons (em_prop PR (hr.mono (by decide)) (em_v0 ⟨_, _, .ref hj, j, wd, n, f, t, m, rfl, c, am_nil ⟨wd, m.rows, m.held, rfl, h1, h2, h3, h4, k⟩⟩))⟩)))))
end Sg
end T_P12

section T_P13
set_option autoImplicit true
set_option maxRecDepth 100000
set_option maxHeartbeats 4000000
namespace Sg
open PySem L2 Mp
variable {P : Program} {w : World} {K : PySem.W.Frag} {mg : Str → Option Value} {base : Heap}
abbrev sWhy : Stmt := cls 73 22
abbrev sWhyNamed : Stmt := cls 73 23
abbrev sWhyScan : Stmt := cls 73 24
abbrev sWhyLast : Stmt := cls 73 25
theorem get_lt {α : Type} {l : List α} {i : Nat} {a : α} (h : l[i]? = some a) : i < l.length := (List.getElem?_eq_some_iff.mp h).1
theorem Good.fits {b ag : Bool} {wd : Nat} {m : Mo} {a : Act} (g : Good b ag wd m a) : a.fits b := by
  cases a <;> first | trivial | exact g.1
theorem Good.named {b ag : Bool} {wd : Nat} {m : Mo} {a : Act} (g : Good b ag wd m a) : ∀ r ∈ a.named, r < m.held.length := by
  intro r hr
  cases a with
  | load r' s f =>
    obtain ⟨_, h1, ⟨x, h2⟩, _⟩ := g
    rcases List.mem_cons.mp hr with e | e
    · rw [e]; exact h1
    · rw [List.mem_singleton.mp e]; exact get_lt h2
  | move r' s =>
    obtain ⟨_, h1, _, x, h2⟩ := g
    rcases List.mem_cons.mp hr with e | e
    · rw [e]; exact h1
    · rw [List.mem_singleton.mp e]; exact get_lt h2
  | store x f y =>
    obtain ⟨_, ⟨o, h1⟩, _, h2⟩ := g
    cases y with
    | none => rw [List.mem_singleton.mp hr]; exact get_lt h1
    | some y =>
      rcases List.mem_cons.mp hr with e | e
      · rw [e]; exact get_lt h1
      · obtain ⟨o, h3⟩ := h2 y rfl
        rw [List.mem_singleton.mp e]; exact get_lt h3
  | clear r' => obtain ⟨_, o, h1⟩ := g; rw [List.mem_singleton.mp hr]; exact get_lt h1
  | new r' => rw [List.mem_singleton.mp hr]; exact g.2.1
  | _ => cases hr
theorem Good.needs {b ag : Bool} {wd : Nat} {m : Mo} {a : Act} (g : Good b ag wd m a) : ∀ r ∈ a.needs, ∃ o, m.held[r]? = some (some o) := by
  intro r hr
  cases a with
  | load r' s f => rw [List.mem_singleton.mp hr]; exact g.2.2.1
  | move r' s => rw [List.mem_singleton.mp hr]; exact g.2.2.2
  | store x f y =>
    obtain ⟨_, h1, _, h2⟩ := g
    cases y with
    | none => rw [List.mem_singleton.mp hr]; exact h1
    | some y =>
      rcases List.mem_cons.mp hr with e | e
      · rw [e]; exact h1
      · rw [List.mem_singleton.mp e]; exact h2 y rfl
  | clear r' => rw [List.mem_singleton.mp hr]; exact g.2
  | _ => cases hr
theorem Good.fieldLt {b ag : Bool} {wd : Nat} {m : Mo} {a : Act} (g : Good b ag wd m a) : ∀ f, a.field = some f → f < wd := by
  intro f hf
  cases a with
  | load r s f' => cases hf; exact g.2.2.2
  | store x f' y => cases hf; exact g.2.2.1
  | scanF x f' => cases hf; exact g.2.2.2.1
  | _ => cases hf
theorem named_len (a : Act) : a.named.length ≤ 10 := by
  cases a with
  | store x f y => cases y <;> exact Nat.le_of_ble_eq_true rfl
  | _ => exact Nat.le_of_ble_eq_true rfl
theorem needs_len (a : Act) : a.needs.length ≤ 10 := by
  cases a with
  | store x f y => cases y <;> exact Nat.le_of_ble_eq_true rfl
  | _ => exact Nat.le_of_ble_eq_true rfl
/-- a scan of x -/
def IsScan (a : Act) (x : Nat) : Prop := a = .scan x ∨ ∃ f, a = .scanF x f
def wWhyScan (CM : Addr) : Wt := fun ds s Φ => ∃ (j : Nat) (a : Act) (x : Nat) (m : Mo), ds = [.ref j, actD a, moD CM m] ∧ IsScan a x ∧ m.paint[x]? = some .g ∧ Φ .non s
theorem m_whyscan {C CM : Addr} (T : Tx K mg) (M : MomC K CM) {W : Wt} (hW : ∀ ds s Φ, W ds s Φ → wWhyScan CM ds s Φ) (Df : DefM K C "why_scan" "Cycle.why_scan" sWhyScan) : MFn P w K mg base C "why_scan" 1 W := by
  refine mkM (N := ["self", "step", "here"]) (ps := ["self", "step", "here"]) Df ⟨rfl, rfl, rfl, by decide +kernel, rfl, by decide +kernel, by decide +kernel⟩ (fun _ _ _ _ _ _ us hl => match us, hl with | [_, _, _], _ => rfl) (fun ds s Φ h => ?_) fun fa cdv A outer sh H E hr ds s Φ h => ?_
  · obtain ⟨_, _, _, _, rfl, _⟩ := hW _ _ _ h
    rfl
  · obtain ⟨j, a, x, m, rfl, ha, hp, k⟩ := hW _ _ _ h
    have hx : atI (.str a.word :: a.rest) 1 = some (natD x) := by
      rcases ha with rfl | ⟨f, rfl⟩ <;> rfl
    refine sms_cons (sm_ret (em_if (tm_cmp (em_ix (at_paint M (em_v2 ⟨_, _, _, _, _, rfl, em_ix (em_v1 (em_int (vi_tup hx (vi_tup (paint_at hp) (em_glob T.GREY (v2_eqS (asB ?_)))))))⟩))))))
    exact bif_TT (em_non k)
/-- in fields' mode too: the field is not seen yet -/
def wWhyScanB (b : Bool) (C CM : Addr) : Wt := fun ds s Φ => ∃ (j : Nat) (a : Act) (x : Nat) (m : Mo) (wd : Nat) (ag : Bool), ds = [.ref j, actD a, moD CM m] ∧ (∃ ks fs, s[j]? = some (.ins C ks fs)) ∧ IsScan a x ∧ m.paint[x]? = some .g ∧ Good b ag wd m a ∧ m.Ok wd ∧ Φ .non s
theorem bif_ne {x y : Str} {A B : Prop} (h : x ≠ y) (k : A) : Bif (!decide (x = y)) A B := bif_nd (fun _ => k) fun z => absurd z h
def wWhyLast (b : Bool) (C CM CT : Addr) : Wt := fun ds s Φ => ∃ (j wd n : Nat) (f : List Nat) (t : Tab) (m : Mo) (a : Act), ds = [.ref j, actD a, moD CM m] ∧ CycAt C CM s j wd n f (tabD CT t) m ∧ Good b t.again wd m a ∧ m.Ok wd ∧ (∀ x, ¬ IsScan a x) ∧ Φ .non s
theorem in_paint (p : List Col) (c : Col) : inD (colD c) (p.map colD) = decide (c ∈ p) := by
  unfold inD
  rw [List.any_map]
  induction p with
  | nil => rfl
  | cons a p ih =>
    show (eqD (colD a) (colD c) || _) = _
    rw [ih]
    have : eqD (colD a) (colD c) = decide (a = c) := col_dec a c
    rw [this]
    by_cases h : a = c
    · subst h; simp
    · have h' : ¬ c = a := fun z => h z.symm
      simp [h, h']
theorem fl_paintD (p : List Col) : (p.map colD).all flD = true := by
  rw [List.all_map]
  exact List.all_eq_true.mpr fun x _ => rfl
theorem m_whylast {C CM CT : Addr} {b : Bool} (T : Tx K mg) (M : MomC K CM) (CC : CycC K C b) (TC : TabC K CT) (PR : PFn P w K mg base CT "roots" 1 fun ds s Φ => ∃ l c b, ds = [tabV CT l c b] ∧ Φ (.str (rootsS b)) s)
    (MH : MFn P w K mg base CM "registers_have" 3 (wHave CM)) (Df : DefM K C "why_last" "Cycle.why_last" sWhyLast) : MFn P w K mg base C "why_last" 4 (wWhyLast b C CM CT) := by
  refine mkM (N := ["self", "step", "here", "is_again"]) (ps := ["self", "step", "here"]) Df ⟨rfl, rfl, rfl, by decide +kernel, rfl, by decide +kernel, by decide +kernel⟩ (fun _ _ _ _ _ _ us hl => match us, hl with | [_, _, _], _ => rfl) (fun ds s Φ h => ?_) fun fa cdv A outer sh H E hr ds s Φ h => ?_
  · obtain ⟨_, _, _, _, _, _, _, rfl, _⟩ := h
    rfl
  · obtain ⟨j, wd, n, f, t, m, a, rfl, ⟨l, x, hj, hl⟩, g, ok, ns, k⟩ := h
    have nd : (["self", "step", "here", "is_again"] : List Str).Nodup := by decide +kernel
    refine sms_cons (sm_set 3 nd (em_cmp (em_prop PR (hr.mono (by decide)) (at_rule CC (em_v0 ⟨j, wd, n, f, tabD CT t, _, rfl, hj, _, _, .ins _ _ _, _, _, _, rfl, em_str (v2_eqS ?_)⟩)))))
    have eag : decide (rootsS t.again = "again") = t.again := by cases t.again <;> decide +kernel
    rw [eag]
    refine sms_cons (sm_if (tm_w (wm_and (tm_cmp (em_ix (em_v1 (em_int (vi_tup (ds := .str a.word :: a.rest) atI_0 (em_str (v2_eqS (asB ?_)))))))))))
    have tail3 : a.word ≠ "end" → SMs (cxOf CX0 P w K mg base ["self", "step", "here", "is_again"] "Cycle.why_last" (defScope sWhyLast) fa cdv A outer sh H E).nox [some (.ref j), some (actD a), some (moD CM m), some (.bl t.again)] s ((defBody sWhyLast).drop 3) { nx := fun _ s' => Φ .non s', rt := Φ } := fun he =>
      sms_cons (sm_if (tm_cmp (em_ix (em_v1 (em_int (vi_tup (ds := .str a.word :: a.rest) atI_0 (em_str (v2_neS (asB (bif_ne he (sms_cons (sm_ret (em_non k)))))))))))))
    have tail2 : a.word ≠ "look" → a.word ≠ "end" → SMs (cxOf CX0 P w K mg base ["self", "step", "here", "is_again"] "Cycle.why_last" (defScope sWhyLast) fa cdv A outer sh H E).nox [some (.ref j), some (actD a), some (moD CM m), some (.bl t.again)] s ((defBody sWhyLast).drop 2) { nx := fun _ s' => Φ .non s', rt := Φ } := fun hl he =>
      sms_cons (sm_if (tm_w (wm_and (tm_cmp (em_ix (em_v1 (em_int (vi_tup (ds := .str a.word :: a.rest) atI_0 (em_str (v2_eqS (asB (bif_df hl (bif_f (sms_nil (tail3 he)))))))))))))))
    cases a with
    | scan x => exact absurd (.inl rfl) (ns x)
    | scanF x f => exact absurd (.inr ⟨f, rfl⟩) (ns x)
    | new r =>
      refine bif_TT (wm_and1 (tm_cmp (em_callB (id := "len") T.len (am_cons (at_rows M (em_v2 ⟨_, _, _, _, _, rfl, am_nil (vc_lenT (ds := m.rows.map rowD) (em_con (em_v0 ⟨C, _, _, .int 40, .ref hj, CC.cl, CC.mo, by decide +kernel, v2_ge (asB (bif_df ?_ (sms_nil (tail2 (show ("new" : Str) ≠ "look" by decide +kernel) (show ("new" : Str) ≠ "end" by decide +kernel)))))⟩)))⟩))))))
      rw [List.length_map]
      have := g.2.2
      omega
    | look =>
      refine bif_FF (bif_f (sms_nil (sms_cons (sm_if (tm_w (wm_and (tm_cmp (em_ix (em_v1 (em_int (vi_tup (ds := [.str "look"]) atI_0 (em_str (v2_eqS (asB (bif_TT (wm_and1 (tm_not (tm_val (em_v3 (asB ?_))))))))))))))))))))
      exact bif_eq (c := false) (by rw [g.2]; rfl) (bif_f (sms_nil (tail3 (show ("look" : Str) ≠ "end" by decide +kernel))))
    | fin =>
      refine bif_FF (bif_f (sms_nil (sms_cons (sm_if (tm_w (wm_and (tm_cmp (em_ix (em_v1 (em_int (vi_tup (ds := [.str "end"]) atI_0 (em_str (v2_eqS (asB (bif_FF (bif_f (sms_nil ?_)))))))))))))))))
      refine sms_cons (sm_if (tm_cmp (em_ix (em_v1 (em_int (vi_tup (ds := [.str "end"]) atI_0 (em_str (v2_neS (asB (bif_FF (sms_nil ?_)))))))))))
      refine sms_cons (sm_if (tm_cmp (em_glob T.GREY (at_paint M (em_v2 ⟨_, _, _, _, _, rfl, v2_inT (x := colD .g) rfl (fl_paintD _) (asB ?_)⟩)))))
      rw [in_paint, decide_eq_false g.2.1]
      refine bif_f (sms_nil (sms_cons (sm_ret (em_if (tm_w (wm_and (tm_val (em_v3 (asB ?_)))))))))
      refine ⟨fun ha => wm_and1 (tm_val (em_meth MH hr (em_v2 ⟨_, _, .ins _ _ _, by decide +kernel, am_cons (em_glob T.WHITE (am_nil ⟨m, .w, rfl, fun o ho i e => ?_, by have := ok.h6; omega, asB ?_⟩))⟩))), fun ha => bif_f (em_non k)⟩
      · rw [ok.paint]; exact ok.held o ho i e
      · rw [g.2.2 ha]
        exact bif_f (em_non k)
    | start => exact bif_FF (bif_f (sms_nil (tail2 (show ("start" : Str) ≠ "look" by decide +kernel) (show ("start" : Str) ≠ "end" by decide +kernel))))
    | load r q f' => exact bif_FF (bif_f (sms_nil (tail2 (show ("load" : Str) ≠ "look" by decide +kernel) (show ("load" : Str) ≠ "end" by decide +kernel))))
    | store x' f' y => exact bif_FF (bif_f (sms_nil (tail2 (show ("store" : Str) ≠ "look" by decide +kernel) (show ("store" : Str) ≠ "end" by decide +kernel))))
    | move r q => exact bif_FF (bif_f (sms_nil (tail2 (show ("move" : Str) ≠ "look" by decide +kernel) (show ("move" : Str) ≠ "end" by decide +kernel))))
    | clear r => exact bif_FF (bif_f (sms_nil (tail2 (show ("clear" : Str) ≠ "look" by decide +kernel) (show ("clear" : Str) ≠ "end" by decide +kernel))))
end Sg
end T_P13

section T_P14
set_option autoImplicit true
set_option maxRecDepth 100000
set_option maxHeartbeats 4000000
namespace Sg
open PySem L2 Mp
variable {P : Program} {w : World} {K : PySem.W.Frag} {mg : Str → Option Value} {base : Heap}
def wWhy (b : Bool) (C CM CT : Addr) (r : Nat → Act → Mo → List Mp.D) : Wt := fun ds s Φ => ∃ (j wd n : Nat) (f : List Nat) (t : Tab) (m : Mo) (a : Act), ds = r j a m ∧ CycAt C CM s j wd n f (tabD CT t) m ∧ Good b t.again wd m a ∧ m.Ok wd ∧ Φ .non s
theorem v2_geE {X : Cx} {s : Sto} {Φ : Mp.D → Sto → Prop} {d : Mp.D} {i j : Int} (he : d = .int i) (h : Φ (.bl (decide (j ≤ i))) s) : V2 X (compareOp .GtE) d (.int j) s Φ := by subst he; exact v2_ge h
theorem nats_filterT (l : List Nat) : (l.map natD).filter (fun _ => true) = l.map natD := List.filter_eq_self.mpr fun _ _ => rfl
theorem m_whynamed {C CM CT : Addr} {b : Bool} (T : Tx K mg) (M : MomC K CM) (CC : CycC K C b) (GN : GFn P w K mg base "registers_named" 1 (wAct fun a => natsD a.named)) (GH : GFn P w K mg base "registers_held" 2 (wAct fun a => natsD a.needs)) (GF : GFn P w K mg base "field_named" 1 (wAct fun a => oD a.field))
    (MS : MFn P w K mg base C "why_scan" 6 (wWhyScanB b C CM)) (ML : MFn P w K mg base C "why_last" 4 (wWhyLast b C CM CT)) (Df : DefM K C "why_named" "Cycle.why_named" sWhyNamed) : MFn P w K mg base C "why_named" 7 (wWhy b C CM CT fun j a m => [.ref j, actD a, moD CM m]) := by
  refine mkM (N := ["self", "step", "here", "f", "r"]) (ps := ["self", "step", "here"]) Df ⟨rfl, rfl, rfl, by decide +kernel, rfl, by decide +kernel, by decide +kernel⟩ (fun _ _ _ _ _ _ us hl => match us, hl with | [_, _, _], _ => rfl) (fun ds s Φ h => ?_) fun fa cdv A outer sh H E hr ds s Φ h => ?_
  · obtain ⟨_, _, _, _, _, _, _, rfl, _⟩ := h
    rfl
  · obtain ⟨j, wd, n, f, t, m, a, rfl, c, g, ok, k⟩ := h
    obtain ⟨l, x0, hj, hl⟩ := id c
    have nd : (["self", "step", "here", "f", "r"] : List Str).Nodup := by decide +kernel
    -- registers named
    refine sms_cons (sm_if (tm_val (em_callB (id := "any") T.any (am_cons (em_lcP (own := [("r", 4)]) (.one 4) nd (blk_ok rfl) (im_tup (em_call GN (hr.mono (by decide)) (am_cons (em_v1 (am_nil ⟨a, rfl, a.named.map natD, rfl, fun _ => true, fun _ => .bl false, fun _ => trivial, by rw [List.length_map]; have := named_len a; omega, ?_, fun _ _ _ => trivial, am_nil (vc_any rfl (.lst _) (bs := a.named.map fun _ => false) ?_ (asB ?_))⟩))))) (tg_one 4 nd))))))
    · intro d hd
      obtain ⟨r, hr', rfl⟩ := List.mem_map.mp hd
      refine ⟨_, rfl, fun s' mm es => ⟨rfl, rfl, fun _ sh' H' C' cl fp => em_cmp (em_v4 (em_callB (id := "len") T.len (am_cons (at_held M (em_v2 ⟨_, _, _, _, _, rfl, am_nil (vc_lenT (ds := m.held.map oD) (v2_ge ⟨?_, rfl⟩))⟩)))))⟩⟩
      rw [List.length_map]
      have := g.named r hr'
      rw [decide_eq_false (by omega)]
    · rw [nats_filterT, List.map_map]
      unfold blsD
      rw [List.map_map]
      rfl
    have e1 : (a.named.map fun _ => false).any id = false := by simp
    rw [e1]
    refine bif_f (sms_nil (sms_cons (sm_if (tm_w (wm_and (tm_cmp (em_ix (em_v1 (em_int (vi_tup (ds := .str a.word :: a.rest) atI_0 (em_str (v2_eqS (asB ?_)))))))))))))
    have t2 : SMs (cxOf CX0 P w K mg base ["self", "step", "here", "f", "r"] "Cycle.why_named" (defScope sWhyNamed) fa cdv A outer sh H E).nox [some (.ref j), some (actD a), some (moD CM m), none, none] s ((defBody sWhyNamed).drop 2) { nx := fun _ s' => Φ .non s', rt := Φ } := by
      refine sms_cons (sm_if (tm_val (em_callB (id := "any") T.any (am_cons (em_lcP (own := [("r", 4)]) (.one 4) nd (blk_ok rfl) (im_tup (em_call GH (hr.mono (by decide)) (am_cons (em_v1 (am_nil ⟨a, rfl, a.needs.map natD, rfl, fun _ => true, fun _ => .bl false, fun _ => trivial, by rw [List.length_map]; have := needs_len a; omega, ?_, fun _ _ _ => trivial, am_nil (vc_any rfl (.lst _) (bs := a.needs.map fun _ => false) ?_ (asB ?_))⟩))))) (tg_one 4 nd))))))
      · intro d hd
        obtain ⟨r, hr', rfl⟩ := List.mem_map.mp hd
        obtain ⟨o, ho⟩ := g.needs r hr'
        exact ⟨_, rfl, fun s' mm es => ⟨rfl, rfl, fun _ sh' H' C' cl fp => em_cmp (em_ix (at_held M (em_v2 ⟨_, _, _, _, _, rfl, em_v4 (vi_tup (row_at ho) (em_non (v2_isN ⟨rfl, rfl⟩)))⟩)))⟩⟩
      · rw [nats_filterT, List.map_map]
        unfold blsD
        rw [List.map_map]
        rfl
      have e1 : (a.needs.map fun _ => false).any id = false := by simp
      rw [e1]
      refine bif_f (sms_nil (sms_cons (sm_if (tm_w (wm_and (tm_cmp (em_ix (em_v1 (em_int (vi_tup (ds := .str a.word :: a.rest) atI_0 (em_str (v2_eqS (asB ?_)))))))))))))
      have t4 : SMs (cxOf CX0 P w K mg base ["self", "step", "here", "f", "r"] "Cycle.why_named" (defScope sWhyNamed) fa cdv A outer sh H E).nox [some (.ref j), some (actD a), some (moD CM m), none, none] s ((defBody sWhyNamed).drop 4) { nx := fun _ s' => Φ .non s', rt := Φ } := by
        refine sms_cons (sm_set 3 nd (em_call GF (hr.mono (by decide)) (am_cons (em_v1 (am_nil ⟨a, rfl, ?_⟩)))))
        refine sms_cons (sm_if (tm_w (wm_and (tm_cmp (em_v3 (em_non (v2_notN (asB ?_))))))))
        rw [isNon_oD]
        have t6 : SMs (cxOf CX0 P w K mg base ["self", "step", "here", "f", "r"] "Cycle.why_named" (defScope sWhyNamed) fa cdv A outer sh H E).nox [some (.ref j), some (actD a), some (moD CM m), some (oD a.field), none] s ((defBody sWhyNamed).drop 6) { nx := fun _ s' => Φ .non s', rt := Φ } := by
          refine sms_cons (sm_if (tm_cmp (em_ix (em_v1 (em_int (vi_tup (ds := .str a.word :: a.rest) atI_0 (em_str (v2_eqS (asB ?_)))))))))
          have scan : ∀ x, IsScan a x → m.paint[x]? = some .g := fun x hx => by
            rcases hx with rfl | ⟨f', rfl⟩
            · exact g.2.2
            · exact g.2.2.1
          refine bif_d (fun e => ?_) fun e => ?_
          · have hs : ∃ x, IsScan a x := by
              cases a <;> first | exact ⟨_, .inl rfl⟩ | exact ⟨_, .inr ⟨_, rfl⟩⟩ | exact absurd e (show ("start" : Str) ≠ "scan" by decide +kernel) | exact absurd e (show ("look" : Str) ≠ "scan" by decide +kernel) | exact absurd e (show ("end" : Str) ≠ "scan" by decide +kernel) | exact absurd e (show ("load" : Str) ≠ "scan" by decide +kernel) | exact absurd e (show ("store" : Str) ≠ "scan" by decide +kernel) | exact absurd e (show ("move" : Str) ≠ "scan" by decide +kernel) | exact absurd e (show ("clear" : Str) ≠ "scan" by decide +kernel) | exact absurd e (show ("new" : Str) ≠ "scan" by decide +kernel)
            obtain ⟨x, hx⟩ := hs
            exact sms_cons (sm_ret (em_meth MS hr (em_v0 ⟨_, _, .ref hj, by decide +kernel, am_cons (em_v1 (am_cons (em_v2 (am_nil ⟨j, a, x, m, wd, t.again, rfl, ⟨_, _, hj⟩, hx, scan x hx, g, ok, k⟩))))⟩)))
          · refine sms_nil (sms_cons (sm_ret (em_meth ML (hr.mono (by decide)) (em_v0 ⟨_, _, .ref hj, by decide +kernel, am_cons (em_v1 (am_cons (em_v2 (am_nil ⟨j, wd, n, f, t, m, a, rfl, c, g, ok, fun x hx => e ?_, k⟩))))⟩))))
            rcases hx with rfl | ⟨f', rfl⟩ <;> rfl
        by_cases hn : a.field = none
        · exact bif_eq (c := false) (by rw [hn]; rfl) (bif_f (bif_f (sms_nil t6)))
        · obtain ⟨f', ef⟩ := Option.ne_none_iff_exists'.mp hn
          have := g.fieldLt f' ef
          refine bif_eq (c := true) (by rw [ef]; rfl) (bif_t (wm_and1 (tm_cmp (em_v3 (at_wide CC (em_v0 ⟨j, wd, n, f, tabD CT t, _, rfl, hj, ?_⟩))))))
          have e : oD a.field = .int (f' : Int) := by rw [ef]; rfl
          exact v2_geE e (asB (bif_df (by omega) (sms_nil t6)))
      cases a with
      | scan x =>
        have hx := get_lt g.2.2
        refine bif_TT (wm_and1 (tm_cmp (em_ix (em_v1 (em_int (vi_tup (ds := [.str "scan", natD x]) (d := natD x) rfl (em_callB (id := "len") T.len (am_cons (at_rows M (em_v2 ⟨_, _, _, _, _, rfl, am_nil (vc_lenT (ds := m.rows.map rowD) (v2_ge (asB (bif_df ?_ (sms_nil t4)))))⟩))))))))))
        rw [List.length_map, ← ok.paint]
        omega
      | scanF x f' =>
        have hx := get_lt g.2.2.1
        refine bif_TT (wm_and1 (tm_cmp (em_ix (em_v1 (em_int (vi_tup (ds := [.str "scan", natD x, natD f']) (d := natD x) rfl (em_callB (id := "len") T.len (am_cons (at_rows M (em_v2 ⟨_, _, _, _, _, rfl, am_nil (vc_lenT (ds := m.rows.map rowD) (v2_ge (asB (bif_df ?_ (sms_nil t4)))))⟩))))))))))
        rw [List.length_map, ← ok.paint]
        omega
      | _ => exact bif_FF (bif_f (sms_nil t4))
    cases a with
    | move r q =>
      refine bif_TT (wm_and1 (tm_cmp (em_ix (em_v1 (em_int (vi_tup (ds := [.str "move", natD r, natD q]) (d := natD r) rfl (em_ix (em_v1 (em_int (vi_tup (ds := [.str "move", natD r, natD q]) (d := natD q) rfl (v2_eqI (asB (bif_df ?_ (sms_nil t2))))))))))))))
      have := g.2.2.1
      omega
    | _ => exact bif_FF (bif_f (sms_nil t2))
theorem m_why {C CM CT : Addr} {b : Bool} (T : Tx K mg) (M : MomC K CM) (CC : CycC K C b) (MN : MNow P w K mg base C CM) (GS : GFnK P w K mg base "is_step" ["scanning"] 2 fun ds es s Φ => ∃ (a : Act) (b : Bool), ds = [actD a] ∧ es = [.str (modeS b)] ∧ a.fits b ∧ Φ (.bl true) s)
    (PP : PFn P w K mg base C "phase" 2 (wCyc C CM fun _ _ _ _ m => .str m.ph.s)) (MW : MFn P w K mg base C "why_named" 7 (wWhy b C CM CT fun j a m => [.ref j, actD a, moD CM m])) (Df : DefM K C "why" "Cycle.why" sWhy) : MFn P w K mg base C "why" 8 (wWhy b C CM CT fun j a _ => [.ref j, actD a]) := by
  refine mkM (N := ["self", "step"]) (ps := ["self", "step"]) Df ⟨rfl, rfl, rfl, by decide +kernel, rfl, by decide +kernel, by decide +kernel⟩ (fun _ _ _ _ _ _ us hl => match us, hl with | [_, _], _ => rfl) (fun ds s Φ h => ?_) fun fa cdv A outer sh H E hr ds s Φ h => ?_
  · obtain ⟨_, _, _, _, _, _, _, rfl, _⟩ := h
    rfl
  · obtain ⟨j, wd, n, f, t, m, a, rfl, c, g, ok, k⟩ := h
    obtain ⟨l, x0, hj, hl⟩ := id c
    refine sms_cons (sm_if (tm_not (tm_val (em_callK GS (hr.mono (by decide)) (am_cons (em_v1 (am_nil (km_cons (em_con (em_v0 ⟨C, _, _, .str (modeS b), .ref hj, CC.cl, CC.scan, by decide +kernel, km_nil ⟨rfl, a, b, rfl, rfl, g.fits, asB (bif_f (sms_nil ?_))⟩⟩))))))))))
    refine sms_cons (sm_if (tm_cmp (em_prop PP (hr.mono (by decide)) (em_v0 ⟨_, _, .ref hj, j, wd, n, f, tabD CT t, m, rfl, c, em_if (tm_cmp (em_ix (em_v1 (em_int (vi_tup (ds := .str a.word :: a.rest) atI_0 (em_str (v2_eqS (asB ?_))))))))⟩))))
    have t3 : SMs (cxOf CX0 P w K mg base ["self", "step"] "Cycle.why" (defScope sWhy) fa cdv A outer sh H E).nox [some (.ref j), some (actD a)] s ((defBody sWhy).drop 2) { nx := fun _ s' => Φ .non s', rt := Φ } :=
      sms_cons (sm_ret (em_meth MW hr (em_v0 ⟨_, _, .ref hj, by decide +kernel, am_cons (em_v1 (am_cons (em_meth0 MN (hr.mono (by decide)) (em_v0 ⟨_, _, .ref hj, by decide +kernel, j, wd, n, f, tabD CT t, m, rfl, c, am_nil ⟨j, wd, n, f, t, m, a, rfl, c, g, ok, k⟩⟩))))⟩)))
    have hm : a ≠ .start → m.ph = .marking := by
      intro hne
      cases a <;> first | exact absurd rfl hne | exact g.1 | exact g.2.1
    by_cases hs : a = .start
    · subst hs
      have e : m.ph = .ready := g
      refine bif_TT (em_glob T.READY (v2_neS (asB ?_)))
      rw [e]
      exact bif_FF (sms_nil t3)
    · have hw : a.word ≠ "start" := by
        cases a <;> first | exact absurd rfl hs | exact (show ("look" : Str) ≠ "start" by decide +kernel) | exact (show ("end" : Str) ≠ "start" by decide +kernel) | exact (show ("load" : Str) ≠ "start" by decide +kernel) | exact (show ("store" : Str) ≠ "start" by decide +kernel) | exact (show ("move" : Str) ≠ "start" by decide +kernel) | exact (show ("clear" : Str) ≠ "start" by decide +kernel) | exact (show ("new" : Str) ≠ "start" by decide +kernel) | exact (show ("scan" : Str) ≠ "start" by decide +kernel)
      refine bif_df hw (em_glob T.MARKING (v2_neS (asB ?_)))
      rw [hm hs]
      exact bif_FF (sms_nil t3)
end Sg
end T_P14

section T_P15
set_option autoImplicit true
set_option maxRecDepth 100000
set_option maxHeartbeats 4000000
namespace Sg
open PySem L2 Mp
variable {P : Program} {w : World} {K : PySem.W.Frag} {mg : Str → Option Value} {base : Heap}
abbrev sAfter : Stmt := cls 73 26
abbrev sAfterLoad : Stmt := cls 73 27
abbrev sAfterStore : Stmt := cls 73 28
abbrev sAfterScan : Stmt := cls 73 29
abbrev sAfterScanF : Stmt := cls 75 2
/-- the moment's methods -/
structure MomM (P : Program) (w : World) (K : PySem.W.Frag) (mg : Str → Option Value) (base : Heap) (CM : Addr) : Prop where
  c : MomC K CM
  shaded : MFnK P w K mg base CM "shaded" [] 3 (wShaded CM)
  inPhase : MFn P w K mg base CM "in_phase" 3 fun ds s Φ => ∃ a b c d e p, ds = [momG CM a b c d e, p] ∧ Φ (momG CM p b c d e) s
  holding : MFn P w K mg base CM "holding" 3 fun ds s Φ => ∃ a b xs d e x, ∃ r : Nat, ds = [momG CM a b (.tup xs) d e, .int r, x] ∧ r < xs.length ∧ xs.length ≤ 100 ∧ Φ (momG CM a b (.tup (xs.set r x)) d e) s
  stored : MFn P w K mg base CM "stored" 3 (wStored CM)
  reopened : MFn P w K mg base CM "reopened" 3 (wReopened CM)
  grown : MFn P w K mg base CM "grown" 3 (wGrown CM)
  visited : MFn P w K mg base CM "with_visited" 3 (wWithVisited CM)
theorem holding_eq (CM : Addr) (m : Mo) (r : Nat) (y : Option Nat) : momG CM (.str m.ph.s) (rowsD m.rows) (.tup ((m.held.map oD).set r (oD y))) (paintD m.paint) (seenD m.seen) = moD CM (m.holding r y) := by
  rw [row_set]
  rfl
section
variable {X : Cx} {ρ : Slo} {s : Sto} {Φ : Mp.D → Sto → Prop} {C : Addr}
/-- (kind, color) in the table -/
theorem v2_inTab {CT : Addr} {t : Tab} {e : Ent} (M : MFnK X.prog X.w X.K X.mg X.base CT "__contains__" [] 3 (wTcont CT)) (hr : Room 3 X.A) (h : Φ (.bl (t.has e)) s) : V2 X (compareOp .In) (.tup [.str e.1.s, .str e.2.s]) (tabD CT t) s Φ := by
  refine v2_inO M hr (.ins _ _ _) ⟨t.kept, t.fresh, t.again, e, rfl, rfl, asB ?_⟩
  have : decide (e ∈ t.kept) = t.has e := by
    by_cases hm : e ∈ t.kept
    · rw [decide_eq_true hm, (t.mem_kept e).mp hm]
    · rw [decide_eq_false hm]
      cases hh : t.has e with
      | false => rfl
      | true => exact absurd ((t.mem_kept e).mpr hh) hm
  rw [this]
  exact h
end
theorem shaded_ok {m : Mo} (xs : Row) : (m.shaded xs).paint.length = m.paint.length := shadeAll_len xs _
theorem col_at {m : Mo} {x : Nat} (h : x < m.paint.length) : m.paint[x]? = some (m.col x) := by
  unfold Mo.col
  rw [List.getD_eq_getElem?_getD, List.getElem?_eq_getElem h]
  rfl
theorem row_of {m : Mo} {x : Nat} (h : x < m.rows.length) : m.rows[x]? = some (m.rows.getD x []) := by
  rw [List.getD_eq_getElem?_getD, List.getElem?_eq_getElem h]
  rfl
theorem Mo.Ok.len {wd : Nat} {m : Mo} (ok : m.Ok wd) {x : Nat} (h : x < m.rows.length) : (m.rows.getD x []).length = wd := ok.wide _ (mem_of_get? (row_of h))
theorem fld_at {wd : Nat} {m : Mo} (ok : m.Ok wd) {x f : Nat} (h : x < m.rows.length) (hf : f < wd) : (m.rows.getD x [])[f]? = some (m.at_ x f) := by
  unfold Mo.at_
  have : f < (m.rows.getD x []).length := by rw [ok.len h]; exact hf
  generalize m.rows.getD x [] = r at this ⊢
  rw [List.getD_eq_getElem?_getD, List.getElem?_eq_getElem this]
  rfl
theorem at_lt {wd : Nat} {m : Mo} (ok : m.Ok wd) {x f : Nat} (h : x < m.rows.length) (hf : f < wd) : ∀ i, m.at_ x f = some i → i < m.rows.length := fun i hi =>
  ok.fld _ (mem_of_get? (row_of h)) _ (mem_of_get? (fld_at ok h hf)) i hi
theorem m_afterload {C CM CT : Addr} {b : Bool} (T : Tx K mg) (M : MomM P w K mg base CM) (CC : CycC K C b) (TM : MFnK P w K mg base CT "__contains__" [] 3 (wTcont CT)) (Df : DefM K C "after_load" "Cycle.after_load" sAfterLoad) :
    MFn P w K mg base C "after_load" 4 fun ds s Φ => ∃ j wd n f t m, ∃ r x fi : Nat, ds = [.ref j, moD CM m, .int r, .int x, .int fi] ∧ CycAt C CM s j wd n f (tabD CT t) m ∧ m.Ok wd ∧ r < m.held.length ∧ x < m.rows.length ∧ fi < wd ∧ Φ (moD CM (m.load t r x fi)) s := by
  refine mkM (N := ["self", "here", "r", "x", "f", "loaded", "shaded"]) (ps := ["self", "here", "r", "x", "f"]) Df ⟨rfl, rfl, rfl, by decide +kernel, rfl, by decide +kernel, by decide +kernel⟩ (fun _ _ _ _ _ _ us hl => match us, hl with | [_, _, _, _, _], _ => rfl) (fun ds s Φ h => ?_) fun fa cdv A outer sh H E hr ds s Φ h => ?_
  · obtain ⟨_, _, _, _, _, _, _, _, _, rfl, _⟩ := h
    rfl
  · obtain ⟨j, wd, n, f, t, m, r, x, fi, rfl, ⟨l, x0, hj, hl⟩, ok, h1, h2, h3, k⟩ := h
    have nd : (["self", "here", "r", "x", "f", "loaded", "shaded"] : List Str).Nodup := by decide +kernel
    have hx : x < m.paint.length := by rw [ok.paint]; exact h2
    refine sms_cons (sm_set 5 nd (em_ix (em_ix (at_rows M.c (em_v1 ⟨_, _, _, _, _, rfl, em_v3 (vi_tup (rows_at (row_of h2)) (em_v4 (vi_tup (row_at (fld_at ok h2 h3)) ?_))) ⟩)))))
    have fin : ∀ m' : Mo, m'.held = m.held → Φ (moD CM (m'.holding r (m.at_ x fi))) s → SMs (cxOf CX0 P w K mg base ["self", "here", "r", "x", "f", "loaded", "shaded"] "Cycle.after_load" (defScope sAfterLoad) fa cdv A outer sh H E).nox [some (.ref j), some (moD CM m), some (.int r), some (.int x), some (.int fi), some (oD (m.at_ x fi)), some (moD CM m')] s ((defBody sAfterLoad).drop 2) { nx := fun _ s' => Φ .non s', rt := Φ } := fun m' hm k =>
      sms_cons (sm_ret (em_meth M.holding hr (em_v6 ⟨_, _, .ins _ _ _, by decide +kernel, am_cons (em_v2 (am_cons (em_v5 (am_nil ⟨_, _, m'.held.map oD, _, _, _, r, rfl, by rw [List.length_map, hm]; exact h1, by rw [List.length_map, hm]; have := ok.h6; omega, by rw [holding_eq]; exact k⟩))))⟩)))
    have el : m.load t r x fi = (if t.has (.load, m.col x) = true then m.shaded [m.at_ x fi] else m).holding r (m.at_ x fi) := rfl
    refine sms_cons (sm_set 6 nd (em_if (tm_cmp (em_tup (am_cons (em_str (am_cons (em_ix (at_paint M.c (em_v1 ⟨_, _, _, _, _, rfl, em_v3 (vi_tup (paint_at (col_at hx)) (am_nil ⟨Nat.le_of_ble_eq_true rfl, at_rule CC (em_v0 ⟨j, wd, n, f, tabD CT t, _, rfl, hj, v2_inTab (e := (.load, m.col x)) TM hr (asB ?_)⟩)⟩)) ⟩))))))))))
    refine ⟨fun hb => ?_, fun hb => ?_⟩
    · rw [el, if_pos hb] at k
      refine em_methR M.shaded hr (em_v1 ⟨_, _, .ins _ _ _, by decide +kernel, am_cons (em_v5 (am_nil ⟨m, [m.at_ x fi], rfl, rfl, Nat.le_of_ble_eq_true rfl, by have := ok.few; rw [ok.paint]; omega, ?_, fin _ rfl k⟩))⟩)
      intro o ho i e
      rw [List.mem_singleton.mp ho] at e
      rw [ok.paint]
      exact at_lt ok h2 h3 i e
    · rw [el, if_neg (by rw [hb]; exact Bool.false_ne_true)] at k
      exact em_v1 (fin m rfl k)
theorem m_afterstore {C CM CT : Addr} {b : Bool} (T : Tx K mg) (M : MomM P w K mg base CM) (CC : CycC K C b) (TM : MFnK P w K mg base CT "__contains__" [] 3 (wTcont CT)) (Df : DefM K C "after_store" "Cycle.after_store" sAfterStore) :
    MFn P w K mg base C "after_store" 4 fun ds s Φ => ∃ j wd n f t m, ∃ x fi : Nat, ∃ y : Option Nat, ds = [.ref j, moD CM m, .int x, .int fi, oD y] ∧ CycAt C CM s j wd n f (tabD CT t) m ∧ m.Ok wd ∧ x < m.rows.length ∧ fi < wd ∧ (∀ i, y = some i → i < m.rows.length) ∧ Φ (moD CM (m.store t x fi y)) s := by
  refine mkM (N := ["self", "here", "x", "f", "given", "color", "later"]) (ps := ["self", "here", "x", "f", "given"]) Df ⟨rfl, rfl, rfl, by decide +kernel, rfl, by decide +kernel, by decide +kernel⟩ (fun _ _ _ _ _ _ us hl => match us, hl with | [_, _, _, _, _], _ => rfl) (fun ds s Φ h => ?_) fun fa cdv A outer sh H E hr ds s Φ h => ?_
  · obtain ⟨_, _, _, _, _, _, _, _, _, rfl, _⟩ := h
    rfl
  · obtain ⟨j, wd, n, f, t, m, x, fi, y, rfl, ⟨l, x0, hj, hl⟩, ok, h2, h3, hy, k⟩ := h
    have nd : (["self", "here", "x", "f", "given", "color", "later"] : List Str).Nodup := by decide +kernel
    have hx : x < m.paint.length := by rw [ok.paint]; exact h2
    have hp40 : m.paint.length ≤ 100 := by have := ok.few; rw [ok.paint]; omega
    refine sms_cons (sm_set 5 nd (em_ix (at_paint M.c (em_v1 ⟨_, _, _, _, _, rfl, em_v2 (vi_tup (paint_at (col_at hx)) ?_)⟩))))
    refine sms_cons (sm_set 6 nd (em_meth M.stored hr (em_v1 ⟨_, _, .ins _ _ _, by decide +kernel, am_cons (em_v2 (am_cons (em_v3 (am_cons (em_v4 (am_nil ⟨m, x, fi, y, m.rows.getD x [], rfl, row_of h2, by rw [ok.len h2]; exact h3, by have := ok.few; omega, by rw [ok.len h2]; have := ok.w4; omega, ?_⟩))))))⟩)))
    -- old
    refine sms_cut (fun ρ' s' => s' = s ∧ ρ' = [some (.ref j), some (moD CM m), some (.int x), some (.int fi), some (oD y), some (colD (m.col x)), some (moD CM (if t.has (.old, m.col x) = true then (m.storedAt x fi y).shaded [m.at_ x fi] else m.storedAt x fi y))])
      (sm_if (tm_cmp (em_tup (am_cons (em_str (am_cons (em_v5 (am_nil ⟨Nat.le_of_ble_eq_true rfl, at_rule CC (em_v0 ⟨j, wd, n, f, tabD CT t, _, rfl, hj, v2_inTab (e := (.old, m.col x)) TM hr (asB ⟨fun hb => ?_, fun hb => sms_nil ⟨rfl, by rw [if_neg (by rw [hb]; exact Bool.false_ne_true)]; rfl⟩⟩)⟩)⟩)))))))) ?_
    · rw [if_pos hb]
      refine sms_cons (sm_set 6 nd (em_methR M.shaded hr (em_v6 ⟨_, _, .ins _ _ _, by decide +kernel, am_cons (em_ix (em_ix (at_rows M.c (em_v1 ⟨_, _, _, _, _, rfl, em_v2 (vi_tup (rows_at (row_of h2)) (em_v3 (vi_tup (row_at (fld_at ok h2 h3)) (am_nil ⟨m.storedAt x fi y, [m.at_ x fi], rfl, rfl, Nat.le_of_ble_eq_true rfl, hp40, ?_, sms_nil ⟨rfl, rfl⟩⟩))))⟩))))⟩)))
      intro o ho i e
      rw [List.mem_singleton.mp ho] at e
      show i < m.paint.length
      rw [ok.paint]
      exact at_lt ok h2 h3 i e
    rintro ρ' s' ⟨rfl, rfl⟩
    generalize hm2 : (if t.has (.old, m.col x) = true then (m.storedAt x fi y).shaded [m.at_ x fi] else m.storedAt x fi y) = m2
    have p2 : m2.paint.length = m.paint.length := by
      rw [← hm2]
      split
      · exact shaded_ok _
      · rfl
    have s2 : m2.seen.length = m.seen.length := by
      rw [← hm2]
      split <;> rfl
    -- new
    refine sms_cut (fun ρ' s'' => s'' = s' ∧ ρ' = [some (.ref j), some (moD CM m), some (.int x), some (.int fi), some (oD y), some (colD (m.col x)), some (moD CM (if t.has (.new, m.col x) = true then m2.shaded [y] else m2))])
      (sm_if (tm_cmp (em_tup (am_cons (em_str (am_cons (em_v5 (am_nil ⟨Nat.le_of_ble_eq_true rfl, at_rule CC (em_v0 ⟨j, wd, n, f, tabD CT t, _, rfl, hj, v2_inTab (e := (.new, m.col x)) TM hr (asB ⟨fun hb => ?_, fun hb => sms_nil ⟨rfl, by rw [if_neg (by rw [hb]; exact Bool.false_ne_true)]⟩⟩)⟩)⟩)))))))) ?_
    · rw [if_pos hb]
      refine sms_cons (sm_set 6 nd (em_methR M.shaded hr (em_v6 ⟨_, _, .ins _ _ _, by decide +kernel, am_cons (em_v4 (am_nil ⟨m2, [y], rfl, rfl, Nat.le_of_ble_eq_true rfl, by rw [p2]; exact hp40, ?_, sms_nil ⟨rfl, rfl⟩⟩))⟩)))
      intro o ho i e
      rw [List.mem_singleton.mp ho] at e
      rw [p2, ok.paint]
      exact hy i e
    rintro ρ' s'' ⟨rfl, rfl⟩
    generalize hm3 : (if t.has (.new, m.col x) = true then m2.shaded [y] else m2) = m3
    have p3 : m3.paint.length = m.paint.length := by
      rw [← hm3]
      split
      · rw [shaded_ok]; exact p2
      · exact p2
    have s3 : m3.seen.length = m.seen.length := by
      rw [← hm3]
      split <;> exact s2
    have e3 : m.store t x fi y = if t.has (.source, m.col x) = true then m3.reopened x else m3 := by rw [← hm3, ← hm2]; rfl
    refine sms_cons (sm_ret (em_if (tm_cmp (em_tup (am_cons (em_str (am_cons (em_v5 (am_nil ⟨Nat.le_of_ble_eq_true rfl, at_rule CC (em_v0 ⟨j, wd, n, f, tabD CT t, _, rfl, hj, v2_inTab (e := (.source, m.col x)) TM hr (asB ⟨fun hb => ?_, fun hb => em_v6 ?_⟩)⟩)⟩)))))))))
    · rw [e3, if_pos hb] at k
      exact em_meth M.reopened hr (em_v6 ⟨_, _, .ins _ _ _, by decide +kernel, am_cons (em_v2 (am_nil ⟨m3, x, rfl, by rw [p3]; exact hx, by rw [p3]; exact hp40, by rw [s3, ok.seen]; exact h2, by rw [s3, ok.seen]; have := ok.few; omega, k⟩))⟩)
    · rw [e3, if_neg (by rw [hb]; exact Bool.false_ne_true)] at k
      exact k
end Sg
end T_P15

section T_P16
set_option autoImplicit true
set_option maxRecDepth 100000
set_option maxHeartbeats 4000000
namespace Sg
open PySem L2 Mp
variable {P : Program} {w : World} {K : PySem.W.Frag} {mg : Str → Option Value} {base : Heap}
def SeenOk (m : Mo) : Prop := ∀ l ∈ m.seen, l.Pairwise (· ≤ ·)
theorem seen_of {m : Mo} {x : Nat} (h : x < m.seen.length) : m.seen[x]? = some (m.seen.getD x []) := by
  rw [List.getD_eq_getElem?_getD, List.getElem?_eq_getElem h]
  rfl
def wAfterScan (b : Bool) (C CM CT : Addr) : WtK := fun ds es s Φ => ∃ (j wd n : Nat) (f : List Nat) (t : Tab) (m : Mo) (a : Act) (x : Nat), es = [] ∧ ds = .ref j :: moD CM m :: a.rest ∧ IsScan a x ∧ CycAt C CM s j wd n f (tabD CT t) m ∧ Good b t.again wd m a ∧ m.Ok wd ∧ SeenOk m ∧ Φ (moD CM (stepMo t wd m a)) s
theorem m_afterscan {C CM CT : Addr} (T : Tx K mg) (M : MomM P w K mg base CM) (CC : CycC K C false) (Df : DefB K C "after_scan" "Cycle.after_scan" sAfterScan) : MFnK P w K mg base C "after_scan" [] 4 (wAfterScan false C CM CT) := by
  obtain ⟨f, fd, bm, cl, F⟩ := Df
  refine ⟨cl, f, bm, ?_⟩
  have FO := def_ok (P := P) (w := w) (mg := mg) (base := base) (k := 3) (N := ["self", "here", "x", "fields"]) (ps := ["self", "here", "x"]) (W := fun ds s Φ => ∃ j wd n f t m, ∃ x : Nat, ds = [.ref j, moD CM m, .int x] ∧ CycAt C CM s j wd n f (tabD CT t) m ∧ m.Ok wd ∧ x < m.rows.length ∧ Φ (moD CM (m.scan wd x)) s) F ⟨rfl, rfl, rfl, by decide +kernel, rfl, by decide +kernel, by decide +kernel⟩ (fun ds s Φ h => ?_) (fun cdv A outer sh H E hr ds s Φ h => ?_)
  · have FK := fnOk_rk FO (F.bindsN fun _ _ _ _ _ _ us hl => match us, hl with | [_, _, _], _ => rfl)
    refine fun A outer s H us ws vs zs Q E hr e0 r rz hz h => FK A outer s H us ws vs zs Q E hr e0 r rz hz ?_
    obtain ⟨α, st, ds, es, Φ, so, dl, el, q, kk⟩ := h
    refine ⟨α, st, ds, es, Φ, so, dl, el, ?_, kk⟩
    obtain ⟨j, wd, n, f, t, m, a, x, rfl, rfl, ha, c, g, ok, so, k⟩ := q
    rcases ha with rfl | ⟨f', rfl⟩
    · exact ⟨j, wd, n, f, t, m, x, rfl, c, ok, by rw [← ok.paint]; exact get_lt g.2.2, k⟩
    · exact absurd g.1 (by decide)
  · obtain ⟨_, _, _, _, _, _, _, rfl, _⟩ := h
    rfl
  · obtain ⟨j, wd, n, f, t, m, x, rfl, ⟨l, x0, hj, hl⟩, ok, h2, k⟩ := h
    have nd : (["self", "here", "x", "fields"] : List Str).Nodup := by decide +kernel
    have hp : m.paint.length ≤ 100 := by have := ok.few; rw [ok.paint]; omega
    refine sms_cons (sm_set 3 nd (em_ix (at_rows M.c (em_v1 ⟨_, _, _, _, _, rfl, em_v2 (vi_tup (rows_at (row_of h2)) ?_)⟩))))
    refine sms_cons (sm_ret (em_meth M.visited hr (em_methS M.shaded hr (em_v1 ⟨_, _, .ins _ _ _, by decide +kernel, em_v3 ⟨_, rfl, m, m.rows.getD x [], rfl, rfl, by rw [ok.len h2]; have := ok.w4; omega, hp, ?_, _, _, .ins _ _ _, by decide +kernel, am_cons (em_v2 (am_cons (em_tupRg T.tuple T.range (at_wide CC (em_v0 ⟨j, wd, n, f, tabD CT t, _, rfl, hj, wd, rfl, by have := ok.w4; omega, am_nil ⟨m.shaded (m.rows.getD x []), x, List.range wd, m.rows.getD x [], rfl, row_of h2, ?_, ?_, by rw [show (m.shaded (m.rows.getD x [])).seen = m.seen from rfl, ok.seen]; exact h2, by rw [show (m.shaded (m.rows.getD x [])).seen = m.seen from rfl, ok.seen]; have := ok.few; omega, k⟩⟩)))))⟩⟩))))
    · intro o ho i e
      rw [ok.paint]
      exact ok.fld _ (mem_of_get? (row_of h2)) o ho i e
    · rw [shaded_ok, ok.paint]; exact h2
    · rw [shaded_ok]; exact hp
theorem m_afterscanF {C CM CT : Addr} (T : Tx K mg) (M : MomM P w K mg base CM) (Df : DefB K C "after_scan" "FieldCycle.after_scan" sAfterScanF) : MFnK P w K mg base C "after_scan" [] 4 (wAfterScan true C CM CT) := by
  obtain ⟨f, fd, bm, cl, F⟩ := Df
  refine ⟨cl, f, bm, ?_⟩
  have FO := def_ok (P := P) (w := w) (mg := mg) (base := base) (k := 3) (N := ["self", "here", "x", "f", "later"]) (ps := ["self", "here", "x", "f"]) (W := fun ds s Φ => ∃ j wd m, ∃ x fi : Nat, ds = [.ref j, moD CM m, .int x, .int fi] ∧ m.Ok wd ∧ SeenOk m ∧ x < m.rows.length ∧ fi < wd ∧ Φ (moD CM (m.scanF x fi)) s) F ⟨rfl, rfl, rfl, by decide +kernel, rfl, by decide +kernel, by decide +kernel⟩ (fun ds s Φ h => ?_) (fun cdv A outer sh H E hr ds s Φ h => ?_)
  · have FK := fnOk_rk FO (F.bindsN fun _ _ _ _ _ _ us hl => match us, hl with | [_, _, _, _], _ => rfl)
    refine fun A outer s H us ws vs zs Q E hr e0 r rz hz h => FK A outer s H us ws vs zs Q E hr e0 r rz hz ?_
    obtain ⟨α, st, ds, es, Φ, so, dl, el, q, kk⟩ := h
    refine ⟨α, st, ds, es, Φ, so, dl, el, ?_, kk⟩
    obtain ⟨j, wd, n, f, t, m, a, x, rfl, rfl, ha, c, g, ok, so, k⟩ := q
    rcases ha with rfl | ⟨f', rfl⟩
    · exact absurd g.1 (by decide)
    · exact ⟨j, wd, m, x, f', rfl, ok, so, by rw [← ok.paint]; exact get_lt g.2.2.1, g.2.2.2.1, k⟩
  · obtain ⟨_, _, _, _, _, rfl, _⟩ := h
    rfl
  · obtain ⟨j, wd, m, x, fi, rfl, ok, so, h2, h3, k⟩ := h
    have nd : (["self", "here", "x", "f", "later"] : List Str).Nodup := by decide +kernel
    have hp : m.paint.length ≤ 100 := by have := ok.few; rw [ok.paint]; omega
    have hsx : x < m.seen.length := by rw [ok.seen]; exact h2
    have hmem := mem_of_get? (seen_of hsx)
    have hsl : (m.seen.getD x []).length ≤ 4 := Nat.le_trans (nodup_lt_len (ok.vis _ hmem).1 (ok.vis _ hmem).2) ok.w4
    have hsort := so _ hmem
    refine sms_cons (sm_set 4 nd (em_methR M.shaded hr (em_v1 ⟨_, _, .ins _ _ _, by decide +kernel, am_cons (em_ix (em_ix (at_rows M.c (em_v1 ⟨_, _, _, _, _, rfl, em_v2 (vi_tup (rows_at (row_of h2)) (em_v3 (vi_tup (row_at (fld_at ok h2 h3)) (am_nil ⟨m, [m.at_ x fi], rfl, rfl, Nat.le_of_ble_eq_true rfl, hp, ?_, ?_⟩))))⟩))))⟩)))
    · intro o ho i e
      rw [List.mem_singleton.mp ho] at e
      rw [ok.paint]
      exact at_lt ok h2 h3 i e
    refine sms_cons (sm_ret (em_meth M.visited hr (em_v4 ⟨_, _, .ins _ _ _, by decide +kernel, am_cons (em_v2 (am_cons (em_callTy (T := "tuple") T.tuple (am_cons (em_callB (id := "sorted") T.sorted (am_cons (em_bin (em_ix (at_seen M.c (em_v4 ⟨_, _, _, _, _, rfl, em_v2 (vi_tup (seen_at (seen_of hsx)) (em_tup (am_cons (em_v3 (am_nil ⟨Nat.le_of_ble_eq_true rfl, v2_addT (xs := (m.seen.getD x []).map natD) (ys := [natD fi]) (by rw [List.length_map]; show _ + 1 ≤ 1000; omega) (am_nil (vc_sortedT (ns := (m.seen.getD x [] ++ [fi]).map fun i : Nat => (i : Int)) ?_ ?_ ?_))⟩)))))⟩))))))))))⟩)))
    · rw [List.map_append, List.map_append, List.map_map]
      rfl
    · rw [List.length_map, List.length_append, List.length_singleton]
      omega
    · intro ns hpm hpw
      refine am_nil (vc_tupL (.lst _) (am_nil ?_))
      have hall : ∀ n ∈ ns, ∃ i : Nat, n = i := fun n hn => by
        obtain ⟨i, _, rfl⟩ := List.mem_map.mp (hpm.mem_iff.mp hn)
        exact ⟨i, rfl⟩
      have hns : ns = (ns.map Int.toNat).map fun i : Nat => (i : Int) := by
        rw [List.map_map]
        refine ((List.map_congr_left fun n hn => ?_).trans (List.map_id ns)).symm
        obtain ⟨i, rfl⟩ := hall n hn
        rfl
      have eu : ns.map Int.toNat = ins1 fi (m.seen.getD x []) := by
        refine sorted_uniq ?_ ?_ (ins1_sorted fi hsort)
        · refine List.Perm.trans ?_ (ins1_perm fi _).symm
          have := hpm.map Int.toNat
          rw [List.map_map] at this
          have e : (m.seen.getD x [] ++ [fi]).map (Int.toNat ∘ fun i : Nat => (i : Int)) = m.seen.getD x [] ++ [fi] := by
            refine (List.map_congr_left fun i _ => ?_).trans (List.map_id _)
            rfl
          rw [e] at this
          exact this
        · refine List.pairwise_map.mpr (hpw.imp fun h => ?_)
          exact Int.toNat_le_toNat h
      have e : D.tup (ns.map D.int) = natsD (ins1 fi (m.seen.getD x [])) := by
        rw [← eu]
        unfold natsD
        conv => lhs; rw [hns]
        rw [List.map_map, List.map_map, List.map_map]
        rfl
      rw [e]
      refine ⟨m.shaded [m.at_ x fi], x, ins1 fi (m.seen.getD x []), m.rows.getD x [], rfl, row_of h2, ?_, ?_, hsx, by rw [show (m.shaded [m.at_ x fi]).seen = m.seen from rfl, ok.seen]; have := ok.few; omega, k⟩
      · rw [shaded_ok, ok.paint]; exact h2
      · rw [shaded_ok]; exact hp
end Sg
end T_P16

section T_P17
set_option autoImplicit true
set_option maxRecDepth 100000
set_option maxHeartbeats 4000000
namespace Sg
open PySem L2 Mp
variable {P : Program} {w : World} {K : PySem.W.Frag} {mg : Str → Option Value} {base : Heap}
theorem reg_at {m : Mo} {r : Nat} (h : r < m.held.length) : m.held[r]? = some (m.reg r) := by
  unfold Mo.reg
  rw [List.getD_eq_getElem?_getD, List.getElem?_eq_getElem h]
  rfl
theorem reg_some {m : Mo} {r o : Nat} (h : m.held[r]? = some (some o)) : m.reg r = some o := by
  unfold Mo.reg
  rw [List.getD_eq_getElem?_getD, h]
  rfl
theorem reg_lt {wd : Nat} {m : Mo} (ok : m.Ok wd) {r : Nat} : ∀ i, m.reg r = some i → i < m.rows.length := fun i hi => by
  unfold Mo.reg at hi
  rw [List.getD_eq_getElem?_getD] at hi
  cases e : m.held[r]? with
  | none => rw [e] at hi; cases hi
  | some o => rw [e] at hi; exact ok.held o (mem_of_get? e) i hi
structure AftM (P : Program) (w : World) (K : PySem.W.Frag) (mg : Str → Option Value) (base : Heap) (b : Bool) (C CM CT : Addr) : Prop where
  load : MFn P w K mg base C "after_load" 4 fun ds s Φ => ∃ j wd n f t m, ∃ r x fi : Nat, ds = [.ref j, moD CM m, .int r, .int x, .int fi] ∧ CycAt C CM s j wd n f (tabD CT t) m ∧ m.Ok wd ∧ r < m.held.length ∧ x < m.rows.length ∧ fi < wd ∧ Φ (moD CM (m.load t r x fi)) s
  store : MFn P w K mg base C "after_store" 4 fun ds s Φ => ∃ j wd n f t m, ∃ x fi : Nat, ∃ y : Option Nat, ds = [.ref j, moD CM m, .int x, .int fi, oD y] ∧ CycAt C CM s j wd n f (tabD CT t) m ∧ m.Ok wd ∧ x < m.rows.length ∧ fi < wd ∧ (∀ i, y = some i → i < m.rows.length) ∧ Φ (moD CM (m.store t x fi y)) s
  scan : MFnK P w K mg base C "after_scan" [] 4 (wAfterScan b C CM CT)
def wAfter (b : Bool) (C CM CT : Addr) : Wt := fun ds s Φ => ∃ (j wd n : Nat) (f : List Nat) (t : Tab) (m : Mo) (a : Act), ds = [.ref j, actD a, moD CM m] ∧ CycAt C CM s j wd n f (tabD CT t) m ∧ Good b t.again wd m a ∧ m.Ok wd ∧ SeenOk m ∧ Φ (moD CM (stepMo t wd m a)) s
theorem m_after {C CM CT : Addr} {b : Bool} (T : Tx K mg) (M : MomM P w K mg base CM) (CC : CycC K C b) (PF : PFn P w K mg base CT "fresh" 1 fun ds s Φ => ∃ l c b, ds = [tabV CT l c b] ∧ Φ (colD c) s) (AM' : AftM P w K mg base b C CM CT) (Df : DefM K C "after" "Cycle.after" sAfter) : MFn P w K mg base C "after" 5 (wAfter b C CM CT) := by
  refine mkM (N := ["self", "step", "here", "kind", "numbers", "held", "given"]) (ps := ["self", "step", "here"]) Df ⟨rfl, rfl, rfl, by decide +kernel, rfl, by decide +kernel, by decide +kernel⟩ (fun _ _ _ _ _ _ us hl => match us, hl with | [_, _, _], _ => rfl) (fun ds s Φ h => ?_) fun fa cdv A outer sh H E hr ds s Φ h => ?_
  · obtain ⟨_, _, _, _, _, _, _, rfl, _⟩ := h
    rfl
  · obtain ⟨j, wd, n, f, t, m, a, rfl, c, g, ok, so, k⟩ := h
    obtain ⟨l, x0, hj, hl⟩ := id c
    have nd : (["self", "step", "here", "kind", "numbers", "held", "given"] : List Str).Nodup := by decide +kernel
    have hp : m.paint.length ≤ 100 := by have := ok.few; rw [ok.paint]; omega
    have rl : a.rest.length < 1000 := by cases a <;> exact Nat.lt_of_le_of_lt (show _ ≤ 9 from Nat.le_of_ble_eq_true rfl) (by decide)
    refine sms_cons (sm_asg (em_v1 (gm_star (gm_name 3 nd (gm_name 4 nd ?_)) rl)))
    refine sms_cons (sm_if (tm_cmp (em_v3 (em_tup (am_cons (em_str (am_cons (em_str (am_nil ⟨Nat.le_of_ble_eq_true rfl, v2_inT rfl rfl (asB ?_)⟩)))))))))
    have shade : ∀ (Ψ : Mp.D → Sto → Prop) (s' : Sto), Ψ (moD CM ((m.shaded m.held).inPhase .marking)) s' → True := fun _ _ _ => trivial
    -- later tests
    have bF : ∀ {x y : Str} {A B : Prop}, x ≠ y → B → Bif (decide (x = y)) A B := fun h q => bif_df h q
    cases a with
    | start =>
      refine bif_TT (sms_cons (sm_set 5 nd (at_held M.c (em_v2 ⟨_, _, _, _, _, rfl, sms_cons (sm_ret (em_meth M.inPhase (hr.mono (by decide)) (em_methS M.shaded (hr.mono (by decide)) (em_v2 ⟨_, _, .ins _ _ _, by decide +kernel, em_v5 ⟨_, rfl, m, m.held, rfl, rfl, by have := ok.h6; omega, hp, ?_, _, _, .ins _ _ _, by decide +kernel, am_cons (em_glob T.MARKING (am_nil ⟨_, _, _, _, _, _, rfl, k⟩))⟩⟩))))⟩))))
      intro o ho i e
      rw [ok.paint]
      exact ok.held o ho i e
    | look =>
      refine bif_TT (sms_cons (sm_set 5 nd (at_held M.c (em_v2 ⟨_, _, _, _, _, rfl, sms_cons (sm_ret (em_meth M.inPhase (hr.mono (by decide)) (em_methS M.shaded (hr.mono (by decide)) (em_v2 ⟨_, _, .ins _ _ _, by decide +kernel, em_v5 ⟨_, rfl, m, m.held, rfl, rfl, by have := ok.h6; omega, hp, ?_, _, _, .ins _ _ _, by decide +kernel, am_cons (em_glob T.MARKING (am_nil ⟨_, _, _, _, _, _, rfl, k⟩))⟩⟩))))⟩))))
      intro o ho i e
      rw [ok.paint]
      exact ok.held o ho i e
    | fin =>
      exact bif_FF (sms_nil (sms_cons (sm_if (tm_cmp (em_v3 (em_str (v2_eqS (asB (bif_TT (sms_cons (sm_ret (em_meth M.inPhase (hr.mono (by decide)) (em_v2 ⟨_, _, .ins _ _ _, by decide +kernel, am_cons (em_glob T.ENDED (am_nil ⟨_, _, _, _, _, _, rfl, k⟩))⟩)))))))))))))
    | load r q fi =>
      obtain ⟨_, g1, ⟨o, g2⟩, g3⟩ := g
      have k' : Φ (moD CM (m.load t r o fi)) s := by
        have e : stepMo t wd m (.load r q fi) = m.load t r ((m.reg q).getD 0) fi := rfl
        rw [e, reg_some g2] at k
        exact k
      refine bif_FF (sms_nil (sms_cons (sm_if (tm_cmp (em_v3 (em_str (v2_eqS (asB (bif_FF (sms_nil (sms_cons (sm_if (tm_cmp (em_v3 (em_str (v2_eqS (asB (bif_TT (sms_cons (sm_ret (em_meth AM'.load hr (em_v0 ⟨_, _, .ref hj, by decide +kernel, am_cons (em_v2 (am_cons (em_ix (em_v4 (em_int (vi_lst (ds := [natD r, natD q, natD fi]) (d := natD r) rfl (am_cons (em_ix (at_held M.c (em_v2 ⟨_, _, _, _, _, rfl, em_ix (em_v4 (em_int (vi_lst (ds := [natD r, natD q, natD fi]) (d := natD q) rfl (vi_tup (row_at g2) (am_cons (em_ix (em_v4 (em_int (vi_lst (ds := [natD r, natD q, natD fi]) (d := natD fi) rfl (am_nil ⟨j, wd, n, f, t, m, r, o, fi, rfl, c, ok, g1, ok.held _ (mem_of_get? g2) o rfl, g3, k'⟩))))))))))⟩))))))))))⟩))))))))))))))))))))))
    | store x fi y =>
      obtain ⟨_, ⟨o, g2⟩, g3, g4⟩ := g
      have hbind : ∀ i, y.bind m.reg = some i → i < m.rows.length := fun i hi => by
        cases y with
        | none => cases hi
        | some y => exact reg_lt ok i hi
      have k' : Φ (moD CM (m.store t o fi (y.bind m.reg))) s := by
        have e : stepMo t wd m (.store x fi y) = m.store t ((m.reg x).getD 0) fi (y.bind m.reg) := rfl
        rw [e, reg_some g2] at k
        exact k
      refine bif_FF (sms_nil (sms_cons (sm_if (tm_cmp (em_v3 (em_str (v2_eqS (asB (bif_FF (sms_nil (sms_cons (sm_if (tm_cmp (em_v3 (em_str (v2_eqS (asB (bif_FF (sms_nil (sms_cons (sm_if (tm_cmp (em_v3 (em_str (v2_eqS (asB (bif_TT ?_)))))))))))))))))))))))))))
      refine sms_cut (fun ρ' s' => s' = s ∧ ρ' = [some (.ref j), some (actD (.store x fi y)), some (moD CM m), some (.str "store"), some (.lst [natD x, natD fi, oD y]), none, some (oD (y.bind m.reg))]) (sm_set 6 nd (em_if (tm_cmp (em_ix (em_v4 (em_int (vi_lst (ds := [natD x, natD fi, oD y]) (d := oD y) rfl (em_non (v2_isN (asB ?_)))))))))) ?_
      · rw [isNon_oD]
        cases y with
        | none => exact bif_t (em_non ⟨rfl, rfl⟩)
        | some y =>
          obtain ⟨o', g5⟩ := g4 y rfl
          exact bif_f (em_ix (at_held M.c (em_v2 ⟨_, _, _, _, _, rfl, em_ix (em_v4 (em_int (vi_lst (ds := [natD x, natD fi, natD y]) (d := natD y) rfl (vi_tup (row_at (reg_at (get_lt g5))) ⟨rfl, rfl⟩))))⟩)))
      · rintro ρ' s' ⟨rfl, rfl⟩
        exact sms_cons (sm_ret (em_meth AM'.store hr (em_v0 ⟨_, _, .ref hj, by decide +kernel, am_cons (em_v2 (am_cons (em_ix (at_held M.c (em_v2 ⟨_, _, _, _, _, rfl, em_ix (em_v4 (em_int (vi_lst (ds := [natD x, natD fi, oD y]) (d := natD x) rfl (vi_tup (row_at g2) (am_cons (em_ix (em_v4 (em_int (vi_lst (ds := [natD x, natD fi, oD y]) (d := natD fi) rfl (am_cons (em_v6 (am_nil ⟨j, wd, n, f, t, m, o, fi, y.bind m.reg, rfl, c, ok, ok.held _ (mem_of_get? g2) o rfl, g3, hbind, k'⟩))))))))))))⟩)))))⟩)))
    | scan x =>
      exact bif_FF (sms_nil (sms_cons (sm_if (tm_cmp (em_v3 (em_str (v2_eqS (asB (bif_FF (sms_nil (sms_cons (sm_if (tm_cmp (em_v3 (em_str (v2_eqS (asB (bif_FF (sms_nil (sms_cons (sm_if (tm_cmp (em_v3 (em_str (v2_eqS (asB (bif_FF (sms_nil (sms_cons (sm_if (tm_cmp (em_v3 (em_str (v2_eqS (asB (bif_TT (sms_cons (sm_ret (em_methSB AM'.scan hr (em_v0 ⟨_, _, .ref hj, by decide +kernel, em_v2 (em_v4 ⟨_, .lst (.lst _), j, wd, n, f, t, m, .scan x, x, rfl, rfl, .inl rfl, c, g, ok, so, k⟩)⟩))))))))))))))))))))))))))))))))))))))))
    | scanF x fi =>
      exact bif_FF (sms_nil (sms_cons (sm_if (tm_cmp (em_v3 (em_str (v2_eqS (asB (bif_FF (sms_nil (sms_cons (sm_if (tm_cmp (em_v3 (em_str (v2_eqS (asB (bif_FF (sms_nil (sms_cons (sm_if (tm_cmp (em_v3 (em_str (v2_eqS (asB (bif_FF (sms_nil (sms_cons (sm_if (tm_cmp (em_v3 (em_str (v2_eqS (asB (bif_TT (sms_cons (sm_ret (em_methSB AM'.scan hr (em_v0 ⟨_, _, .ref hj, by decide +kernel, em_v2 (em_v4 ⟨_, .lst (.lst _), j, wd, n, f, t, m, .scanF x fi, x, rfl, rfl, .inr ⟨fi, rfl⟩, c, g, ok, so, k⟩)⟩))))))))))))))))))))))))))))))))))))))))
    | new r =>
      exact bif_FF (sms_nil (sms_cons (sm_if (tm_cmp (em_v3 (em_str (v2_eqS (asB (bif_FF (sms_nil (sms_cons (sm_if (tm_cmp (em_v3 (em_str (v2_eqS (asB (bif_FF (sms_nil (sms_cons (sm_if (tm_cmp (em_v3 (em_str (v2_eqS (asB (bif_FF (sms_nil (sms_cons (sm_if (tm_cmp (em_v3 (em_str (v2_eqS (asB (bif_FF (sms_nil (sms_cons (sm_if (tm_cmp (em_v3 (em_str (v2_eqS (asB (bif_TT (sms_cons (sm_ret (em_meth M.grown (hr.mono (by decide)) (em_v2 ⟨_, _, .ins _ _ _, by decide +kernel, am_cons (em_ix (em_v4 (em_int (vi_lst (ds := [natD r]) (d := natD r) rfl (am_cons (at_wide CC (em_v0 ⟨j, wd, n, f, tabD CT t, _, rfl, hj, am_cons (em_prop PF (hr.mono (by decide)) (at_rule CC (em_v0 ⟨j, wd, n, f, tabD CT t, _, rfl, hj, _, _, .ins _ _ _, _, _, _, rfl, am_nil ⟨m, r, wd, t.fresh, rfl, g.2.1, by have := ok.h6; omega, by have := ok.w4; omega, by have := ok.few; omega, hp, by rw [ok.seen]; have := ok.few; omega, k⟩⟩)))⟩)))))))⟩)))))))))))))))))))))))))))))))))))))))))))))))))
    | move r q =>
      obtain ⟨_, g1, _, o, g2⟩ := g
      refine bif_FF (sms_nil (sms_cons (sm_if (tm_cmp (em_v3 (em_str (v2_eqS (asB (bif_FF (sms_nil (sms_cons (sm_if (tm_cmp (em_v3 (em_str (v2_eqS (asB (bif_FF (sms_nil (sms_cons (sm_if (tm_cmp (em_v3 (em_str (v2_eqS (asB (bif_FF (sms_nil (sms_cons (sm_if (tm_cmp (em_v3 (em_str (v2_eqS (asB (bif_FF (sms_nil (sms_cons (sm_if (tm_cmp (em_v3 (em_str (v2_eqS (asB (bif_FF (sms_nil ?_))))))))))))))))))))))))))))))))))))))))))))))
      refine sms_cons (sm_ret (em_meth M.holding (hr.mono (by decide)) (em_v2 ⟨_, _, .ins _ _ _, by decide +kernel, am_cons (em_ix (em_v4 (em_int (vi_lst (ds := [natD r, natD q]) (d := natD r) rfl (am_cons (em_if (tm_cmp (em_v3 (em_str (v2_eqS (asB (bif_TT (em_ix (at_held M.c (em_v2 ⟨_, _, _, _, _, rfl, em_ix (em_v4 (em_int (vi_lst (ds := [natD r, natD q]) (d := natD q) rfl (vi_tup (row_at (reg_at (get_lt g2))) (am_nil ⟨_, _, m.held.map oD, _, _, _, r, rfl, by rw [List.length_map]; exact g1, by rw [List.length_map]; have := ok.h6; omega, by rw [holding_eq]; exact k⟩)))))⟩)))))))))))))))⟩)))
    | clear r =>
      obtain ⟨_, o, g2⟩ := g
      refine bif_FF (sms_nil (sms_cons (sm_if (tm_cmp (em_v3 (em_str (v2_eqS (asB (bif_FF (sms_nil (sms_cons (sm_if (tm_cmp (em_v3 (em_str (v2_eqS (asB (bif_FF (sms_nil (sms_cons (sm_if (tm_cmp (em_v3 (em_str (v2_eqS (asB (bif_FF (sms_nil (sms_cons (sm_if (tm_cmp (em_v3 (em_str (v2_eqS (asB (bif_FF (sms_nil (sms_cons (sm_if (tm_cmp (em_v3 (em_str (v2_eqS (asB (bif_FF (sms_nil ?_))))))))))))))))))))))))))))))))))))))))))))))
      refine sms_cons (sm_ret (em_meth M.holding (hr.mono (by decide)) (em_v2 ⟨_, _, .ins _ _ _, by decide +kernel, am_cons (em_ix (em_v4 (em_int (vi_lst (ds := [natD r]) (d := natD r) rfl (am_cons (em_if (tm_cmp (em_v3 (em_str (v2_eqS (asB (bif_FF (em_non (am_nil ⟨_, _, m.held.map oD, _, _, oD none, r, rfl, by rw [List.length_map]; exact get_lt g2, by rw [List.length_map]; have := ok.h6; omega, by rw [holding_eq]; exact k⟩))))))))))))))⟩)))
end Sg
end T_P17

section T_P18
set_option autoImplicit true
set_option maxRecDepth 100000
set_option maxHeartbeats 4000000
namespace Sg
open PySem L2 Mp
variable {P : Program} {w : World} {K : PySem.W.Frag} {mg : Str → Option Value} {base : Heap}
abbrev sTrInit : Stmt := cls 72 0
abbrev sTrEnter : Stmt := cls 72 1
abbrev sTrExit : Stmt := cls 72 2
abbrev sCtrial : Stmt := cls 73 37
abbrev sCstep : Stmt := cls 73 30
def ksR : List Str := ["cycle", "story", "rule"]
structure TrC (K : PySem.W.Frag) (C : Addr) : Prop where
  cl : Cls K C
  n1 : NoAttr K C "cycle"
  n2 : NoAttr K C "story"
  n3 : NoAttr K C "rule"
def trl (C : Addr) (j : Nat) (st rule : Mp.D) : MO := .ins C ksR [.ref j, st, rule]
theorem get_app_l {s g : Sto} {j : Nat} {m : MO} (h : s[j]? = some m) : (s ++ g)[j]? = some m := by
  rw [List.getElem?_append_left (List.getElem?_eq_some_iff.mp h).1]
  exact h
theorem set_app_l {s g : Sto} {j : Nat} {m m' : MO} (h : s[j]? = some m) : (s ++ g).set j m' = s.set j m' ++ g := List.set_append_left _ _ (List.getElem?_eq_some_iff.mp h).1
def wTrInit (CR C : Addr) : Wt := fun ds s Φ => ∃ (i j wd n : Nat) (f : List Nat) (t : Mp.D) (l : List Mp.D), ds = [.ref i, .ref j] ∧ s[i]? = some (.ins CR [] []) ∧ s[j]? = some (cyc C wd n f t l) ∧ i ≠ j ∧ Φ .non (s.set i (trl CR j (.lst l) t))
theorem get_set_ne {s : Sto} {i j : Nat} {m m' : MO} (h : s[j]? = some m) (hne : i ≠ j) : (s.set i m')[j]? = some m := by
  rw [List.getElem?_set, if_neg hne]
  exact h
theorem mk_trl {CR C : Addr} {b : Bool} (TR : TrC K CR) (CC : CycC K C b) (Df : ∃ f fd, mg "Trial" = some (.ref CR) ∧ Mk K CR f ∧ FunD K "__init__" "Trial.__init__" (defArgs sTrInit) (defBody sTrInit) (defScope sTrInit) [] [] f fd) : MkC P w K mg base "Trial" CR 1 (wTrInit CR C) := by
  obtain ⟨f, fd, hm, mk, F⟩ := Df
  refine ⟨f, fd, ["self", "cycle"], hm, mk, def_ok (N := ["self", "cycle"]) F ⟨rfl, rfl, rfl, by decide +kernel, rfl, by decide +kernel, by decide +kernel⟩ (fun ds s Φ h => ?_) (fun cdv A outer sh H E hr ds s Φ h => ?_), F.bindsN fun _ _ _ _ _ _ us hl => match us, hl with | [_, _], _ => rfl⟩
  · obtain ⟨_, _, _, _, _, _, _, rfl, _⟩ := h
    rfl
  · obtain ⟨i, j, wd, n, f, t, l, rfl, hi, hj, hne, k⟩ := h
    refine sms_cons (sm_setF (em_v1 (em_v0 ⟨i, CR, _, _, rfl, hi, TR.cl, TR.n1, by decide, .inr ⟨by decide +kernel, ?_⟩⟩)))
    refine sms_cons (sm_setF (at_story CC (em_v1 ⟨j, wd, n, f, t, l, rfl, get_set_ne hj hne, em_v0 ⟨i, CR, _, _, rfl, set_get hi, TR.cl, TR.n2, by decide, .inr ⟨by decide +kernel, ?_⟩⟩⟩)))
    rw [List.set_set]
    refine sms_cons (sm_setF (at_rule CC (em_v1 ⟨j, wd, n, f, t, l, rfl, get_set_ne hj hne, em_v0 ⟨i, CR, _, _, rfl, set_get hi, TR.cl, TR.n3, by decide, .inr ⟨by decide +kernel, ?_⟩⟩⟩)))
    rw [List.set_set]
    exact sms_nil k
section
variable {X : Cx} {ρ : Slo} {s : Sto} {Φ : Mp.D → Sto → Prop} {pos p : Pos} {e : Expr} {C : Addr}
theorem at_tcycle (M : TrC X.K C) (h : EM X ρ s e fun x s1 => ∃ i j st r, x = .ref i ∧ s1[i]? = some (trl C j st r) ∧ Φ (.ref j) s1) (hb : attributeBase e "cycle" X.env (eval e X.env) = eval e X.env := by rfl) : EM X ρ s (.Attribute e "cycle" pos) Φ :=
  em_fld 0 (em_mono h fun x s1 ⟨i, j, st, r, e, c, q⟩ => ⟨C, ksR, [.ref j, st, r], .ref j, by rw [e]; exact .ref c, M.cl, M.n1, by decide +kernel, rfl, q⟩) hb
theorem at_tstory (M : TrC X.K C) (h : EM X ρ s e fun x s1 => ∃ i j st r, x = .ref i ∧ s1[i]? = some (trl C j st r) ∧ Φ st s1) (hb : attributeBase e "story" X.env (eval e X.env) = eval e X.env := by rfl) : EM X ρ s (.Attribute e "story" pos) Φ :=
  em_fld 1 (em_mono h fun x s1 ⟨i, j, st, r, e, c, q⟩ => ⟨C, ksR, [.ref j, st, r], st, by rw [e]; exact .ref c, M.cl, M.n2, by decide +kernel, rfl, q⟩) hb
theorem at_trule (M : TrC X.K C) (h : EM X ρ s e fun x s1 => ∃ i j st r, x = .ref i ∧ s1[i]? = some (trl C j st r) ∧ Φ r s1) (hb : attributeBase e "rule" X.env (eval e X.env) = eval e X.env := by rfl) : EM X ρ s (.Attribute e "rule" pos) Φ :=
  em_fld 2 (em_mono h fun x s1 ⟨i, j, st, r, e, c, q⟩ => ⟨C, ksR, [.ref j, st, r], r, by rw [e]; exact .ref c, M.cl, M.n3, by decide +kernel, rfl, q⟩) hb
end
/-- a method as it stands: promised by positional values -/
theorem mkB {N ps : List Str} {C : Addr} {m qual : Str} {st : Stmt} {k : Nat} {W : Wt} (D : DefB K C m qual st) (S : FnScope N ps (defScope st)) (hbind : BindOk m qual st ps) (len : ∀ ds s Φ, W ds s Φ → ds.length = ps.length) (hb : BodyOk P w K mg base N qual st k W) : MFnK P w K mg base C m [] (k + 1) fun ds _ s Φ => W ds s Φ := by
  obtain ⟨f, fd, bm, cl, F⟩ := D
  exact ⟨cl, f, bm, fnOk_rk (def_ok F S len (hb f)) (F.bindsN hbind)⟩
def wEnter (CR C : Addr) : Wt := fun ds s Φ => ∃ (i j wd n : Nat) (f : List Nat) (t st r : Mp.D) (l : List Mp.D), ds = [.ref i] ∧ s[i]? = some (trl CR j st r) ∧ s[j]? = some (cyc C wd n f t l) ∧ i ≠ j ∧ Φ (.ref j) (s.set i (trl CR j (.lst l) t))
theorem m_enter {CR C : Addr} {b : Bool} (TR : TrC K CR) (CC : CycC K C b) (Df : DefB K CR "__enter__" "Trial.__enter__" sTrEnter) : MFnK P w K mg base CR "__enter__" [] 1 fun ds _ s Φ => wEnter CR C ds s Φ := by
  refine mkB (N := ["self"]) (ps := ["self"]) Df ⟨rfl, rfl, rfl, by decide +kernel, rfl, by decide +kernel, by decide +kernel⟩ (fun _ _ _ _ _ _ us hl => match us, hl with | [_], _ => rfl) (fun ds s Φ h => ?_) fun fa cdv A outer sh H E hr ds s Φ h => ?_
  · obtain ⟨_, _, _, _, _, _, _, _, _, rfl, _⟩ := h
    rfl
  · obtain ⟨i, j, wd, n, f, t, st, r, l, rfl, hi, hj, hne, k⟩ := h
    refine sms_cons (sm_setF (at_story CC (at_tcycle TR (em_v0 ⟨i, j, st, r, rfl, hi, j, wd, n, f, t, l, rfl, hj, em_v0 ⟨i, CR, _, _, rfl, hi, TR.cl, TR.n2, by decide, .inl ⟨1, by decide +kernel, ?_⟩⟩⟩))))
    refine sms_cons (sm_setF (at_rule CC (at_tcycle TR (em_v0 ⟨i, j, .lst l, r, rfl, set_get hi, j, wd, n, f, t, l, rfl, get_set_ne hj hne, em_v0 ⟨i, CR, ksR, [.ref j, .lst l, r], rfl, set_get hi, TR.cl, TR.n3, by decide, .inl ⟨2, by decide +kernel, ?_⟩⟩⟩))))
    rw [List.set_set]
    exact sms_cons (sm_ret (at_tcycle TR (em_v0 ⟨i, j, .lst l, t, rfl, set_get hi, k⟩)))
def wExit (CR C : Addr) : Wt := fun ds s Φ => ∃ (i j wd n : Nat) (f : List Nat) (t t' : Mp.D) (l l' : List Mp.D), ds = [.ref i, .non, .non, .non] ∧ s[i]? = some (trl CR j (.lst l') t') ∧ s[j]? = some (cyc C wd n f t l) ∧ i ≠ j ∧ Φ .non (s.set j (cyc C wd n f t' l'))
theorem m_exit {CR C : Addr} {b : Bool} (TR : TrC K CR) (CC : CycC K C b) (Df : DefB K CR "__exit__" "Trial.__exit__" sTrExit) : MFnK P w K mg base CR "__exit__" [] 1 fun ds _ s Φ => wExit CR C ds s Φ := by
  refine mkB (N := ["self", "kind", "value", "trace"]) (ps := ["self", "kind", "value", "trace"]) Df ⟨rfl, rfl, rfl, by decide +kernel, rfl, by decide +kernel, by decide +kernel⟩ (fun _ _ _ _ _ _ us hl => match us, hl with | [_, _, _, _], _ => rfl) (fun ds s Φ h => ?_) fun fa cdv A outer sh H E hr ds s Φ h => ?_
  · obtain ⟨_, _, _, _, _, _, _, _, _, rfl, _⟩ := h
    rfl
  · obtain ⟨i, j, wd, n, f, t, t', l, l', rfl, hi, hj, hne, k⟩ := h
    refine sms_cons (sm_setF (at_tstory TR (em_v0 ⟨i, j, .lst l', t', rfl, hi, at_tcycle TR (em_v0 ⟨i, j, .lst l', t', rfl, hi, j, C, ksC, _, rfl, hj, CC.cl, CC.n5, by decide, .inl ⟨4, by decide +kernel, ?_⟩⟩)⟩)))
    have hi2 : ∀ m', (s.set j m')[i]? = some (trl CR j (.lst l') t') := fun m' => get_set_ne hi (Ne.symm hne)
    refine sms_cons (sm_setF (at_trule TR (em_v0 ⟨i, j, .lst l', t', rfl, hi2 _, at_tcycle TR (em_v0 ⟨i, j, .lst l', t', rfl, hi2 _, j, C, ksC, [.int wd, .int n, natsD f, t, .lst l'], rfl, set_get hj, CC.cl, CC.n4, by decide, .inl ⟨3, by decide +kernel, ?_⟩⟩)⟩)))
    rw [List.set_set]
    exact sms_nil k
theorem m_trial {CR C : Addr} {b : Bool} (CC : CycC K C b) (I : MkC P w K mg base "Trial" CR 1 (wTrInit CR C)) (Df : DefM K C "trial" "Cycle.trial" sCtrial) : MFn P w K mg base C "trial" 3 fun ds s Φ => ∃ (j wd n : Nat) (f : List Nat) (t : Mp.D) (l : List Mp.D), ds = [.ref j] ∧ s[j]? = some (cyc C wd n f t l) ∧ Φ (.ref s.length) (s ++ [trl CR j (.lst l) t]) := by
  refine mkM (N := ["self"]) (ps := ["self"]) Df ⟨rfl, rfl, rfl, by decide +kernel, rfl, by decide +kernel, by decide +kernel⟩ (fun _ _ _ _ _ _ us hl => match us, hl with | [_], _ => rfl) (fun ds s Φ h => ?_) fun fa cdv A outer sh H E hr ds s Φ h => ?_
  · obtain ⟨_, _, _, _, _, _, rfl, _⟩ := h
    rfl
  · obtain ⟨j, wd, n, f, t, l, rfl, hj, k⟩ := h
    refine sms_cons (sm_ret (em_make I hr (am_cons (em_v0 (am_nil ⟨s.length, j, wd, n, f, t, l, rfl, get_last _ _, get_app_l hj, ?_, rfl, ?_⟩)))))
    · exact Nat.ne_of_gt (List.getElem?_eq_some_iff.mp hj).1
    · rw [set_last]
      exact k
end Sg
end T_P18

section T_P19
set_option autoImplicit true
set_option maxRecDepth 100000
set_option maxHeartbeats 4000000
namespace Sg
open PySem L2 Mp
variable {P : Program} {w : World} {K : PySem.W.Frag} {mg : Str → Option Value} {base : Heap}
theorem get_0' {s0 : Sto} {n : Nat} (a b : MO) (h : s0.length = n) : ((s0 ++ [a]) ++ [b])[n]? = some a := by subst h; exact get_0 s0 a b
theorem set_0' {s0 : Sto} {n : Nat} (a b c : MO) (h : s0.length = n) : ((s0 ++ [a]) ++ [b]).set n c = (s0 ++ [c]) ++ [b] := by subst h; exact set_0 s0 a b c
theorem get_1' {s0 : Sto} {n : Nat} (a b : MO) (h : s0.length + 1 = n) : ((s0 ++ [a]) ++ [b])[n]? = some b := by
  subst h
  rw [List.getElem?_append_right (by rw [List.length_append]; exact Nat.le_refl _), List.length_append]
  simp
theorem set_1' {s0 : Sto} {n : Nat} (a b c : MO) (h : s0.length + 1 = n) : ((s0 ++ [a]) ++ [b]).set n c = (s0 ++ [a]) ++ [c] := by
  subst h
  rw [List.set_append_right _ _ (by rw [List.length_append]; exact Nat.le_refl _), List.length_append]
  simp
theorem get_l' {s0 : Sto} {j : Nat} {m : MO} (a b : MO) (h : s0[j]? = some m) : ((s0 ++ [a]) ++ [b])[j]? = some m := get_app_l (get_app_l h)
theorem set_l' {s0 : Sto} {j : Nat} {m : MO} (a b c : MO) (h : s0[j]? = some m) : ((s0 ++ [a]) ++ [b]).set j c = (s0.set j c ++ [a]) ++ [b] := by rw [set_app_l (get_app_l h), set_app_l h]
/-! bounds -/
theorem bd_o (n : Nat) (o : Option Nat) : Bd n (oD o) := by cases o <;> trivial
theorem bd_row (n : Nat) (r : Row) : Bd n (rowD r) := bdL_of fun d hd => by
  obtain ⟨o, _, rfl⟩ := List.mem_map.mp hd
  exact bd_o n o
theorem bd_rows (n : Nat) (r : List Row) : Bd n (rowsD r) := bdL_of fun d hd => by
  obtain ⟨o, _, rfl⟩ := List.mem_map.mp hd
  exact bd_row n o
theorem bd_paint (n : Nat) (r : List Col) : Bd n (paintD r) := bdL_of fun d hd => by
  obtain ⟨o, _, rfl⟩ := List.mem_map.mp hd
  trivial
theorem bd_seen (n : Nat) (r : List (List Nat)) : Bd n (seenD r) := bdL_of fun d hd => by
  obtain ⟨o, _, rfl⟩ := List.mem_map.mp hd
  exact bd_nats n o
theorem bd_mo (n : Nat) (CM : Addr) (m : Mo) : Bd n (moD CM m) := ⟨trivial, bd_rows n _, bd_row n _, bd_paint n _, bd_seen n _, trivial⟩
theorem bd_act (n : Nat) (a : Act) : Bd n (actD a) := by
  cases a with
  | store x f y => exact ⟨trivial, trivial, trivial, bd_o n y, trivial⟩
  | _ => first | exact ⟨trivial, trivial⟩ | exact ⟨trivial, trivial, trivial⟩ | exact ⟨trivial, trivial, trivial, trivial⟩ | exact ⟨trivial, trivial, trivial, trivial, trivial⟩
theorem bdL_app {n : Nat} {a b : List Mp.D} (h1 : BdL n a) (h2 : BdL n b) : BdL n (a ++ b) := bdL_of fun d hd => (List.mem_append.mp hd).elim (bdL_at h1 d) (bdL_at h2 d)
/-- the cycle, its story's length told -/
def CycL (C CM : Addr) (s : Sto) (j wd n : Nat) (first : List Nat) (tab : Mp.D) (m : Mo) (N : Nat) : Prop := ∃ (l : List Mp.D) (x : Mp.D), s[j]? = some (cyc C wd n first tab (l ++ [.tup [x, moD CM m]])) ∧ l.length ≤ N
theorem CycL.at_ {C CM : Addr} {s : Sto} {j wd n : Nat} {first : List Nat} {tab : Mp.D} {m : Mo} {N : Nat} (h : CycL C CM s j wd n first tab m N) (hN : N ≤ 200) : CycAt C CM s j wd n first tab m := by
  obtain ⟨l, x, h1, h2⟩ := h
  exact ⟨l, x, h1, Nat.le_trans h2 hN⟩
theorem step_len (t : Tab) (wd : Nat) (m : Mo) (a : Act) : m.paint.length ≤ (stepMo t wd m a).paint.length := by
  have sh : ∀ (m : Mo) xs, (m.shaded xs).paint.length = m.paint.length := fun m xs => shadeAll_len xs _
  have rl : ∀ (m : Mo) x, (m.reopened x).paint.length = m.paint.length := fun m x => List.length_set
  cases a with
  | start => exact Nat.le_of_eq (sh m _).symm
  | look => exact Nat.le_of_eq (sh m _).symm
  | fin => exact Nat.le_refl _
  | load r s f =>
    show _ ≤ (m.load t r _ f).paint.length
    unfold Mo.load
    split
    · exact Nat.le_of_eq (sh m _).symm
    · exact Nat.le_refl _
  | store x f y =>
    show _ ≤ (m.store t _ f _).paint.length
    unfold Mo.store
    dsimp only
    have h1 : ∀ o, (if t.has (.old, m.col o) = true then (m.storedAt o f (y.bind m.reg)).shaded [m.at_ o f] else m.storedAt o f (y.bind m.reg)).paint.length = m.paint.length := fun o => by
      split
      · exact sh _ _
      · rfl
    have h2 : ∀ (m2 : Mo) (b : Bool) xs, (if b = true then m2.shaded xs else m2).paint.length = m2.paint.length := fun m2 b xs => by
      split
      · exact sh _ _
      · rfl
    split
    · rw [rl, h2, h1]; exact Nat.le_refl _
    · rw [h2, h1]; exact Nat.le_refl _
  | move r s => exact Nat.le_refl _
  | clear r => exact Nat.le_refl _
  | new r =>
    show _ ≤ (m.paint ++ [t.fresh]).length
    rw [List.length_append]
    exact Nat.le_add_right _ _
  | scan x =>
    show _ ≤ ((shadeAll m.paint _).set x _).length
    rw [List.length_set, shadeAll_len]
    exact Nat.le_refl _
  | scanF x f =>
    show _ ≤ ((shadeAll m.paint _).set x _).length
    rw [List.length_set, shadeAll_len]
    exact Nat.le_refl _
/-- one step: what it leaves -/
def wStep (b : Bool) (C CM CT : Addr) : WtK := fun ds es s Φ => ∃ (j wd n : Nat) (f : List Nat) (t : Tab) (m : Mo) (a : Act) (N : Nat), es = [] ∧ ds = [.ref j, actD a] ∧ CycL C CM s j wd n f (tabD CT t) m N ∧ N < 200 ∧ Good b t.again wd m a ∧ m.Ok wd ∧ SeenOk m ∧
  ∀ (g : List Nat) (l' : List Mp.D) (x : Mp.D), l'.length ≤ N + 1 → Φ (.tup [natsD g]) (s.set j (cyc C wd n f (tabD CT t) (l' ++ [.tup [x, moD CM (stepMo t wd m a)]])))
abbrev GGreyed (P : Program) (w : World) (K : PySem.W.Frag) (mg : Str → Option Value) (base : Heap) (CM : Addr) : Prop := GFn P w K mg base "greyed" 3 fun ds s Φ => ∃ (a b : Mo), ds = [moD CM a, moD CM b] ∧ a.paint.length ≤ b.paint.length ∧ a.paint.length ≤ 100 ∧ ∀ l : List Nat, Φ (natsD l) s
theorem m_step {C CM CT CR : Addr} {b : Bool} (T : Tx K mg) (M : MomC K CM) (CC : CycC K C b) (TR : TrC K CR) (MN : MNow P w K mg base C CM) (GG : GGreyed P w K mg base CM)
    (MT : MFn P w K mg base C "trial" 3 fun ds s Φ => ∃ (j wd n : Nat) (f : List Nat) (t : Mp.D) (l : List Mp.D), ds = [.ref j] ∧ s[j]? = some (cyc C wd n f t l) ∧ Φ (.ref s.length) (s ++ [trl CR j (.lst l) t]))
    (ME : MFnK P w K mg base CR "__enter__" [] 1 fun ds _ s Φ => wEnter CR C ds s Φ) (MX : MFnK P w K mg base CR "__exit__" [] 1 fun ds _ s Φ => wExit CR C ds s Φ)
    (MW : MFn P w K mg base C "why" 8 (wWhy b C CM CT fun j a _ => [.ref j, actD a])) (MA : MFn P w K mg base C "after" 5 (wAfter b C CM CT)) (Df : DefB K C "step" "Cycle.step" sCstep) : MFnK P w K mg base C "step" [] 9 (wStep b C CM CT) := by
  obtain ⟨f, fd, bm, cl, F⟩ := Df
  refine ⟨cl, f, bm, def_star (N := ["self", "steps", "rows", "told", "at", "step", "reason", "here", "later"]) (ps := ["self"]) (ks := []) (pv := "steps") bh_drp F ⟨rfl, rfl, rfl, by decide +kernel, rfl, by decide +kernel, by decide +kernel⟩
    (fun kV doc pm an cdv ct us rest ws h1 h2 => match us, ws, rest, h1, h2 with | [_], [], [], _, _ => rfl | [_], [], _ :: _, _, _ => rfl) (fun ds es s Φ h => ?_) fun cdv A outer sh H E hr ds es s Φ h => ?_⟩
  · obtain ⟨_, _, _, _, _, _, _, _, rfl, rfl, _⟩ := h
    exact ⟨Nat.le_of_ble_eq_true rfl, Nat.le_of_ble_eq_true rfl⟩
  · obtain ⟨j, wd, n, fs, t, m, a, N, rfl, rfl, ⟨l, x0, hj, hl⟩, hN, g, ok, so, k⟩ := h
    have nd : (["self", "steps", "rows", "told", "at", "step", "reason", "here", "later"] : List Str).Nodup := by decide +kernel
    have hp : m.paint.length ≤ 100 := by have := ok.few; rw [ok.paint]; omega
    generalize hL : l ++ [.tup [x0, moD CM m]] = L at hj
    have lL : L.length = l.length + 1 := by rw [← hL, List.length_append]; rfl
    generalize hm' : stepMo t wd m a = m' at k
    have hjl : j < s.length := (List.getElem?_eq_some_iff.mp hj).1
    refine sms_cons (sm_set 2 nd (em_callTy (T := "list") T.list (am_cons (at_story CC (em_v0 ⟨j, wd, n, fs, tabD CT t, L, rfl, hj, am_nil (vc_list (.lst (.lst _)) ?_)⟩)))))
    refine sms_cons (sm_set 3 nd (em_lstC (am_nil ⟨Nat.le_of_ble_eq_true rfl, ?_⟩)))
    have S0j : ∀ A, ((s ++ [MO.lst A]) ++ [trl CR j (.lst L) (tabD CT t)])[j]? = some (cyc C wd n fs (tabD CT t) L) := fun A => get_l' _ _ hj
    have S0i : ∀ (s0 : Sto) A, s0.length = s.length → ((s0 ++ [MO.lst A]) ++ [trl CR j (.lst L) (tabD CT t)])[(s ++ [MO.lst []]).length]? = some (trl CR j (.lst L) (tabD CT t)) := fun s0 A e => get_1' _ _ (by rw [List.length_append, e]; rfl)
    have hne : (s ++ [MO.lst []]).length ≠ j := by rw [List.length_append]; show s.length + 1 ≠ j; omega
    have lc : (s.set j (cyc C wd n fs (tabD CT t) (L ++ [.tup [actD a, moD CM m']]))).length = s.length := List.length_set
    have lc2 : (s.set j (cyc C wd n fs (tabD CT t) L)).length = s.length := List.length_set
    refine sms_cut (fun ρ' s' => ∃ gl, ρ' = [some (.ref j), some (.tup [actD a]), some (.lst (L ++ [.tup [actD a, moD CM m']])), some (.ref s.length), some (.int 0), some (actD a), some .non, some (moD CM m), some (moD CM m')] ∧ s' = (s.set j (cyc C wd n fs (tabD CT t) L) ++ [.lst [natsD gl]]) ++ [trl CR j (.lst L) (tabD CT t)])
      (sm_with ME MX (hr.mono (by decide)) (hr.mono (by decide)) rfl (em_meth0 MT (hr.mono (by decide)) (em_v0 ⟨_, _, .ref (get_app_l hj), by decide +kernel, j, wd, n, fs, tabD CT t, L, rfl, get_app_l hj, _, _, .ref (S0i s [] rfl), _, j, wd, n, fs, tabD CT t, _, _, L, rfl, S0i s [] rfl, S0j [], hne, ?_⟩))) ?_
    · rw [set_1' _ _ _ (by rw [List.length_append]; rfl)]
      refine sms_cons (sm_for (im_enumT T.enumerate (em_v1 ⟨[actD a], rfl, fun i ρ' s' => match i with
        | 0 => ρ' = [some (.ref j), some (.tup [actD a]), some (.lst L), some (.ref s.length), none, none, none, none, none] ∧ s' = (s ++ [MO.lst []]) ++ [trl CR j (.lst L) (tabD CT t)]
        | _ => ∃ gl, ρ' = [some (.ref j), some (.tup [actD a]), some (.lst (L ++ [.tup [actD a, moD CM m']])), some (.ref s.length), some (.int 0), some (actD a), some .non, some (moD CM m), some (moD CM m')] ∧ s' = (s.set j (cyc C wd n fs (tabD CT t) (L ++ [.tup [actD a, moD CM m']])) ++ [.lst [natsD gl]]) ++ [trl CR j (.lst L) (tabD CT t)], ⟨rfl, rfl⟩, ?_, ?_⟩)))
      · intro i x ρ' s' hi hI
        have hi0 : i = 0 := by
          have := (List.getElem?_eq_some_iff.mp hi).1
          have h2 : i < 1 := this
          omega
        subst hi0
        cases hi
        obtain ⟨rfl, rfl⟩ := hI
        refine ⟨trivial, gm_tup (n := 2) (gms_cons (gm_name 4 nd (gms_cons (gm_name 5 nd (gms_nil ?_))))) rfl⟩
        have cAt : CycAt C CM ((s ++ [MO.lst []]) ++ [trl CR j (.lst L) (tabD CT t)]) j wd n fs (tabD CT t) m := ⟨l, x0, by rw [hL]; exact S0j [], by omega⟩
        refine sms_cons (sm_set 6 nd (em_meth MW hr (em_v0 ⟨_, _, .ref (S0j []), by decide +kernel, am_cons (em_v5 (am_nil ⟨j, wd, n, fs, t, m, a, rfl, cAt, g, ok, ?_⟩))⟩)))
        refine sms_cons (sm_if (tm_cmp (em_v6 (em_non (v2_notN (asB (bif_FF (sms_nil ?_))))))))
        refine sms_cons (sm_set 7 nd (em_meth0 MN (hr.mono (by decide)) (em_v0 ⟨_, _, .ref (S0j []), by decide +kernel, j, wd, n, fs, tabD CT t, m, rfl, cAt, ?_⟩)))
        refine sms_cons (sm_set 8 nd (em_meth MA (hr.mono (by decide)) (em_v0 ⟨_, _, .ref (S0j []), by decide +kernel, am_cons (em_v5 (am_cons (em_v7 (am_nil ⟨j, wd, n, fs, t, m, a, rfl, cAt, g, ok, so, ?_⟩))))⟩)))
        rw [hm']
        refine sms_cons (sm_expr (em_append (em_v3 ⟨s.length, rfl, ⟨[], get_0' _ _ rfl⟩, em_call GG (hr.mono (by decide)) (am_cons (em_v7 (am_cons (em_v8 (am_nil ⟨m, m', rfl, by rw [← hm']; exact step_len t wd m a, hp, fun gl => ⟨[], get_0' _ _ rfl, Nat.zero_le _, ?_⟩⟩)))))⟩)))
        rw [set_0' _ _ _ rfl]
        refine sms_cons (sm_set 2 nd (em_bin (em_v2 (em_lst (am_cons (em_tup (am_cons (em_v5 (am_cons (em_v8 (am_nil ⟨Nat.le_of_ble_eq_true rfl, am_nil ⟨Nat.le_of_ble_eq_true rfl, v2_addL (.lst _) (.lst _) (by show L.length + 1 ≤ 1000; omega) ?_⟩⟩)))))))))))
        refine sms_cons (sm_setF (em_v2 (em_v0 ⟨j, C, ksC, _, rfl, S0j _, CC.cl, CC.n5, by decide, .inl ⟨4, by decide +kernel, sms_nil ⟨gl, rfl, set_l' _ _ _ hj⟩⟩⟩)))
      · rintro ρ' s' ⟨gl, rfl, rfl⟩
        refine ⟨trivial, sms_nil ⟨_, j, wd, n, fs, tabD CT t, tabD CT t, _, L, rfl, S0i _ _ lc, get_l' _ _ (set_get hj), hne, gl, rfl, ?_⟩⟩
        rw [set_l' _ _ _ (set_get hj), List.set_set]
    · rintro ρ' s' ⟨gl, rfl, rfl⟩
      refine sms_cons (sm_setF (em_v2 (em_v0 ⟨j, C, ksC, _, rfl, get_l' _ _ (set_get hj), CC.cl, CC.n5, by decide, .inl ⟨4, by decide +kernel, ?_⟩⟩)))
      rw [set_l' _ _ _ (set_get hj), List.set_set]
      refine sms_cons (sm_ret (em_callTy (T := "tuple") T.tuple (am_cons (em_v3 (am_nil (vc_tupL (.ref (get_0' _ _ lc)) ?_))))))
      refine ⟨s.set j (cyc C wd n fs (tabD CT t) (L ++ [.tup [actD a, moD CM m']])), [.lst [natsD gl], trl CR j (.lst L) (tabD CT t)], List.append_assoc _ _ _, lc, ⟨bd_nats _ _, trivial⟩, fun hb mm hmm => ?_, k gl L (actD a) (by omega)⟩
      rcases List.mem_or_eq_of_mem_set hmm with h | h
      · exact hb mm h
      · subst h
        have hc := hb _ (List.mem_of_getElem? hj)
        obtain ⟨c1, c2, c3, c4, c5, _⟩ := hc
        exact ⟨c1, c2, c3, c4, bdL_app c5 ⟨⟨bd_act _ _, bd_mo _ _ _, trivial⟩, trivial⟩, trivial⟩
end Sg
end T_P19

section T_Q1
set_option autoImplicit true
set_option maxRecDepth 100000
set_option maxHeartbeats 4000000
namespace Sg
open PySem L2 Mp
variable {P : Program} {w : World} {K : PySem.W.Frag} {mg : Str → Option Value} {base : Heap}
abbrev lPen : Stmt := top 77
abbrev lDraw : Stmt := top 78
/-- a well-formed pen, at most N read -/
def PenM (m : MO) (N : Nat) : Prop := ∃ (ns : List Int) (a : Nat) (l : Int), m = .lst [.lst (ns.map .int), .int a, .int l] ∧ ns.length ≤ 63 ∧ a ≤ N ∧ 0 ≤ l
theorem PenM.mono {m : MO} {N N' : Nat} (h : PenM m N) (hN : N ≤ N') : PenM m N' := by
  obtain ⟨ns, a, l, e, h1, h2, h3⟩ := h
  exact ⟨ns, a, l, e, h1, Nat.le_trans h2 hN, h3⟩
def PenAt (s : Sto) (j N : Nat) : Prop := ∃ m, s[j]? = some m ∧ PenM m N
theorem cut_map (ns : List Int) (lo hi : Option Int) : ∃ ms : List Int, cutD (ns.map Mp.D.int) lo hi = ms.map Mp.D.int ∧ ms.length ≤ (cutD (ns.map Mp.D.int) lo hi).length := by
  unfold cutD
  rw [← List.map_drop, ← List.map_take]
  exact ⟨_, rfl, Nat.le_of_eq (List.length_map _).symm⟩
theorem cut_len (ds : List Mp.D) (n : Nat) : (cutD ds none (some (n : Int))).length ≤ n := by
  unfold cutD
  rw [List.length_take, HT.sIx_none, HT.sIx_nat]
  omega
theorem g_pen (T : Tx K mg) (Df : DefG K mg "_law_pen" lPen) : GFn P w K mg base "_law_pen" 1 fun ds s Φ => ∃ ns : List Int, ds = [.fro (ns.map .int)] ∧ ∀ m, PenM m 0 → Φ (.ref s.length) (s ++ [m]) := by
  refine mkG (N := ["_law_script"]) (ps := ["_law_script"]) Df ⟨rfl, rfl, rfl, by decide +kernel, rfl, by decide +kernel, by decide +kernel⟩ (fun _ _ _ _ _ _ us hl => match us, hl with | [_], _ => rfl) (fun ds s Φ h => ?_) fun fa cdv A outer sh H E hr ds s Φ h => ?_
  · obtain ⟨_, rfl, _⟩ := h
    rfl
  · obtain ⟨ns, rfl, k⟩ := h
    obtain ⟨ms, e, hl⟩ := cut_map ns none (some 63)
    refine sms_cons (sm_ret (em_lstC (am_cons (em_callTy (T := "list") T.list (am_cons (em_slice (em_v0 (om_none (om_some (em_int ⟨_, rfl, vsl_fro (am_nil (vc_list (.lst (.lst _)) (am_cons (em_int (am_cons (em_int (am_nil ⟨Nat.le_of_ble_eq_true rfl, k _ ⟨ms, 0, 0, by rw [e]; rfl, ?_, Nat.le_refl _, by decide⟩⟩)))))))⟩))))))))))
    exact Nat.le_trans hl (cut_len _ 63)
theorem toPs_ints : ∀ l : List Int, toPs (l.map Mp.D.int) = some (l.map PyData.int)
  | [] => rfl
  | a :: l => by
    show (match toP (Mp.D.int a), toPs (l.map Mp.D.int) with | some p, some ps => some (p :: ps) | _, _ => none) = _
    rw [toPs_ints l]
    rfl
theorem toP_lst (l : List Int) : toP (.lst (l.map Mp.D.int)) = some (.list (l.map PyData.int)) := by
  show (toPs (l.map Mp.D.int)).map PyData.list = _
  rw [toPs_ints]
  rfl
theorem shaped_ints (l : List Int) : SeqAt.shaped (.list (l.map PyData.int)) = true := by
  show (PyData.canLayAll0 _ && decide (PyData.depthAll _ + 1 ≤ 64)) = true
  rw [canAll_ints, depthAll_ints]
  rfl
theorem ints_at {ns : List Int} {i : Nat} (h : i < ns.length) : atI (ns.map Mp.D.int) (i : Int) = some (.int ns[i]) := atI_nat (by rw [List.getElem?_map, List.getElem?_eq_getElem h]; rfl)
def wDraw : Wt := fun ds s Φ => ∃ (j N many : Nat), ds = [.ref j, .int many] ∧ PenAt s j N ∧ N < 100000 ∧ 1 ≤ many ∧ many ≤ 1000 ∧ ∀ (d : Nat) (m : MO), d < many → PenM m (N + 1) → Φ (.int d) (s.set j m)
theorem g_draw (T : Tx K mg) (Df : DefG K mg "_law_draw" lDraw) : GFn P w K mg base "_law_draw" 1 wDraw := by
  refine mkG (N := ["_law_pen_here", "_law_many", "_law_digit", "_law_at", "_law_cell", "_law_great", "_law_mixed"]) (ps := ["_law_pen_here", "_law_many"]) Df ⟨rfl, rfl, rfl, by decide +kernel, rfl, by decide +kernel, by decide +kernel⟩ (fun _ _ _ _ _ _ us hl => match us, hl with | [_, _], _ => rfl) (fun ds s Φ h => ?_) fun fa cdv A outer sh H E hr ds s Φ h => ?_
  · obtain ⟨_, _, _, rfl, _⟩ := h
    rfl
  · obtain ⟨j, N, many, rfl, ⟨m0, hj, ns, a, l, rfl, h1, h2, h3⟩, hN, hm1, hm2, k⟩ := h
    have nd : (["_law_pen_here", "_law_many", "_law_digit", "_law_at", "_law_cell", "_law_great", "_law_mixed"] : List Str).Nodup := by decide +kernel
    have hM : (0 : Int) < many := by omega
    have cd : CDiv l many := ⟨hM, by omega⟩
    have fin : ∀ (v : Int) (m : MO), PenM m (N + 1) → Φ (.int (v % many)) (s.set j m) := fun v m hp => by
      have p1 := Int.emod_nonneg v (show (many : Int) ≠ 0 by omega)
      have p2 := Int.emod_lt_of_pos v hM
      have e : v % many = ((v % many).toNat : Nat) := by omega
      rw [e]
      exact k _ m (by omega) hp
    have a0 : ∀ {x y z : Mp.D}, atI [x, y, z] 0 = some x := fun {x y z} => rfl
    have a1 : ∀ {x y z : Mp.D}, atI [x, y, z] 1 = some y := fun {x y z} => rfl
    have a2 : ∀ {x y z : Mp.D}, atI [x, y, z] 2 = some z := fun {x y z} => rfl
    refine sms_cons (sm_if (tm_cmp (em_ix (em_v0 (em_int (vi_ref hj a2 (em_int (v2_gt (asB ?_)))))))))
    refine bif_d (fun hpos => ?_) fun hpos => sms_nil ?_
    · refine sms_cons (sm_set 2 nd (em_bin (em_ix (em_v0 (em_int (vi_ref hj a2 (em_v1 (v2_modI hM ?_))))))))
      refine sms_cons (sm_setL (em_bin (em_ix (em_v0 (em_int (vi_ref hj a2 (em_v1 (v2_fdivI cd (em_v0 (em_int ⟨j, _, 2, 2, rfl, hj, rfl, rfl, ?_⟩))))))))))
      exact sms_cons (sm_ret (em_v2 (fin l _ ⟨ns, a, l / many, rfl, h1, by omega, Int.ediv_nonneg h3 (by omega)⟩)))
    · refine sms_cons (sm_set 3 nd (em_ix (em_v0 (em_int (vi_ref hj a1 ?_)))))
      refine sms_cons (sm_setL (em_bin (em_v3 (em_int (v2_addI (em_v0 (em_int ⟨j, _, 1, 1, rfl, hj, rfl, rfl, ?_⟩)))))))
      have hj1 : (s.set j (.lst ([Mp.D.lst (ns.map .int), .int a, .int l].set 1 (.int ((a : Int) + 1)))))[j]? = some (.lst [.lst (ns.map .int), .int ((a : Int) + 1), .int l]) := set_get hj
      generalize hs1 : s.set j (.lst ([Mp.D.lst (ns.map .int), .int a, .int l].set 1 (.int ((a : Int) + 1)))) = s1 at hj1
      have hset : ∀ m, s1.set j m = s.set j m := fun m => by rw [← hs1, List.set_set]
      have pn : PenM (.lst [.lst (ns.map .int), .int ((a : Int) + 1), .int l]) (N + 1) := ⟨ns, a + 1, l, rfl, h1, by omega, h3⟩
      have e1 : s1 = s.set j (.lst [.lst (ns.map .int), .int ((a : Int) + 1), .int l]) := hs1.symm
      refine sms_cons (sm_set 4 nd (em_bin (em_bin (em_int (em_v3 (v2_mulI (.inl (by decide)) (em_int (v2_addI ?_))))))))
      refine sms_cut (fun ρ' s' => s' = s1 ∧ ∃ cell : Int, ρ' = [some (.ref j), some (.int many), none, some (.int a), some (.int cell), none, none]) (sm_if (tm_cmp (em_ix (em_v0 (em_int (vi_ref hj1 a0 (em_lst (am_nil ⟨Nat.le_of_ble_eq_true rfl, v2_neP (k := decide (ns = [])) (room64 hr) (toP_lst ns) rfl (shaped_ints ns) rfl ?_ (asB ?_)⟩)))))))) ?_
      · cases ns <;> rfl
      · refine bif_nd (fun hne => ?_) fun _ => sms_nil ⟨rfl, _, rfl⟩
        have hpos : 0 < ns.length := List.length_pos_iff.mpr hne
        have hmod : ((a : Int) % ((ns.length : Nat) : Int)) = ((a % ns.length : Nat) : Int) := (Int.natCast_emod a ns.length).symm
        have hlt : a % ns.length < ns.length := Nat.mod_lt _ hpos
        refine sms_cons (sm_set 4 nd (em_ix (em_ix (em_v0 (em_int (vi_ref hj1 a0 (em_bin (em_v3 (em_callB (id := "len") T.len (am_cons (em_ix (em_v0 (em_int (vi_ref hj1 a0 (am_nil (vc_lenL (.lst _) (v2_modI (by rw [List.length_map]; omega) ?_)))))))))))))))))
        rw [List.length_map, hmod]
        exact vi_lst (ints_at hlt) (sms_nil ⟨rfl, _, rfl⟩)
      rintro ρ' s' ⟨rfl, cell, rfl⟩
      have tail : SMs (cxOf CX0 P w K mg base ["_law_pen_here", "_law_many", "_law_digit", "_law_at", "_law_cell", "_law_great", "_law_mixed"] "_law_draw" (defScope lDraw) fa cdv A outer sh H E).nox [some (.ref j), some (.int many), none, some (.int a), some (.int cell), none, none] s' ((defBody lDraw).drop 6) { nx := fun _ s' => Φ .non s', rt := Φ } := by
        have c0 := Int.emod_nonneg cell (show (2147483549 : Int) ≠ 0 by decide)
        have c1 := Int.emod_lt_of_pos cell (show (0 : Int) < 2147483549 by decide)
        refine sms_cons (sm_set 6 nd (em_bin (em_bin (em_bin (em_bin (em_bin (em_v4 (em_int (v2_modI (by decide) (em_bin (em_int (em_v3 (v2_mulI (.inl (by decide)) (v2_addI (em_int (v2_addI (em_int (v2_powI ⟨by decide, by decide, ?_⟩ (em_int (v2_modI (by decide) ?_))))))))))))))))))))
        · have : (0 : Int) ≤ cell % 2147483549 + 7297 * a + 107 := by omega
          have h2' : cell % 2147483549 + 7297 * (a : Int) + 107 < 2 ^ 64 := by omega
          omega
        generalize hmx : (cell % 2147483549 + 7297 * (a : Int) + 107) ^ (5 : Int).toNat % 2147483647 = mx
        have m0 : 0 ≤ mx := by rw [← hmx]; exact Int.emod_nonneg _ (by decide)
        have m1 : mx < 2147483647 := by rw [← hmx]; exact Int.emod_lt_of_pos _ (by decide)
        have ha : (a : Int) ≤ 100000 := by omega
        have ha0 : (0 : Int) ≤ a := by omega
        have q1 : (60029 * (a : Int)) * a ≤ 60029 * 100000 * 100000 := by
          have : (60029 * (a : Int)) * a ≤ (60029 * 100000) * 100000 := Int.mul_le_mul (by omega) ha ha0 (by decide)
          exact this
        have q0 : (0 : Int) ≤ (60029 * (a : Int)) * a := Int.mul_nonneg (by omega) ha0
        have q2 : mx * (2 * (a : Int) + 31) ≤ 2147483647 * 200031 := Int.mul_le_mul (by omega) (by omega) (by omega) (by decide)
        have q3 : (0 : Int) ≤ mx * (2 * (a : Int) + 31) := Int.mul_nonneg m0 (by omega)
        refine sms_cons (sm_set 6 nd (em_bin (em_bin (em_bin (em_bin (em_bin (em_v6 (em_bin (em_bin (em_int (em_v3 (v2_mulI (.inl (by decide)) (em_int (v2_addI (v2_mulI (.inl ⟨by omega, by omega⟩) (em_bin (em_bin (em_int (em_v3 (v2_mulI (.inl (by decide)) (em_v3 (v2_mulI (.inr ⟨by omega, by omega⟩) (v2_addI (em_int (v2_addI (em_int (v2_powI ⟨by decide, by decide, ?_⟩ (em_int (v2_modI (by decide) ?_)))))))))))))))))))))))))))))
        · omega
        refine sms_cons (sm_ret (em_bin (em_bin (em_v6 (em_int (v2_fdivI ⟨by decide, by decide⟩ (em_v1 (v2_modI hM ?_))))))))
        rw [e1]
        exact fin _ _ pn
      refine sms_cons (sm_if (tm_w (wm_and (tm_cmp (em_v3 (em_callB (id := "len") T.len (am_cons (em_ix (em_v0 (em_int (vi_ref hj1 a0 (am_nil (vc_lenL (.lst _) (v2_lt (asB ?_)))))))))))))))
      refine bif_d (fun _ => wm_and1 (tm_cmp (em_callB (id := "abs") T.abs (am_cons (em_v4 (am_nil (vc_abs (em_bin (em_int (em_int (v2_powI ⟨by decide, by decide, by decide⟩ (v2_ge (asB (bif_d (fun hbig => ?_) fun _ => sms_nil tail)))))))))))))) fun _ => bif_f (sms_nil tail)
      refine sms_cons (sm_set 5 nd (em_bin (em_bin (em_int (em_callB (id := "abs") T.abs (am_cons (em_v4 (am_nil (vc_abs (v2_mulI (.inl (by decide)) (em_callTy (T := "int") T.int (am_cons (em_cmp (em_v4 (em_int (v2_lt (am_nil (vc_intB (v2_addI ?_)))))))))))))))))))
      have hg : 0 ≤ 2 * (if cell < 0 then -cell else cell) + (if decide (cell < 0) = true then (1 : Int) else 0) := by
        split <;> split <;> omega
      generalize 2 * (if cell < 0 then -cell else cell) + (if decide (cell < 0) = true then (1 : Int) else 0) = gr at hg ⊢
      refine sms_cons (sm_setL (em_bin (em_v5 (em_v1 (v2_fdivI ⟨hM, by omega⟩ (em_v0 (em_int ⟨j, _, 2, 2, rfl, hj1, rfl, rfl, ?_⟩)))))))
      rw [hset]
      exact sms_cons (sm_ret (em_bin (em_v5 (em_v1 (v2_modI hM (fin gr _ ⟨ns, a + 1, gr / many, rfl, h1, by omega, Int.ediv_nonneg hg (by omega)⟩))))))
end Sg
end T_Q1

section T_Q2
set_option autoImplicit true
set_option maxRecDepth 100000
set_option maxHeartbeats 4000000
namespace Sg
open PySem L2 Mp
variable {P : Program} {w : World} {K : PySem.W.Frag} {mg : Str → Option Value} {base : Heap}
abbrev lRule : Stmt := top 79
abbrev lBook : Stmt := top 80
/-- the store but for the pen -/
def PenS (s0 : Sto) (j : Nat) (s : Sto) (N : Nat) : Prop := ∃ m, s = s0.set j m ∧ PenM m N
theorem PenS.at_ {s0 s : Sto} {j N : Nat} (h : PenS s0 j s N) (hj : j < s0.length) : PenAt s j N := by
  obtain ⟨m, rfl, hm⟩ := h
  exact ⟨m, by rw [List.getElem?_set, if_pos rfl, if_pos hj], hm⟩
theorem PenS.len {s0 s : Sto} {j N : Nat} (h : PenS s0 j s N) : s.length = s0.length := by
  obtain ⟨m, rfl, _⟩ := h
  exact List.length_set
theorem PenS.next {s0 s : Sto} {j N N' : Nat} {m : MO} (h : PenS s0 j s N) (hm : PenM m N') : PenS s0 j (s.set j m) N' := by
  obtain ⟨m', rfl, _⟩ := h
  exact ⟨m, List.set_set .., hm⟩
theorem PenAt.s {s : Sto} {j N : Nat} (h : PenAt s j N) : PenS s j s N := by
  obtain ⟨m, hm, p⟩ := h
  refine ⟨m, ?_, p⟩
  obtain ⟨hl, e⟩ := List.getElem?_eq_some_iff.mp hm
  rw [← e]
  exact (List.set_getElem_self hl).symm
theorem PenAt.lt {s : Sto} {j N : Nat} (h : PenAt s j N) : j < s.length := by
  obtain ⟨m, hm, p⟩ := h
  exact get_lt hm
theorem PenAt.app {s g : Sto} {j N : Nat} (h : PenAt s j N) : PenAt (s ++ g) j N := by
  obtain ⟨m, hm, p⟩ := h
  exact ⟨m, get_app_l hm, p⟩
theorem PenS.mono {s0 s : Sto} {j N N' : Nat} (h : PenS s0 j s N) (hN : N ≤ N') : PenS s0 j s N' := by
  obtain ⟨m, e, p⟩ := h
  exact ⟨m, e, p.mono hN⟩
theorem PenM.bd {m : MO} {N n : Nat} (h : PenM m N) : BdM n m := by
  obtain ⟨ns, a, l, rfl, _⟩ := h
  exact ⟨bdL_of fun d hd => by
    obtain ⟨i, _, rfl⟩ := List.mem_map.mp hd
    trivial, trivial, trivial, trivial⟩
theorem PenS.bd {s0 s : Sto} {j N n : Nat} (h : PenS s0 j s N) (hb : ∀ m ∈ s0, BdM n m) : ∀ m ∈ s, BdM n m := by
  obtain ⟨m', rfl, p⟩ := h
  intro m hm
  rcases List.mem_or_eq_of_mem_set hm with e | e
  · exact hb m e
  · rw [e]; exact p.bd
theorem set_app_lt {s g : Sto} {j : Nat} {m : MO} (h : j < s.length) : (s ++ g).set j m = s.set j m ++ g := List.set_append_left _ _ h
theorem pick {ds : List Mp.D} {d : Nat} (h : d < ds.length) : atI ds (d : Int) = some ds[d] := atI_nat (List.getElem?_eq_getElem h)
abbrev GDraw (P : Program) (w : World) (K : PySem.W.Frag) (mg : Str → Option Value) (base : Heap) : Prop := GFn P w K mg base "_law_draw" 1 wDraw
def ruleD (l : List Ent) (c : Col) (b : Bool) : Mp.D := .tup [entsD l, colD c, .str (rootsS b)]
def srtOf : Nat → Srt
  | 0 => .load | 1 => .old | 2 => .new | _ => .source
def colOf : Nat → Col
  | 0 => .w | 1 => .g | _ => .b
theorem g_rule (T : Tx K mg) (GD : GDraw P w K mg base) (Df : DefG K mg "_law_rule" lRule) : GFn P w K mg base "_law_rule" 2 fun ds s Φ => ∃ j N, ds = [.ref j] ∧ PenAt s j N ∧ N < 90000 ∧ ∀ (l : List Ent) (c : Col) (b : Bool) (s' : Sto), l.length ≤ 12 → PenS s j s' (N + 20) → Φ (ruleD l c b) s' := by
  refine mkG (N := ["_law_pen_here", "_law_share", "_law_found", "_law_sort", "_law_color"]) (ps := ["_law_pen_here"]) Df ⟨rfl, rfl, rfl, by decide +kernel, rfl, by decide +kernel, by decide +kernel⟩ (fun _ _ _ _ _ _ us hl => match us, hl with | [_], _ => rfl) (fun ds s Φ h => ?_) fun fa cdv A outer sh H E hr ds s Φ h => ?_
  · obtain ⟨_, _, rfl, _⟩ := h
    rfl
  · obtain ⟨j, N, rfl, hp, hN, k⟩ := h
    have nd : (["_law_pen_here", "_law_share", "_law_found", "_law_sort", "_law_color"] : List Str).Nodup := by decide +kernel
    have hj := hp.lt
    refine sms_cut (fun ρ' s' => PenS s j s' (N + 1) ∧ ∃ sh : Int, ρ' = [some (.ref j), some (.int sh), none, none, none]) (sm_set 1 nd (em_ix (em_lst (am_cons (em_int (am_cons (em_int (am_cons (em_int (am_nil ⟨Nat.le_of_ble_eq_true rfl, em_call GD hr (am_cons (em_v0 (am_cons (em_int (am_nil ⟨j, N, 3, rfl, hp, by omega, by decide, by decide, fun d m hd hm => ?_⟩)))))⟩)))))))))) ?_
    · have hd' : d < ([Mp.D.int 1, .int 2, .int 4] : List Mp.D).length := hd
      refine vi_lst (pick hd') ⟨hp.s.next hm, ?_⟩
      match d, hd with
      | 0, _ => exact ⟨1, rfl⟩
      | 1, _ => exact ⟨2, rfl⟩
      | 2, _ => exact ⟨4, rfl⟩
    rintro ρ' s1 ⟨p1, shr, rfl⟩
    refine sms_cons (sm_set 2 nd (em_lst (am_nil ⟨Nat.le_of_ble_eq_true rfl, ?_⟩)))
    refine sms_cut (fun ρ' s' => PenS s j s' (N + 13) ∧ ∃ (l : List Ent) (a b : Option Mp.D), l.length ≤ 12 ∧ ρ' = [some (.ref j), some (.int shr), some (.lst (l.map entD)), a, b]) (sm_for (im_tup (em_tup (am_cons (em_str (am_cons (em_str (am_cons (em_str (am_cons (em_str (am_nil ⟨Nat.le_of_ble_eq_true rfl, [.str "load", .str "old", .str "new", .str "source"], rfl, fun i ρ' s' => PenS s j s' (N + 1 + 3 * i) ∧ ∃ (l : List Ent) (a b : Option Mp.D), l.length ≤ 3 * i ∧ ρ' = [some (.ref j), some (.int shr), some (.lst (l.map entD)), a, b], ⟨p1, [], none, none, Nat.le_refl _, rfl⟩, ?_, ?_⟩)))))))))))) ?_
    · rintro i x ρ' s' hi ⟨ps, l, a, b, hl, rfl⟩
      refine ⟨trivial, gm_name 3 nd ?_⟩
      have hi4 : i < 4 := get_lt hi
      have hx : x = .str (srtOf i).s := by
        match i, hi4, hi with
        | 0, _, h => cases h; rfl
        | 1, _, h => cases h; rfl
        | 2, _, h => cases h; rfl
        | 3, _, h => cases h; rfl
      subst hx
      have jl : j < s'.length := by rw [ps.len]; exact hj
      refine sms_cons (sm_set 2 nd (em_bin (em_v2 (em_lc (own := [("_law_color", 4)]) (.one 4) nd (blk_ok rfl) (by decide) (tg_one 4 nd) (im_tup (em_tup (am_cons (em_str (am_cons (em_str (am_cons (em_str (am_nil ⟨Nat.le_of_ble_eq_true rfl, [.str "white", .str "grey", .str "black"], rfl, fun k acc s2 => PenS s j s2 (N + 1 + 3 * i + k) ∧ ∃ l2 : List Ent, l2.length ≤ k ∧ acc = l2.map entD, ⟨ps, [], Nat.le_refl _, rfl⟩, ?_, ?_⟩)))))))))))))
      · rintro q x acc s2 hq ⟨p2, l2, hl2, rfl⟩
        have hq3 : q < 3 := get_lt hq
        have hx : x = colD (colOf q) := by
          match q, hq3, hq with
          | 0, _, h => cases h; rfl
          | 1, _, h => cases h; rfl
          | 2, _, h => cases h; rfl
        subst hx
        have l2l : s2.length = s'.length := by rw [p2.len, ps.len]
        have j2 : j < s2.length := by rw [l2l]; exact jl
        refine ⟨l2l, trivial, _, rfl, fun sh' H' C' cl fp => ?_⟩
        refine tm_cmp (em_call GD hr (am_cons (em_v0 (am_cons (em_int (am_nil ⟨j, N + 1 + 3 * i + q, 5, rfl, (p2.at_ hj).app, by omega, by decide, by decide, fun d m hd hm => em_v1 (v2_lt (asB ⟨fun _ => ?_, fun _ => ?_⟩))⟩))))))
        · rw [set_app_lt j2]
          refine fun sh2 H2 C2 cl2 fp2 => em_tup (am_cons (em_v3 (am_cons (em_v4 (am_nil ⟨Nat.le_of_ble_eq_true rfl, s2.set j m, rfl, by rw [List.length_set]; exact l2l, by rw [List.length_map]; omega, p2.next hm, l2 ++ [(srtOf i, colOf q)], ?_, ?_⟩)))))
          · rw [List.length_append]; exact Nat.succ_le_succ hl2
          · rw [List.map_append]; rfl
        · rw [set_app_lt j2]
          exact ⟨s2.set j m, rfl, by rw [List.length_set]; exact l2l, p2.next hm, l2, Nat.le_succ_of_le hl2, rfl⟩
      · rintro acc s2 ⟨p2, l2, hl2, rfl⟩
        have hl2' : l2.length ≤ 3 := hl2
        refine ⟨by rw [p2.len, ps.len], trivial, fun hb => ?_, bdL_of fun d hd => ?_, ?_⟩
        · obtain ⟨m2, rfl, q2⟩ := p2
          obtain ⟨m1, rfl, q1⟩ := ps
          intro m hm
          have hm : m ∈ (s.set j m1).set j m2 := by rw [List.set_set]; exact hm
          rcases List.mem_or_eq_of_mem_set hm with e | e
          · exact hb m e
          · rw [e]; exact q2.bd
        · obtain ⟨e, _, rfl⟩ := List.mem_map.mp hd
          exact ⟨trivial, trivial, trivial⟩
        · refine v2_addL (.lst _) (.lst _) (by rw [List.length_map, List.length_map]; omega) ?_
          rw [← List.map_append]
          refine sms_nil ⟨p2.mono (by show N + 1 + 3 * i + 3 ≤ _; omega), l ++ l2, _, _, by rw [List.length_append]; omega, rfl⟩
    · rintro ρ' s' ⟨ps, l, a, b, hl, rfl⟩
      exact ⟨trivial, ps, l, a, b, hl, rfl⟩
    · rintro ρ' s2 ⟨p2, l, a, b, hl, rfl⟩
      have jl : j < s2.length := by rw [p2.len]; exact hj
      refine sms_cons (sm_ret (em_tup (am_cons (em_callTy (T := "tuple") T.tuple (am_cons (em_v2 (am_nil (vc_tupL (.lst _) (am_cons (em_ix (em_lst (am_cons (em_str (am_cons (em_str (am_cons (em_str (am_nil ⟨Nat.le_of_ble_eq_true rfl, em_call GD hr (am_cons (em_v0 (am_cons (em_int (am_nil ⟨j, N + 13, 3, rfl, p2.at_ hj, by omega, by decide, by decide, fun d m hd hm => ?_⟩)))))⟩))))))))))))))))))
      have hd' : d < ([Mp.D.str "white", .str "grey", .str "black"] : List Mp.D).length := hd
      have p3 : PenS s j (s2.set j m) (N + 14) := p2.next hm
      refine vi_lst (pick hd') (am_cons (em_ix (em_lst (am_cons (em_str (am_cons (em_str (am_nil ⟨Nat.le_of_ble_eq_true rfl, em_call GD hr (am_cons (em_v0 (am_cons (em_int (am_nil ⟨j, N + 14, 2, rfl, p3.at_ hj, by omega, by decide, by decide, fun d2 m2 hd2 hm2 => ?_⟩)))))⟩))))))))
      have hd2' : d2 < ([Mp.D.str "once", .str "again"] : List Mp.D).length := hd2
      refine vi_lst (pick hd2') (am_nil ⟨Nat.le_of_ble_eq_true rfl, ?_⟩)
      have e1 : ([Mp.D.str "white", .str "grey", .str "black"] : List Mp.D)[d] = colD (colOf d) := by
        match d, hd with
        | 0, _ => rfl
        | 1, _ => rfl
        | 2, _ => rfl
      have e2 : ([Mp.D.str "once", .str "again"] : List Mp.D)[d2] = .str (rootsS (decide (d2 = 1))) := by
        match d2, hd2 with
        | 0, _ => rfl
        | 1, _ => rfl
      rw [e1, e2]
      exact k l _ _ _ hl ((p3.next hm2).mono (by omega))
end Sg
end T_Q2

section T_Q3
set_option autoImplicit true
set_option maxRecDepth 100000
set_option maxHeartbeats 4000000
namespace Sg
open PySem L2 Mp
variable {P : Program} {w : World} {K : PySem.W.Frag} {mg : Str → Option Value} {base : Heap}
theorem mem_listed {e : Ent} {l : List Ent} : e ∈ listedOf l ↔ e ∈ l := by
  unfold listedOf
  rw [List.mem_filter]
  exact ⟨fun h => of_decide_eq_true h.2, fun h => ⟨mem_allEnts e, decide_eq_true h⟩⟩
theorem listed_congr {l m : List Ent} (h : ∀ e, e ∈ l ↔ e ∈ m) : listedOf l = listedOf m := by
  unfold listedOf
  congr 1
  funext e
  exact decide_eq_decide.mpr (h e)
theorem g_book {C : Addr} (CT : GCon K mg "Table" (.adr C)) (TC : TabC K C) (I : MkCK P w K mg base "Table" C ["fresh", "roots"] 4 (wTinit C)) (CE : CFnK P w K mg base C "empty" ["fresh", "roots"] 6 (wTempty C)) (MO : MFnK P w K mg base C "__or__" [] 7 (wTor C)) (Df : DefG K mg "_law_book" lBook) :
    GFn P w K mg base "_law_book" 8 fun ds s Φ => ∃ l c b, ds = [ruleD l c b] ∧ l.length ≤ 12 ∧ Φ (tabV C (listedOf l) c b) s := by
  refine mkG (N := ["_law_rule_here", "_law_made_here", "_law_entry"]) (ps := ["_law_rule_here"]) Df ⟨rfl, rfl, rfl, by decide +kernel, rfl, by decide +kernel, by decide +kernel⟩ (fun _ _ _ _ _ _ us hl => match us, hl with | [_], _ => rfl) (fun ds s Φ h => ?_) fun fa cdv A outer sh H E hr ds s Φ h => ?_
  · obtain ⟨_, _, _, rfl, _⟩ := h
    rfl
  · obtain ⟨l, c, b, rfl, hl, k⟩ := h
    have nd : (["_law_rule_here", "_law_made_here", "_law_entry"] : List Str).Nodup := by decide +kernel
    have a0 : ∀ {x y z : Mp.D}, atI [x, y, z] 0 = some x := fun {x y z} => rfl
    have a1 : ∀ {x y z : Mp.D}, atI [x, y, z] 1 = some y := fun {x y z} => rfl
    have a2 : ∀ {x y z : Mp.D}, atI [x, y, z] 2 = some z := fun {x y z} => rfl
    refine sms_cons (sm_set 1 nd (em_cmethK CE (hr.mono (by decide)) (em_glob CT ⟨rfl, km_cons (em_ix (em_v0 (em_int (vi_tup a1 (km_cons (em_ix (em_v0 (em_int (vi_tup a2 (km_nil ⟨rfl, c, b, rfl, rfl, ?_⟩))))))))))⟩)))
    refine sms_cut (fun ρ' s' => s' = s ∧ ∃ a, ρ' = [some (ruleD l c b), some (tabV C (listedOf l) c b), a]) (sm_for (im_tup (em_ix (em_v0 (em_int (vi_tup a0 ⟨_, rfl, fun i ρ' s' => s' = s ∧ ∃ a, ρ' = [some (ruleD l c b), some (tabV C (listedOf (l.take i)) c b), a], ⟨rfl, none, rfl⟩, ?_, ?_⟩)))))) ?_
    · rintro i x ρ' s' hi ⟨rfl, a, rfl⟩
      rw [List.getElem?_map, Option.map_eq_some_iff] at hi
      obtain ⟨e, he, rfl⟩ := hi
      refine ⟨trivial, gm_name 2 nd ?_⟩
      refine sms_cons (sm_set 1 nd (em_bin (em_v1 (em_makeK (.inr rfl) I (hr.mono (by decide)) (am_cons (em_v2 (am_nil (km_cons (em_ix (em_v0 (em_int (vi_tup a1 (km_cons (em_ix (em_v0 (em_int (vi_tup a2 (km_nil ⟨rfl, mkF_tab (l := [e]) (Nat.le_of_ble_eq_true rfl) (v2_own MO TC.self hr (.ins _ _ _) (.ins _ _ _) ⟨_, _, c, b, rfl, rfl, ?_, ?_⟩)⟩))))))))))))))))))
      · have h1 : (listedOf (l.take i)).length ≤ 12 := List.length_filter_le _ _
        have h2 : (listedOf [e]).length ≤ 12 := List.length_filter_le _ _
        omega
      · refine sms_nil ⟨rfl, some (entD e), ?_⟩
        rw [show listedOf (listedOf (listedOf (l.take i) ++ listedOf [e])) = listedOf (l.take (i + 1)) from listed_congr fun z => by
          rw [mem_listed, List.mem_append, mem_listed, mem_listed, List.take_add_one, he, List.mem_append]
          rfl]
        rfl
    · rintro ρ' s' ⟨rfl, a, rfl⟩
      refine ⟨trivial, rfl, a, ?_⟩
      rw [List.length_map, List.take_length]
    · rintro ρ' s' ⟨rfl, a, rfl⟩
      exact sms_cons (sm_ret (em_v1 k))
end Sg
end T_Q3

section T_Q4
set_option autoImplicit true
set_option maxRecDepth 100000
set_option maxHeartbeats 4000000
namespace Sg
open PySem L2 Mp
variable {P : Program} {w : World} {K : PySem.W.Frag} {mg : Str → Option Value} {base : Heap}
abbrev lNet : Stmt := top 81
abbrev lHolders : Stmt := top 82
/-- the store but for the pen, and new cells -/
def PenG (s0 : Sto) (j : Nat) (g s : Sto) (N : Nat) : Prop := ∃ m, s = s0.set j m ++ g ∧ PenM m N
section
variable {s0 s g : Sto} {j N N' : Nat} {m c c' : MO}
theorem PenG.len (h : PenG s0 j g s N) : s.length = s0.length + g.length := by
  obtain ⟨m, rfl, _⟩ := h
  rw [List.length_append, List.length_set]
theorem PenG.at_ (h : PenG s0 j g s N) (hj : j < s0.length) : PenAt s j N := by
  obtain ⟨m, rfl, p⟩ := h
  exact ⟨m, get_app_l (by rw [List.getElem?_set, if_pos rfl, if_pos hj]), p⟩
theorem PenG.next (h : PenG s0 j g s N) (hj : j < s0.length) (hm : PenM m N') : PenG s0 j g (s.set j m) N' := by
  obtain ⟨m', rfl, _⟩ := h
  exact ⟨m, by rw [set_app_lt (by rw [List.length_set]; exact hj), List.set_set], hm⟩
theorem PenG.mono (h : PenG s0 j g s N) (hN : N ≤ N') : PenG s0 j g s N' := by
  obtain ⟨m, e, p⟩ := h
  exact ⟨m, e, p.mono hN⟩
theorem PenG.app (h : PenG s0 j g s N) : PenG s0 j (g ++ [c]) (s ++ [c]) N := by
  obtain ⟨m, rfl, p⟩ := h
  exact ⟨m, List.append_assoc .., p⟩
theorem PenG.last (h : PenG s0 j (g ++ [c]) s N) : s[s0.length + g.length]? = some c := by
  obtain ⟨m, rfl, p⟩ := h
  rw [List.getElem?_append_right (by rw [List.length_set]; omega), List.length_set, show s0.length + g.length - s0.length = g.length by omega]
  exact get_last _ _
theorem PenG.setLast (h : PenG s0 j (g ++ [c]) s N) : PenG s0 j (g ++ [c']) (s.set (s0.length + g.length) c') N := by
  obtain ⟨m, rfl, p⟩ := h
  refine ⟨m, ?_, p⟩
  rw [List.set_append_right _ _ (by rw [List.length_set]; omega), List.length_set, show s0.length + g.length - s0.length = g.length by omega, set_last]
theorem PenG.c0 (h : PenG s0 j (c :: g) s N) : s[s0.length]? = some c := by
  obtain ⟨m, rfl, p⟩ := h
  rw [List.getElem?_append_right (by rw [List.length_set]; omega), List.length_set, Nat.sub_self]
  rfl
theorem PenG.set0 (h : PenG s0 j (c :: g) s N) : PenG s0 j (c' :: g) (s.set s0.length c') N := by
  obtain ⟨m, rfl, p⟩ := h
  refine ⟨m, ?_, p⟩
  rw [List.set_append_right _ _ (by rw [List.length_set]; omega), List.length_set, Nat.sub_self]
  rfl
theorem PenAt.pg (h : PenAt s j N) : PenG s j [] s N := by
  obtain ⟨m, e, p⟩ := h.s
  exact ⟨m, by rw [List.append_nil]; exact e, p⟩
theorem PenG.toS (h : PenG s0 j [] s N) : PenS s0 j s N := by
  obtain ⟨m, e, p⟩ := h
  exact ⟨m, by rw [List.append_nil] at e; exact e, p⟩
theorem PenG.drp {Φ : Mp.D → Sto → Prop} {d : Mp.D} (h : PenG s0 j g s N) (hb : Bd s0.length d) (k : ∀ s', PenS s0 j s' N → Φ d s') : Drp s0 Φ d s := by
  obtain ⟨m, rfl, p⟩ := h
  exact ⟨s0.set j m, g, rfl, List.length_set, hb, PenS.bd ⟨m, rfl, p⟩, k _ ⟨m, rfl, p⟩⟩
end
theorem pickO {l : Row} {i : Nat} (h : i < l.length) : atI (l.map oD) (i : Int) = some (oD l[i]) := atI_nat (by rw [List.getElem?_map, List.getElem?_eq_getElem h]; rfl)
theorem five {sz kk d1 d2 : Nat} (hk : kk < sz) (h1 : d1 < sz) : ∀ o ∈ ([some ((kk + 1) % sz), if kk + 1 < sz then some (kk + 1) else none, some kk, if d2 = 1 then some d1 else none, if d2 = 1 then some d1 else none] : Row), ∀ i, o = some i → i < sz := by
  intro o ho i hi
  have hm1 : (kk + 1) % sz < sz := Nat.mod_lt _ (by omega)
  have t1 : (if kk + 1 < sz then some (kk + 1) else none) = some i → i < sz := fun h => by
    split at h
    · cases h; assumption
    · cases h
  have t2 : (if d2 = 1 then some d1 else none) = some i → i < sz := fun h => by
    split at h
    · cases h; exact h1
    · cases h
  simp only [List.mem_cons, List.not_mem_nil, or_false] at ho
  rcases ho with rfl | rfl | rfl | rfl | rfl
  · cases hi; exact hm1
  · exact t1 hi
  · cases hi; exact hk
  · exact t2 hi
  · exact t2 hi
def wNet : Wt := fun ds s Φ => ∃ j N, ds = [.ref j, .int 7] ∧ PenAt s j N ∧ N ≤ 80000 ∧ ∀ (wd : Nat) (rows : List Row) (s' : Sto), NetOk wd rows → rows.length ≤ 7 → PenS s j s' (N + 70) → Φ (heapD wd rows) s'
theorem g_net (T : Tx K mg) (GD : GDraw P w K mg base) (Df : DefG K mg "_law_net" lNet) : GFn P w K mg base "_law_net" 2 wNet := by
  refine mkGD (N := ["_law_pen_here", "_law_most", "_law_wide", "_law_size", "_law_way", "_law_rows", "_law_k", "_law_row", "_law_f", "_law_some"]) (ps := ["_law_pen_here", "_law_most"]) Df ⟨rfl, rfl, rfl, by decide +kernel, rfl, by decide +kernel, by decide +kernel⟩ (fun _ _ _ _ _ _ us hl => match us, hl with | [_, _], _ => rfl) (fun ds s Φ h => ?_) fun fa cdv A outer sh H E hr ds s Φ h => ?_
  · obtain ⟨_, _, rfl, _⟩ := h
    rfl
  · obtain ⟨j, N, rfl, hp, hN, k⟩ := h
    have nd : (["_law_pen_here", "_law_most", "_law_wide", "_law_size", "_law_way", "_law_rows", "_law_k", "_law_row", "_law_f", "_law_some"] : List Str).Nodup := by decide +kernel
    have hj := hp.lt
    refine sms_cut (fun ρ' s' => PenG s j [] s' (N + 2) ∧ ∃ wd : Nat, 1 ≤ wd ∧ wd ≤ 4 ∧ ρ' = [some (.ref j), some (.int 7), some (.int wd), none, none, none, none, none, none, none]) (sm_set 2 nd (em_ix (em_lst (am_cons (em_int (am_cons (em_int (am_cons (em_bin (em_int (em_call GD hr (am_cons (em_v0 (am_cons (em_int (am_nil ⟨j, N, 4, rfl, hp, by omega, by decide, by decide, fun d m hd hm => v2_addI (am_nil ⟨Nat.le_of_ble_eq_true rfl, em_call GD hr (am_cons (em_v0 (am_cons (em_int (am_nil ⟨j, N + 1, 3, rfl, (hp.pg.next hj hm).at_ hj, by omega, by decide, by decide, fun d2 m2 hd2 hm2 => ?_⟩)))))⟩)⟩)))))))))))))))) ?_
    · have p2 : PenG s j [] ((s.set j m).set j m2) (N + 2) := (hp.pg.next hj hm).next hj hm2
      match d2, hd2 with
      | 0, _ => exact vi_lst rfl ⟨p2, 1, by decide, by decide, rfl⟩
      | 1, _ => exact vi_lst rfl ⟨p2, 2, by decide, by decide, rfl⟩
      | 2, _ => exact vi_lst rfl ⟨p2, 1 + d, by omega, by omega, rfl⟩
    rintro ρ' s1 ⟨p1, wd, hw1, hw4, rfl⟩
    refine sms_cut (fun ρ' s' => PenG s j [] s' (N + 5) ∧ ∃ sz : Nat, sz ≤ 7 ∧ ρ' = [some (.ref j), some (.int 7), some (.int wd), some (.int sz), none, none, none, none, none, none]) (sm_set 3 nd (em_ix (em_lst (am_cons (em_bin (em_int (em_call GD hr (am_cons (em_v0 (am_cons (em_callB (id := "min") T.min (am_cons (em_int (am_cons (em_v1 (am_nil (vc_min rfl (am_nil ⟨j, N + 2, 3, rfl, p1.at_ hj, by omega, by decide, by decide, fun d m hd hm => v2_addI (am_cons (em_call GD hr (am_cons (em_v0 (am_cons (em_bin (em_v1 (em_int (v2_addI (am_nil ⟨j, N + 3, 8, rfl, (p1.next hj hm).at_ hj, by omega, by decide, by decide, fun d2 m2 hd2 hm2 => am_cons (em_v1 (am_nil ⟨Nat.le_of_ble_eq_true rfl, em_call GD hr (am_cons (em_v0 (am_cons (em_int (am_nil ⟨j, N + 4, 3, rfl, ((p1.next hj hm).next hj hm2).at_ hj, by omega, by decide, by decide, fun d3 m3 hd3 hm3 => ?_⟩)))))⟩))⟩))))))))))⟩)))))))))))))))))) ?_
    · have p2 : PenG s j [] (((s1.set j m).set j m2).set j m3) (N + 5) := ((p1.next hj hm).next hj hm2).next hj hm3
      match d3, hd3 with
      | 0, _ => exact vi_lst rfl ⟨p2, 1 + d, by omega, rfl⟩
      | 1, _ => exact vi_lst rfl ⟨p2, d2, by omega, rfl⟩
      | 2, _ => exact vi_lst rfl ⟨p2, 7, by omega, rfl⟩
    rintro ρ' s2 ⟨p2, sz, hsz, rfl⟩
    refine sms_cons (sm_set 4 nd (em_call GD hr (am_cons (em_v0 (am_cons (em_int (am_nil ⟨j, N + 5, 5, rfl, p2.at_ hj, by omega, by decide, by decide, fun way m hway hm => ?_⟩)))))))
    have p3 : PenG s j [] (s2.set j m) (N + 6) := p2.next hj hm
    refine sms_cons (sm_set 5 nd (em_lstC (am_nil ⟨Nat.le_of_ble_eq_true rfl, ?_⟩)))
    rw [p3.len]
    have p4 : PenG s j ([] ++ [.lst (([] : List Row).map rowD)]) (s2.set j m ++ [.lst []]) (N + 6) := p3.app
    refine sms_cut (fun ρ' s' => ∃ (rows : List Row) (g : Sto) (a b c d : Option Mp.D), PenG s j (.lst (rows.map rowD) :: g) s' (N + 70) ∧ rows.length = sz ∧ (∀ r ∈ rows, r.length = wd) ∧ (∀ r ∈ rows, ∀ o ∈ r, ∀ i, o = some i → i < sz) ∧ ρ' = [some (.ref j), some (.int 7), some (.int wd), some (.int sz), some (.int way), some (.ref s.length), a, b, c, d]) (sm_for (im_range T.range (em_v3 ⟨sz, rfl, by omega, fun kk ρ' s' => ∃ (rows : List Row) (g : Sto) (a b c d : Option Mp.D), PenG s j (.lst (rows.map rowD) :: g) s' (N + 6 + 8 * kk) ∧ rows.length = kk ∧ (∀ r ∈ rows, r.length = wd) ∧ (∀ r ∈ rows, ∀ o ∈ r, ∀ i, o = some i → i < sz) ∧ ρ' = [some (.ref j), some (.int 7), some (.int wd), some (.int sz), some (.int way), some (.ref s.length), a, b, c, d], ⟨[], [], none, none, none, none, p4, rfl, (fun r hr => nomatch hr), (fun r hr => nomatch hr), rfl⟩, ?_, ?_⟩))) ?_
    · rintro kk x ρ' s3 hk ⟨rows, g, a, b, c, d, pg, hl, hw, hf, rfl⟩
      have hk' : kk < sz := by
        have := get_lt hk
        rw [intsD_len] at this
        exact this
      rw [intsD_at hk'] at hk
      cases hk
      refine ⟨trivial, gm_name 6 nd ?_⟩
      refine sms_cons (sm_set 7 nd (em_lstC (am_nil ⟨Nat.le_of_ble_eq_true rfl, ?_⟩)))
      rw [pg.len]
      have pr : PenG s j ((.lst (rows.map rowD) :: g) ++ [.lst (([] : Row).map oD)]) (s3 ++ [.lst []]) (N + 6 + 8 * kk) := pg.app
      refine sms_cut (fun ρ' s' => ∃ (r : Row) (a b : Option Mp.D), PenG s j ((.lst (rows.map rowD) :: g) ++ [.lst (r.map oD)]) s' (N + 6 + 8 * kk + 8) ∧ r.length = wd ∧ (∀ o ∈ r, ∀ i, o = some i → i < sz) ∧ ρ' = [some (.ref j), some (.int 7), some (.int wd), some (.int sz), some (.int way), some (.ref s.length), some (.int kk), some (.ref (s.length + (.lst (rows.map rowD) :: g : Sto).length)), a, b]) (sm_for (im_range T.range (em_v2 ⟨wd, rfl, by omega, fun f ρ' s' => ∃ (r : Row) (a b : Option Mp.D), PenG s j ((.lst (rows.map rowD) :: g) ++ [.lst (r.map oD)]) s' (N + 6 + 8 * kk + 2 * f) ∧ r.length = f ∧ (∀ o ∈ r, ∀ i, o = some i → i < sz) ∧ ρ' = [some (.ref j), some (.int 7), some (.int wd), some (.int sz), some (.int way), some (.ref s.length), some (.int kk), some (.ref (s.length + (.lst (rows.map rowD) :: g : Sto).length)), a, b], ⟨[], c, d, pr, rfl, (fun r hr => nomatch hr), rfl⟩, ?_, ?_⟩))) ?_
      · rintro f x ρ' s4 hf' ⟨r, a', b', pf, hl', hb', rfl⟩
        have hf4 : f < wd := by
          have := get_lt hf'
          rw [intsD_len] at this
          exact this
        rw [intsD_at hf4] at hf'
        cases hf'
        refine ⟨trivial, gm_name 8 nd ?_⟩
        have e1 : ((kk : Int) + 1) % (sz : Int) = (((kk + 1) % sz : Nat) : Int) := rfl
        refine sms_cons (sm_set 9 nd (em_lst (am_cons (em_bin (em_bin (em_v6 (em_int (v2_addI (em_v3 (v2_modI (by omega) (am_cons (em_ix (em_lst (am_cons (em_bin (em_v6 (em_int (v2_addI (am_cons (em_non (am_nil ⟨Nat.le_of_ble_eq_true rfl, em_callTy (T := "int") T.int (am_cons (em_cmp (em_bin (em_v6 (em_int (v2_addI (em_v3 (v2_ge (am_nil (vc_intB (vi_lst (d := oD (if kk + 1 < sz then some (kk + 1) else none)) ?_ (am_cons (em_v6 (am_nil ⟨Nat.le_of_ble_eq_true rfl, ?_⟩))))))))))))))⟩)))))))))))))))))))))
        · by_cases h : kk + 1 < sz
          · rw [if_pos h, decide_eq_false (by omega)]
            rfl
          · rw [if_neg h, decide_eq_true (by omega)]
            rfl
        refine sms_cons (sm_expr (em_append (em_v7 ⟨_, rfl, ⟨_, pf.last⟩, em_ix (em_bin (em_v9 (em_bin (em_lst (am_cons (em_ix (em_lst (am_cons (em_non (am_cons (em_call GD hr (am_cons (em_v0 (am_cons (em_v3 (am_nil ⟨j, N + 6 + 8 * kk + 2 * f, sz, rfl, pf.at_ hj, by omega, by omega, by omega, fun d1 m1 hd1 hm1 => am_nil ⟨Nat.le_of_ble_eq_true rfl, em_call GD hr (am_cons (em_v0 (am_cons (em_int (am_nil ⟨j, N + 6 + 8 * kk + 2 * f + 1, 2, rfl, (pf.next hj hm1).at_ hj, by omega, by decide, by decide, fun d2 m2 hd2 hm2 => vi_lst (d := oD (if d2 = 1 then some d1 else none)) ?_ (am_nil ⟨Nat.le_of_ble_eq_true rfl, em_int (v2_mulL (.lst _) (by decide) (by decide) (Nat.le_of_ble_eq_true rfl) (v2_addL (.lst _) (.lst _) (Nat.le_of_ble_eq_true rfl) (em_v4 ?_)))⟩)⟩)))))⟩⟩))))))))))))))))⟩)))
        · match d2, hd2 with
          | 0, _ => rfl
          | 1, _ => rfl
        have p5 := (pf.next hj hm1).next hj hm2
        have hway5 : way < ([some ((kk + 1) % sz), if kk + 1 < sz then some (kk + 1) else none, some kk, if d2 = 1 then some d1 else none, if d2 = 1 then some d1 else none] : Row).length := hway
        refine vi_lst (pickO hway5) ⟨_, p5.last, by rw [List.length_map]; omega, sms_nil ⟨r ++ [([some ((kk + 1) % sz), if kk + 1 < sz then some (kk + 1) else none, some kk, if d2 = 1 then some d1 else none, if d2 = 1 then some d1 else none] : Row)[way]], _, _, ?_, ?_, ?_, rfl⟩⟩
        · rw [List.map_append]
          exact p5.setLast.mono (by omega)
        · rw [List.length_append, hl']
          rfl
        · intro o ho i hi
          rcases List.mem_append.mp ho with ho | ho
          · exact hb' o ho i hi
          · rw [List.mem_singleton.mp ho] at hi
            exact five hk' hd1 _ (List.getElem_mem hway5) i hi
      · rintro ρ' s4 ⟨r, a', b', pf, hl', hb', rfl⟩
        rw [intsD_len] at pf hl'
        exact ⟨trivial, r, a', b', pf.mono (by omega), hl', hb', rfl⟩
      · rintro ρ' s4 ⟨r, a', b', pf, hl', hb', rfl⟩
        refine sms_cons (sm_expr (em_append (em_v5 ⟨_, rfl, ⟨_, pf.c0⟩, em_callTy (T := "tuple") T.tuple (am_cons (em_v7 (am_nil (vc_tupL (.ref pf.last) ⟨_, pf.c0, by rw [List.length_map]; omega, sms_nil ⟨rows ++ [r], g ++ [.lst (r.map oD)], _, _, _, _, ?_, ?_, ?_, ?_, rfl⟩⟩))))⟩)))
        · rw [List.map_append]
          exact pf.set0.mono (by omega)
        · rw [List.length_append, hl]
          rfl
        · intro z hz
          rcases List.mem_append.mp hz with hz | hz
          · exact hw z hz
          · rw [List.mem_singleton.mp hz]; exact hl'
        · intro z hz
          rcases List.mem_append.mp hz with hz | hz
          · exact hf z hz
          · rw [List.mem_singleton.mp hz]; exact hb'
    · rintro ρ' s3 ⟨rows, g, a, b, c, d, pg, hl, hw, hf, rfl⟩
      rw [intsD_len] at pg hl
      exact ⟨trivial, rows, g, a, b, c, d, pg.mono (by omega), hl, hw, hf, rfl⟩
    · rintro ρ' s3 ⟨rows, g, a, b, c, d, pg, hl, hw, hf, rfl⟩
      refine sms_cons (sm_ret (em_tup (am_cons (em_v2 (am_cons (em_callTy (T := "tuple") T.tuple (am_cons (em_v5 (am_nil (vc_tupL (.ref pg.c0) (am_nil ⟨Nat.le_of_ble_eq_true rfl, pg.drp ⟨trivial, bd_rows _ _, trivial⟩ fun s' p => k wd rows s' ⟨hw1, hw4, by omega, hw, by rw [hl]; exact hf⟩ (by omega) p⟩)))))))))))
end Sg
end T_Q4

section T_Q5
set_option autoImplicit true
set_option maxRecDepth 100000
set_option maxHeartbeats 4000000
namespace Sg
open PySem L2 Mp
variable {P : Program} {w : World} {K : PySem.W.Frag} {mg : Str → Option Value} {base : Heap}
def wHolders : Wt := fun ds s Φ => ∃ j N wd rows, ds = [.ref j, heapD wd rows, .int 4] ∧ rows.length ≤ 7 ∧ PenAt s j N ∧ N ≤ 80000 ∧ ∀ (held : Row) (s' : Sto), 1 ≤ held.length → held.length ≤ 4 → (∀ o ∈ held, ∀ i, o = some i → i < rows.length) → PenS s j s' (N + 9) → Φ (rowD held) s'
theorem g_holders (T : Tx K mg) (GD : GDraw P w K mg base) (Df : DefG K mg "_law_holders" lHolders) : GFn P w K mg base "_law_holders" 2 wHolders := by
  refine mkGD (N := ["_law_pen_here", "_law_net_here", "_law_most", "_law_size", "_law_found", "_law_k"]) (ps := ["_law_pen_here", "_law_net_here", "_law_most"]) Df ⟨rfl, rfl, rfl, by decide +kernel, rfl, by decide +kernel, by decide +kernel⟩ (fun _ _ _ _ _ _ us hl => match us, hl with | [_, _, _], _ => rfl) (fun ds s Φ h => ?_) fun fa cdv A outer sh H E hr ds s Φ h => ?_
  · obtain ⟨_, _, _, _, rfl, _⟩ := h
    rfl
  · obtain ⟨j, N, wd, rows, rfl, hrl, hp, hN, k⟩ := h
    have nd : (["_law_pen_here", "_law_net_here", "_law_most", "_law_size", "_law_found", "_law_k"] : List Str).Nodup := by decide +kernel
    have hj := hp.lt
    have a1 : ∀ {x y : Mp.D}, atI [x, y] 1 = some y := fun {x y} => rfl
    refine sms_cons (sm_set 3 nd (em_callB (id := "len") T.len (am_cons (em_ix (em_v1 (em_int (vi_tup a1 (am_nil (vc_lenT (ds := rows.map rowD) ?_)))))))))
    rw [List.length_map]
    refine sms_cons (sm_set 4 nd (em_lstC (am_nil ⟨Nat.le_of_ble_eq_true rfl, ?_⟩)))
    have p0 : PenG s j [.lst (([] : Row).map oD)] (s ++ [.lst []]) N := hp.pg.app
    refine sms_cut (fun ρ' s' => ∃ (held : Row) (a : Option Mp.D), PenG s j [.lst (held.map oD)] s' (N + 9) ∧ 1 ≤ held.length ∧ held.length ≤ 4 ∧ (∀ o ∈ held, ∀ i, o = some i → i < rows.length) ∧ ρ' = [some (.ref j), some (heapD wd rows), some (.int 4), some (.int rows.length), some (.ref s.length), a]) (sm_for (im_range T.range (em_bin (em_int (em_call GD hr (am_cons (em_v0 (am_cons (em_v2 (am_nil ⟨j, N, 4, rfl, p0.at_ hj, by omega, by decide, by decide, fun d m hd hm => v2_addI ⟨1 + d, rfl, by omega, fun i ρ' s' => ∃ (held : Row) (a : Option Mp.D), PenG s j [.lst (held.map oD)] s' (N + 1 + 2 * i) ∧ held.length = i ∧ (∀ o ∈ held, ∀ i, o = some i → i < rows.length) ∧ ρ' = [some (.ref j), some (heapD wd rows), some (.int 4), some (.int rows.length), some (.ref s.length), a], ⟨[], none, p0.next hj hm, rfl, (fun r hr => nomatch hr), rfl⟩, ?_, ?_⟩⟩)))))))))) ?_
    · rintro i x ρ' s1 hi ⟨held, a, pg, hl, hb, rfl⟩
      have hi' : i < 1 + d := by
        have := get_lt hi
        rw [intsD_len] at this
        exact this
      refine ⟨trivial, gm_name 5 nd ?_⟩
      refine sms_cons (sm_expr (em_append (em_v4 ⟨_, rfl, ⟨_, pg.c0⟩, em_ix (em_lst (am_cons (em_non (am_cons (em_call GD hr (am_cons (em_v0 (am_cons (em_callB (id := "max") T.max (am_cons (em_int (am_cons (em_v3 (am_nil (vc_max rfl (am_nil ⟨j, N + 1 + 2 * i, max 1 rows.length, ?_, pg.at_ hj, by omega, by omega, by omega, fun d1 m1 hd1 hm1 => am_nil ⟨Nat.le_of_ble_eq_true rfl, em_callTy (T := "int") T.int (am_cons (em_and (em_cmp (em_v3 (em_int (v2_gt (asB ?_)))))))⟩⟩))))))))))))))))⟩)))
      · by_cases h : (rows.length : Int) > 1
        · rw [if_pos h, Nat.max_eq_right (by omega)]
        · rw [if_neg h, Nat.max_eq_left (by omega)]
          rfl
      have fin : ∀ (o : Option Nat) (s2 : Sto), (∀ i, o = some i → i < rows.length) → PenG s j [.lst (held.map oD)] s2 (N + 1 + 2 * (i + 1)) → ∃ ds, s2[s.length]? = some (.lst ds) ∧ ds.length ≤ 1000 ∧ SMs (cxOf CX0 P w K mg base ["_law_pen_here", "_law_net_here", "_law_most", "_law_size", "_law_found", "_law_k"] "_law_holders" (defScope lHolders) fa cdv A outer sh H E).nox [some (.ref j), some (heapD wd rows), some (.int 4), some (.int rows.length), some (.ref s.length), some x] (s2.set s.length (.lst (ds ++ [oD o]))) [] { nx := fun ρ' s' => ∃ (held : Row) (a : Option Mp.D), PenG s j [.lst (held.map oD)] s' (N + 1 + 2 * (i + 1)) ∧ held.length = i + 1 ∧ (∀ o ∈ held, ∀ i, o = some i → i < rows.length) ∧ ρ' = [some (.ref j), some (heapD wd rows), some (.int 4), some (.int rows.length), some (.ref s.length), a], rt := Drp s Φ, bk := fun ρ' s' => ∃ (held : Row) (a : Option Mp.D), PenG s j [.lst (held.map oD)] s' (N + 9) ∧ 1 ≤ held.length ∧ held.length ≤ 4 ∧ (∀ o ∈ held, ∀ i, o = some i → i < rows.length) ∧ ρ' = [some (.ref j), some (heapD wd rows), some (.int 4), some (.int rows.length), some (.ref s.length), a], ct := fun ρ' s' => ∃ (held : Row) (a : Option Mp.D), PenG s j [.lst (held.map oD)] s' (N + 1 + 2 * (i + 1)) ∧ held.length = i + 1 ∧ (∀ o ∈ held, ∀ i, o = some i → i < rows.length) ∧ ρ' = [some (.ref j), some (heapD wd rows), some (.int 4), some (.int rows.length), some (.ref s.length), a] } := fun o s2 ho p2 => ⟨_, p2.c0, by rw [List.length_map]; omega, sms_nil ⟨held ++ [o], some x, by rw [List.map_append]; exact p2.set0, by rw [List.length_append, hl]; rfl, fun z hz => by
          rcases List.mem_append.mp hz with hz | hz
          · exact hb z hz
          · rw [List.mem_singleton.mp hz]; exact ho, rfl⟩⟩
      refine bif_d (fun hpos => ?_) fun hz => ?_
      · refine em_one (em_cmp (em_call GD hr (am_cons (em_v0 (am_cons (em_int (am_nil ⟨j, N + 1 + 2 * i + 1, 4, rfl, (pg.next hj hm1).at_ hj, by omega, by decide, by decide, fun d2 m2 hd2 hm2 => em_int (v2_gt (am_nil (vc_intB (vi_lst (d := oD (if 0 < d2 then some d1 else none)) ?_ (fin _ _ ?_ ?_)))))⟩)))))))
        · by_cases h : 0 < d2
          · rw [if_pos h, decide_eq_true (by omega)]
            rfl
          · rw [if_neg h, decide_eq_false (by omega)]
            rfl
        · intro z hz
          split at hz
          · cases hz
            omega
          · cases hz
        · exact ((pg.next hj hm1).next hj hm2).mono (by omega)
      · refine am_nil (vc_intB (vi_lst (d := oD none) rfl (fin _ _ ?_ ?_)))
        · intro z hz
          cases hz
        · exact (pg.next hj hm1).mono (by omega)
    · rintro ρ' s1 ⟨held, a, pg, hl, hb, rfl⟩
      rw [intsD_len] at pg hl
      exact ⟨trivial, held, a, pg.mono (by omega), by omega, by omega, hb, rfl⟩
    · rintro ρ' s1 ⟨held, a, pg, h1, h4, hb, rfl⟩
      refine sms_cons (sm_ret (em_callTy (T := "tuple") T.tuple (am_cons (em_v4 (am_nil (vc_tupL (.ref pg.c0) (pg.drp (bd_row _ _) fun s' p => k held s' h1 h4 hb p)))))))
end Sg
end T_Q5

section T_Q6
set_option autoImplicit true
set_option maxRecDepth 100000
set_option maxHeartbeats 4000000
namespace Sg
open PySem L2 Mp
variable {P : Program} {w : World} {K : PySem.W.Frag} {mg : Str → Option Value} {base : Heap}
abbrev lModel : Stmt := top 83
/-! the law's model: a dict of lists -/
def ksL : List Str := ["wide", "rows", "held", "paint", "seen", "phase"]
def kLM : List Key := ksL.map Sum.inr
structure Ids where
  q : Nat
  a : Nat
  h : Nat
  p : Nat
  e : Nat
  rs : List Nat
def Ids.all (c : Ids) : List Nat := c.q :: c.a :: c.h :: c.p :: c.e :: c.rs
def rowC (r : Row) : MO := .lst (r.map oD)
def seenL (l : List Nat) : Mp.D := .lst (l.map natD)
structure ModelAt (s : Sto) (c : Ids) (wd : Nat) (m : Mo) : Prop where
  q : s[c.q]? = some (.dic kLM [.int wd, .ref c.a, .ref c.h, .ref c.p, .ref c.e, .str m.ph.s])
  a : s[c.a]? = some (.lst (c.rs.map .ref))
  h : s[c.h]? = some (.lst (m.held.map oD))
  p : s[c.p]? = some (.lst (m.paint.map colD))
  e : s[c.e]? = some (.lst (m.seen.map seenL))
  len : c.rs.length = m.rows.length
  rs : ∀ (i r : Nat) (row : Row), c.rs[i]? = some r → m.rows[i]? = some row → s[r]? = some (rowC row)
  nd : c.all.Nodup
section
variable {X : Cx} {ρ : Slo} {s : Sto} {Φ : Mp.D → Sto → Prop} {pos p : Pos} {a : Expr}
theorem em_md {key : Str} {j} (n : Nat) (hu : X.A.units + 1 < cLine) (h : EM X ρ s a fun x s1 => ∃ q ds d, x = .ref q ∧ s1[q]? = some (.dic kLM ds) ∧ ds[n]? = some d ∧ Φ d s1) (hk : kIx kLM (.inr key) = some n := by decide +kernel) : EM X ρ s (.Subscript a (.Constant (.str key) j p) pos) Φ :=
  em_dget hu (em_mono h fun x s1 ⟨q, ds, d, e, hq, hd, k⟩ => em_str ⟨q, kLM, ds, .inr key, n, d, e, hq, rfl, hk, hd, k⟩)
end
/-- the cells of a new model -/
def newCells (n wd : Nat) (rows : List Row) (held : Row) : Sto :=
  [.dic kLM [.int wd, .ref (n + 1), .ref (n + 2 + rows.length), .ref (n + 3 + rows.length), .ref (n + 4 + rows.length), .str "ready"], .lst ((List.range rows.length).map fun i => .ref (n + 2 + i))] ++ (rows.map rowC ++
  [.lst (held.map oD), .lst (List.replicate rows.length (colD .w)), .lst (List.replicate rows.length (.lst []))])
theorem g_model (T : Tx K mg) (Df : DefG K mg "_law_model" lModel) : GFn P w K mg base "_law_model" 1 fun ds s Φ => ∃ (wd : Nat) (rows : List Row) (held : Row), ds = [heapD wd rows, rowD held] ∧ rows.length ≤ 40 ∧ Φ (.ref s.length) (s ++ newCells s.length wd rows held) := by
  refine mkG (N := ["_law_net_here", "_law_holders_here", "_law_size", "_law_row", "_law_k"]) (ps := ["_law_net_here", "_law_holders_here"]) Df ⟨rfl, rfl, rfl, by decide +kernel, rfl, by decide +kernel, by decide +kernel⟩ (fun _ _ _ _ _ _ us hl => match us, hl with | [_, _], _ => rfl) (fun ds s Φ h => ?_) fun fa cdv A outer sh H E hr ds s Φ h => ?_
  · obtain ⟨_, _, _, rfl, _⟩ := h
    rfl
  · obtain ⟨wd, rows, held, rfl, hl, k⟩ := h
    have nd : (["_law_net_here", "_law_holders_here", "_law_size", "_law_row", "_law_k"] : List Str).Nodup := by decide +kernel
    have a0 : ∀ {x y : Mp.D}, atI [x, y] 0 = some x := fun {x y} => rfl
    have a1 : ∀ {x y : Mp.D}, atI [x, y] 1 = some y := fun {x y} => rfl
    refine sms_cons (sm_set 2 nd (em_callB (id := "len") T.len (am_cons (em_ix (em_v0 (em_int (vi_tup a1 (am_nil (vc_lenT (ds := rows.map rowD) ?_)))))))))
    rw [List.length_map]
    refine sms_cons (sm_ret (em_disp ksL (pps_cons pe_str pe_sem (pps_cons pe_str pe_sem (pps_cons pe_str pe_sem (pps_cons pe_str pe_sem (pps_cons pe_str pe_sem (pps_cons pe_str pe_sem pps_nil)))))) (by decide +kernel) ?_ (by decide)))
    refine pm_cons (em_ix (em_v0 (em_int (vi_tup a0 (pm_cons ?_)))))
    refine em_lcC (own := [("_law_row", 3)]) (.one 3) nd (blk_ok rfl) (by decide) (tg_one 3 nd) (im_tup (em_ix (em_v0 (em_int (vi_tup a1 ⟨rows.map rowD, rfl, fun i acc s' => s' = (s ++ [.dic [] []]) ++ (.lst acc :: (rows.take i).map rowC) ∧ acc = (List.range i).map (fun i => .ref (s.length + 2 + i)), ⟨rfl, rfl⟩, ?_, ?_⟩)))))
    · rintro i x acc s' hi ⟨rfl, rfl⟩
      rw [List.getElem?_map, Option.map_eq_some_iff] at hi
      obtain ⟨r, hr', rfl⟩ := hi
      refine ⟨trivial, _, rfl, ⟨fun _ sh' H' C' cl fp => ?_, fun z => nomatch z⟩⟩
      refine em_callTy (T := "list") T.list (am_cons (em_v3 (am_nil (vc_listC (.tup _) ⟨?_, ?_, ?_, ?_⟩))))
      · rw [get_app_l (m := .lst ((List.range i).map fun i => Mp.D.ref (s.length + 2 + i))) (by rw [List.getElem?_append_right (Nat.le_refl _), Nat.sub_self]; rfl)]
      · rw [List.length_map, List.length_range]
        have := get_lt hr'
        omega
      · rw [List.append_assoc, List.set_append_right _ _ (Nat.le_refl _), Nat.sub_self]
        rw [List.take_add_one, hr', List.map_append]
        rfl
      · have := get_lt hr'
        rw [List.range_succ, List.map_append]
        congr 1
        show [Mp.D.ref _] = [.ref _]
        congr 2
        simp only [List.length_append, List.length_cons, List.length_nil, List.length_map, List.length_take]
        rw [Nat.min_eq_left (by omega)]
        omega
    · rintro acc s' ⟨rfl, rfl⟩
      refine ⟨trivial, ?_⟩
      rw [List.length_map, List.take_length]
      refine pm_cons (em_callTy (T := "list") T.list (am_cons (em_v1 (am_nil (vc_listC (.tup _) (pm_cons (em_bin (em_lst (am_cons (em_str (am_nil ⟨Nat.le_of_ble_eq_true rfl, em_v2 (v2_mulLC (.lst _) (by omega) (by omega) (Nat.le_of_ble_eq_true rfl) (pm_cons (em_lcC (own := [("_law_k", 4)]) (.one 4) nd (blk_ok rfl) (by decide) (tg_one 4 nd) (im_range T.range (em_v2 ⟨rows.length, rfl, by omega, fun i acc s' => s' = (((((s ++ [.dic [] []]) ++ .lst ((List.range rows.length).map fun i => .ref (s.length + 2 + i)) :: rows.map rowC) ++ [.lst (held.map oD)]) ++ [.lst (List.replicate ((rows.length : Nat) : Int).toNat [colD .w]).flatten]) ++ [.lst acc]) ∧ acc = List.replicate i (.lst []), ⟨rfl, rfl⟩, ?_, ?_⟩)))))⟩)))))))))))
      · rintro i x acc s' hi ⟨rfl, rfl⟩
        have hi' := get_lt hi
        rw [intsD_len] at hi'
        refine ⟨trivial, _, rfl, ⟨fun _ sh' H' C' cl fp => em_lst (am_nil ⟨Nat.le_of_ble_eq_true rfl, get_last _ _, by rw [List.length_replicate]; omega, set_last .., ?_⟩), fun z => nomatch z⟩⟩
        rw [List.replicate_succ']
      · rintro acc s' ⟨rfl, rfl⟩
        refine ⟨trivial, pm_cons (em_str (pm_nil ⟨?_, rfl, ?_⟩))⟩
        · exact get_app_l (get_app_l (get_app_l (get_app_l (get_last _ _))))
        · rw [intsD_len]
          refine cast ?_ k
          congr 1
          simp only [newCells, List.append_assoc, List.length_append, List.length_cons, List.length_nil, List.length_map, List.length_replicate]
          rw [List.set_append_right _ _ (Nat.le_refl _), Nat.sub_self]
          simp
          exact ⟨rfl, by omega, by omega, by omega⟩
def newIds (n k : Nat) : Ids := ⟨n, n + 1, n + 2 + k, n + 3 + k, n + 4 + k, (List.range k).map fun i => n + 2 + i⟩
theorem app_at {s t : Sto} {n i : Nat} (h : s.length + i = n) : (s ++ t)[n]? = t[i]? := by
  subst h
  rw [List.getElem?_append_right (by omega), Nat.add_sub_cancel_left]
theorem newIds_at (n k i : Nat) (hi : i < k) : ((List.range k).map fun i => n + 2 + i)[i]? = some (n + 2 + i) := by
  rw [List.getElem?_map, List.getElem?_range hi]
  rfl
theorem model_new (s : Sto) (wd : Nat) (rows : List Row) (held : Row) : ModelAt (s ++ newCells s.length wd rows held) (newIds s.length rows.length) wd (firstMo rows held) where
  q := app_at (i := 0) rfl
  a := by
    refine (app_at (i := 1) rfl).trans ?_
    show some _ = some _
    rw [show (newIds s.length rows.length).rs.map Mp.D.ref = (List.range rows.length).map fun i => Mp.D.ref (s.length + 2 + i) from List.map_map]
  h := by
    refine (app_at (i := 2 + rows.length) (by show _ = s.length + 2 + rows.length; omega)).trans ?_
    refine (app_at (i := rows.length) rfl).trans ?_
    exact app_at (i := 0) (List.length_map _)
  p := by
    refine (app_at (i := 2 + (rows.length + 1)) (by show _ = s.length + 3 + rows.length; omega)).trans ?_
    refine (app_at (i := rows.length + 1) rfl).trans ?_
    refine (app_at (i := 1) (by rw [List.length_map])).trans ?_
    show some _ = some (MO.lst ((List.replicate rows.length Col.w).map colD))
    rw [List.map_replicate]
  e := by
    refine (app_at (i := 2 + (rows.length + 2)) (by show _ = s.length + 4 + rows.length; omega)).trans ?_
    refine (app_at (i := rows.length + 2) rfl).trans ?_
    refine (app_at (i := 2) (by rw [List.length_map])).trans ?_
    show some _ = some (MO.lst ((List.replicate rows.length ([] : List Nat)).map seenL))
    rw [List.map_replicate]
    rfl
  len := by
    show ((List.range rows.length).map _).length = rows.length
    rw [List.length_map, List.length_range]
  rs := by
    intro i r row hi hrow
    have hlt := get_lt hrow
    change i < rows.length at hlt
    change rows[i]? = some row at hrow
    have e : ((List.range rows.length).map fun i => s.length + 2 + i)[i]? = some r := hi
    rw [newIds_at _ _ _ hlt] at e
    cases e
    refine (app_at (i := 2 + i) (by omega)).trans ?_
    refine (app_at (i := i) rfl).trans ?_
    rw [List.getElem?_append_left (by rw [List.length_map]; exact hlt), List.getElem?_map, hrow]
    rfl
  nd := by
    show (_ :: _ :: _ :: _ :: _ :: _).Nodup
    have hr : ∀ z ∈ (List.range rows.length).map (fun i => s.length + 2 + i), ∃ i, i < rows.length ∧ z = s.length + 2 + i := fun z hz => by
      obtain ⟨i, hi, rfl⟩ := List.mem_map.mp hz
      exact ⟨i, List.mem_range.mp hi, rfl⟩
    refine List.nodup_cons.mpr ⟨fun h => ?_, List.nodup_cons.mpr ⟨fun h => ?_, List.nodup_cons.mpr ⟨fun h => ?_, List.nodup_cons.mpr ⟨fun h => ?_, List.nodup_cons.mpr ⟨fun h => ?_, ?_⟩⟩⟩⟩⟩
    all_goals simp only [newIds, List.mem_cons] at *
    · rcases h with h | h | h | h | h
      · omega
      · omega
      · omega
      · omega
      · obtain ⟨i, _, e⟩ := hr _ h; omega
    · rcases h with h | h | h | h
      · omega
      · omega
      · omega
      · obtain ⟨i, _, e⟩ := hr _ h; omega
    · rcases h with h | h | h
      · omega
      · omega
      · obtain ⟨i, _, e⟩ := hr _ h; omega
    · rcases h with h | h
      · omega
      · obtain ⟨i, _, e⟩ := hr _ h; omega
    · obtain ⟨i, _, e⟩ := hr _ h; omega
    · exact List.pairwise_map.mpr (List.Pairwise.imp (fun h z => h (by omega)) List.nodup_range)
end Sg
end T_Q6

section T_Q7
set_option autoImplicit true
set_option maxRecDepth 100000
set_option maxHeartbeats 4000000
namespace Sg
open PySem L2 Mp
variable {P : Program} {w : World} {K : PySem.W.Frag} {mg : Str → Option Value} {base : Heap}
abbrev lShade : Stmt := top 85
abbrev lStored : Stmt := top 86
theorem ixN_at {n i : Nat} (h : i < n) : ixN n (i : Int) = some i := by
  unfold ixN
  rw [if_pos (by omega), if_pos (by omega)]
  simp
theorem gsn {s : Sto} {i j : Nat} {m' : MO} (hne : i ≠ j) : (s.set i m')[j]? = s[j]? := List.getElem?_set_ne hne
def paintM (p : List Col) : MO := .lst (p.map colD)
theorem paint_atI {p : List Col} {i : Nat} {c : Col} (h : p[i]? = some c) : atI (p.map colD) (i : Int) = some (colD c) := paint_at h
theorem set_same {s : Sto} {j : Nat} {m : MO} (h : s[j]? = some m) : s.set j m = s := by
  obtain ⟨hl, e⟩ := List.getElem?_eq_some_iff.mp h
  rw [← e]
  exact List.set_getElem_self hl
def wShade : Wt := fun ds s Φ => ∃ (q p : Nat) (es : List Mp.D) (pt : List Col) (x : Option Nat), ds = [.ref q, oD x] ∧ s[q]? = some (.dic kLM es) ∧ es[3]? = some (.ref p) ∧ s[p]? = some (paintM pt) ∧ (∀ i, x = some i → i < pt.length) ∧ Φ .non (s.set p (paintM (shade1 pt x)))
theorem g_shade (T : Tx K mg) (Df : DefG K mg "_law_shade" lShade) : GFn P w K mg base "_law_shade" 1 wShade := by
  refine mkG (N := ["_law_model_here", "_law_x"]) (ps := ["_law_model_here", "_law_x"]) Df ⟨rfl, rfl, rfl, by decide +kernel, rfl, by decide +kernel, by decide +kernel⟩ (fun _ _ _ _ _ _ us hl => match us, hl with | [_, _], _ => rfl) (fun ds s Φ h => ?_) fun fa cdv A outer sh H E hr ds s Φ h => ?_
  · obtain ⟨_, _, _, _, _, rfl, _⟩ := h
    rfl
  · obtain ⟨q, p, es, pt, x, rfl, hq, he, hp, hx, k⟩ := h
    refine sms_cons (sm_if (tm_w (wm_and (tm_cmp (em_v1 (em_non (v2_notN (asB ?_))))))))
    cases x with
    | none =>
      refine bif_FF ?_
      rw [show s.set p (paintM (shade1 pt none)) = s from set_same hp] at k
      exact bif_FF (sms_nil (sms_nil k))
    | some x =>
      have hlt := hx x rfl
      have hc : pt[x]? = some pt[x] := List.getElem?_eq_getElem hlt
      refine bif_TT (wm_and1 (tm_cmp (em_ix (em_md 3 (room1 hr) (em_v0 ⟨q, es, .ref p, rfl, hq, he, em_v1 (vi_ref hp (paint_atI hc) (em_str (v2_eqS (asB ?_))))⟩)))))
      rw [show decide (pt[x].s = "white") = decide (pt[x] = .w) from col_dec pt[x] .w]
      refine bif_d (fun hw => ?_) fun hw => ?_
      · refine sms_cons (sm_setL (em_str (em_md 3 (room1 hr) (em_v0 ⟨q, es, .ref p, rfl, hq, he, em_v1 ⟨p, _, x, x, rfl, hp, rfl, ixN_at (by rw [List.length_map]; exact hlt), ?_⟩⟩))))
        refine sms_nil (sms_nil ?_)
        have e : shade1 pt (some x) = pt.set x .g := by
          show (if pt[x]? = some Col.w then _ else _) = _
          rw [hc, hw]
          exact if_pos rfl
        rw [e] at k
        refine cast ?_ k
        unfold paintM
        rw [List.map_set]
        rfl
      · have e : shade1 pt (some x) = pt := by
          show (if pt[x]? = some Col.w then _ else _) = _
          rw [hc]
          exact if_neg fun z => hw (Option.some.inj z)
        rw [e, set_same hp] at k
        exact sms_nil (sms_nil k)
/-! changes of the model's cells -/
theorem Ids.ne {c : Ids} (nd : c.all.Nodup) {i j y z : Nat} (hi : c.all[i]? = some y) (hj : c.all[j]? = some z) (h : i ≠ j) : y ≠ z := by
  intro e
  subst e
  obtain ⟨h1, e1⟩ := List.getElem?_eq_some_iff.mp hi
  obtain ⟨h2, e2⟩ := List.getElem?_eq_some_iff.mp hj
  rcases Nat.lt_or_gt_of_ne h with g | g
  · exact List.pairwise_iff_getElem.mp nd i j h1 h2 g (e1.trans e2.symm)
  · exact List.pairwise_iff_getElem.mp nd j i h2 h1 g (e2.trans e1.symm)
def Fr (c : Ids) (s s' : Sto) : Prop := s.length ≤ s'.length ∧ ∀ i, i < s.length → i ∉ c.all → s'[i]? = s[i]?
theorem Fr.refl {c : Ids} {s : Sto} : Fr c s s := ⟨Nat.le_refl _, fun _ _ _ => rfl⟩
theorem Fr.set {c : Ids} {s s' : Sto} {i : Nat} {m : MO} (h : Fr c s s') (hi : i ∈ c.all) : Fr c s (s'.set i m) :=
  ⟨by rw [List.length_set]; exact h.1, fun k hk n => by rw [gsn fun z => n (by rw [← z]; exact hi)]; exact h.2 k hk n⟩
theorem Ids.all_rs {c : Ids} {i r : Nat} (h : c.rs[i]? = some r) : c.all[5 + i]? = some r := by
  show (c.q :: c.a :: c.h :: c.p :: c.e :: c.rs)[5 + i]? = _
  rw [show 5 + i = i + 1 + 1 + 1 + 1 + 1 by omega]
  exact h
section
variable {s : Sto} {c : Ids} {wd : Nat} {m : Mo}
theorem ModelAt.setP (M : ModelAt s c wd m) (p' : List Col) : ModelAt (s.set c.p (paintM p')) c wd { m with paint := p' } where
  q := by rw [gsn (Ids.ne M.nd (i := 3) (j := 0) rfl rfl (by decide))]; exact M.q
  a := by rw [gsn (Ids.ne M.nd (i := 3) (j := 1) rfl rfl (by decide))]; exact M.a
  h := by rw [gsn (Ids.ne M.nd (i := 3) (j := 2) rfl rfl (by decide))]; exact M.h
  p := set_get M.p
  e := by rw [gsn (Ids.ne M.nd (i := 3) (j := 4) rfl rfl (by decide))]; exact M.e
  len := M.len
  rs := fun i r row h1 h2 => by rw [gsn (Ids.ne M.nd (i := 3) (j := 5 + i) rfl (Ids.all_rs h1) (by omega))]; exact M.rs i r row h1 h2
  nd := M.nd
theorem ModelAt.setE (M : ModelAt s c wd m) (e' : List (List Nat)) : ModelAt (s.set c.e (.lst (e'.map seenL))) c wd { m with seen := e' } where
  q := by rw [gsn (Ids.ne M.nd (i := 4) (j := 0) rfl rfl (by decide))]; exact M.q
  a := by rw [gsn (Ids.ne M.nd (i := 4) (j := 1) rfl rfl (by decide))]; exact M.a
  h := by rw [gsn (Ids.ne M.nd (i := 4) (j := 2) rfl rfl (by decide))]; exact M.h
  p := by rw [gsn (Ids.ne M.nd (i := 4) (j := 3) rfl rfl (by decide))]; exact M.p
  e := set_get M.e
  len := M.len
  rs := fun i r row h1 h2 => by rw [gsn (Ids.ne M.nd (i := 4) (j := 5 + i) rfl (Ids.all_rs h1) (by omega))]; exact M.rs i r row h1 h2
  nd := M.nd
theorem ModelAt.setH (M : ModelAt s c wd m) (h' : Row) : ModelAt (s.set c.h (.lst (h'.map oD))) c wd { m with held := h' } where
  q := by rw [gsn (Ids.ne M.nd (i := 2) (j := 0) rfl rfl (by decide))]; exact M.q
  a := by rw [gsn (Ids.ne M.nd (i := 2) (j := 1) rfl rfl (by decide))]; exact M.a
  h := set_get M.h
  p := by rw [gsn (Ids.ne M.nd (i := 2) (j := 3) rfl rfl (by decide))]; exact M.p
  e := by rw [gsn (Ids.ne M.nd (i := 2) (j := 4) rfl rfl (by decide))]; exact M.e
  len := M.len
  rs := fun i r row h1 h2 => by rw [gsn (Ids.ne M.nd (i := 2) (j := 5 + i) rfl (Ids.all_rs h1) (by omega))]; exact M.rs i r row h1 h2
  nd := M.nd
theorem ModelAt.setQ (M : ModelAt s c wd m) (ph : Ph) : ModelAt (s.set c.q (.dic kLM [.int wd, .ref c.a, .ref c.h, .ref c.p, .ref c.e, .str ph.s])) c wd { m with ph := ph } where
  q := set_get M.q
  a := by rw [gsn (Ids.ne M.nd (i := 0) (j := 1) rfl rfl (by decide))]; exact M.a
  h := by rw [gsn (Ids.ne M.nd (i := 0) (j := 2) rfl rfl (by decide))]; exact M.h
  p := by rw [gsn (Ids.ne M.nd (i := 0) (j := 3) rfl rfl (by decide))]; exact M.p
  e := by rw [gsn (Ids.ne M.nd (i := 0) (j := 4) rfl rfl (by decide))]; exact M.e
  len := M.len
  rs := fun i r row h1 h2 => by rw [gsn (Ids.ne M.nd (i := 0) (j := 5 + i) rfl (Ids.all_rs h1) (by omega))]; exact M.rs i r row h1 h2
  nd := M.nd
theorem ModelAt.setR (M : ModelAt s c wd m) {x r : Nat} (row' : Row) (hx : c.rs[x]? = some r) : ModelAt (s.set r (rowC row')) c wd { m with rows := m.rows.set x row' } where
  q := by rw [gsn (Ids.ne M.nd (i := 5 + x) (j := 0) (Ids.all_rs hx) rfl (by omega))]; exact M.q
  a := by rw [gsn (Ids.ne M.nd (i := 5 + x) (j := 1) (Ids.all_rs hx) rfl (by omega))]; exact M.a
  h := by rw [gsn (Ids.ne M.nd (i := 5 + x) (j := 2) (Ids.all_rs hx) rfl (by omega))]; exact M.h
  p := by rw [gsn (Ids.ne M.nd (i := 5 + x) (j := 3) (Ids.all_rs hx) rfl (by omega))]; exact M.p
  e := by rw [gsn (Ids.ne M.nd (i := 5 + x) (j := 4) (Ids.all_rs hx) rfl (by omega))]; exact M.e
  len := by rw [List.length_set]; exact M.len
  rs := fun i r' row h1 h2 => by
    by_cases e : x = i
    · subst e
      rw [hx] at h1
      cases h1
      have hlt : x < m.rows.length := by rw [← M.len]; exact get_lt hx
      rw [List.getElem?_set, if_pos rfl, if_pos hlt] at h2
      cases h2
      exact set_get (M.rs x r m.rows[x] hx (List.getElem?_eq_getElem hlt))
    · rw [gsn (Ids.ne M.nd (i := 5 + x) (j := 5 + i) (Ids.all_rs hx) (Ids.all_rs h1) (by omega))]
      rw [List.getElem?_set, if_neg e] at h2
      exact M.rs i r' row h1 h2
  nd := M.nd
end
end Sg
end T_Q7

section T_Q8
set_option autoImplicit true
set_option maxRecDepth 100000
set_option maxHeartbeats 4000000
namespace Sg
open PySem L2 Mp
variable {P : Program} {w : World} {K : PySem.W.Frag} {mg : Str → Option Value} {base : Heap}
def tabOf (l : List Ent) (c : Col) (b : Bool) : Tab := ⟨fun e => decide (e ∈ l), c, b⟩
theorem Ids.mq (c : Ids) : c.q ∈ c.all := List.mem_cons_self
theorem Ids.ma (c : Ids) : c.a ∈ c.all := List.mem_cons_of_mem _ List.mem_cons_self
theorem Ids.mh (c : Ids) : c.h ∈ c.all := List.mem_cons_of_mem _ (List.mem_cons_of_mem _ List.mem_cons_self)
theorem Ids.mp (c : Ids) : c.p ∈ c.all := List.mem_cons_of_mem _ (List.mem_cons_of_mem _ (List.mem_cons_of_mem _ List.mem_cons_self))
theorem Ids.me (c : Ids) : c.e ∈ c.all := List.mem_cons_of_mem _ (List.mem_cons_of_mem _ (List.mem_cons_of_mem _ (List.mem_cons_of_mem _ List.mem_cons_self)))
theorem Ids.mr {c : Ids} {i r : Nat} (h : c.rs[i]? = some r) : r ∈ c.all := List.mem_of_getElem? (Ids.all_rs h)
theorem refs_at {l : List Nat} {i r : Nat} (h : l[i]? = some r) : atI (l.map Mp.D.ref) (i : Int) = some (.ref r) := atI_nat (by rw [List.getElem?_map, h]; rfl)
theorem seenL_at {l : List (List Nat)} {i : Nat} {r : List Nat} (h : l[i]? = some r) : atI (l.map seenL) (i : Int) = some (seenL r) := atI_nat (by rw [List.getElem?_map, h]; rfl)
def wStoredL : Wt := fun ds s Φ => ∃ (l : List Ent) (cf : Col) (b : Bool) (c : Ids) (wd : Nat) (m : Mo) (x f : Nat) (y : Option Nat), ds = [ruleD l cf b, .ref c.q, .int x, .int f, oD y] ∧ ModelAt s c wd m ∧ m.Ok wd ∧ x < m.rows.length ∧ f < wd ∧ (∀ i, y = some i → i < m.rows.length) ∧
  ∀ s', ModelAt s' c wd (m.store (tabOf l cf b) x f y) → Fr c s s' → Φ .non s'
theorem g_stored (T : Tx K mg) (GS : GFn P w K mg base "_law_shade" 1 wShade) (Df : DefG K mg "_law_stored" lStored) : GFn P w K mg base "_law_stored" 2 wStoredL := by
  refine mkG (N := ["_law_rule_here", "_law_model_here", "_law_x", "_law_f", "_law_given", "_law_color", "_law_before"]) (ps := ["_law_rule_here", "_law_model_here", "_law_x", "_law_f", "_law_given"]) Df ⟨rfl, rfl, rfl, by decide +kernel, rfl, by decide +kernel, by decide +kernel⟩ (fun _ _ _ _ _ _ us hl => match us, hl with | [_, _, _, _, _], _ => rfl) (fun ds s Φ h => ?_) fun fa cdv A outer sh H E hr ds s Φ h => ?_
  · obtain ⟨_, _, _, _, _, _, _, _, _, rfl, _⟩ := h
    rfl
  · obtain ⟨l, cf, b, c, wd, m, x, f, y, rfl, M, ok, hx, hf, hy, k⟩ := h
    have nd : (["_law_rule_here", "_law_model_here", "_law_x", "_law_f", "_law_given", "_law_color", "_law_before"] : List Str).Nodup := by decide +kernel
    have a0 : ∀ {x y z : Mp.D}, atI [x, y, z] 0 = some x := fun {x y z} => rfl
    have hrow : m.rows[x]? = some m.rows[x] := List.getElem?_eq_getElem hx
    have hrid : c.rs[x]? = some (c.rs[x]'(by rw [M.len]; exact hx)) := List.getElem?_eq_getElem _
    generalize c.rs[x]'(by rw [M.len]; exact hx) = r at hrid
    generalize hrw : m.rows[x] = row at hrow
    have hwr : row.length = wd := ok.wide row (mem_of_get? hrow)
    have hcell := M.rs x r row hrid hrow
    have hfx : row[f]? = some (row[f]'(by omega)) := List.getElem?_eq_getElem _
    generalize row[f]'(by omega) = o at hfx
    have hpx : m.paint[x]? = some (m.paint[x]'(by rw [ok.paint]; exact hx)) := List.getElem?_eq_getElem _
    generalize m.paint[x]'(by rw [ok.paint]; exact hx) = cx at hpx
    have hcol : m.col x = cx := getD_of hpx
    have hat : m.at_ x f = o := by
      unfold Mo.at_
      rw [getD_of hrow, getD_of hfx]
    have ho : ∀ i, o = some i → i < m.rows.length := fun i hi => ok.fld row (mem_of_get? hrow) o (mem_of_get? hfx) i hi
    refine sms_cons (sm_set 5 nd (em_ix (em_md 3 (room1 hr) (em_v1 ⟨c.q, _, .ref c.p, rfl, M.q, rfl, em_v2 (vi_ref M.p (paint_atI hpx) ?_)⟩))))
    refine sms_cons (sm_set 6 nd (em_ix (em_ix (em_md 1 (room1 hr) (em_v1 ⟨c.q, _, .ref c.a, rfl, M.q, rfl, em_v2 (vi_ref M.a (refs_at hrid) (em_v3 (vi_ref hcell (row_at hfx) ?_)))⟩)))))
    refine sms_cons (sm_setL (em_v4 (em_ix (em_md 1 (room1 hr) (em_v1 ⟨c.q, _, .ref c.a, rfl, M.q, rfl, em_v2 (vi_ref M.a (refs_at hrid) (em_v3 ⟨r, _, f, f, rfl, hcell, rfl, ixN_at (by rw [List.length_map, hwr]; exact hf), ?_⟩))⟩)))))
    have e1 : MO.lst ((row.map oD).set f (oD y)) = rowC (row.set f y) := by unfold rowC; rw [List.map_set]
    rw [e1]
    have M1 : ModelAt (s.set r (rowC (row.set f y))) c wd (m.storedAt x f y) := by
      have z := M.setR (row.set f y) hrid
      unfold Mo.storedAt
      rw [getD_of hrow]
      exact z
    have F1 : Fr c s (s.set r (rowC (row.set f y))) := Fr.refl.set (Ids.mr hrid)
    generalize s.set r (rowC (row.set f y)) = s1 at M1 F1
    have hp1 : (m.storedAt x f y).paint = m.paint := rfl
    refine sms_cut (fun ρ' s' => ModelAt s' c wd (if (tabOf l cf b).has (.old, m.col x) = true then (m.storedAt x f y).shaded [m.at_ x f] else m.storedAt x f y) ∧ Fr c s s' ∧ ρ' = [some (ruleD l cf b), some (.ref c.q), some (.int x), some (.int f), some (oD y), some (colD cx), some (oD o)]) (sm_if (tm_cmp (em_tup (am_cons (em_str (am_cons (em_v5 (am_nil ⟨Nat.le_of_ble_eq_true rfl, em_ix (em_v0 (em_int (vi_tup a0 (v2_inE (e := (.old, cx)) (l := l) (room65 hr) (asB ?_)))))⟩)))))))) ?_
    · rw [hcol, hat]
      refine bif_d (fun h => ?_) fun h => ?_
      · rw [if_pos (show (tabOf l cf b).has (.old, cx) = true from decide_eq_true h)]
        refine sms_cons (sm_expr (em_call GS hr (am_cons (em_v1 (am_cons (em_v6 (am_nil ⟨c.q, c.p, _, m.paint, o, rfl, M1.q, rfl, M1.p, fun i hi => by rw [ok.paint]; exact ho i hi, sms_nil ⟨M1.setP _, F1.set c.mp, rfl⟩⟩)))))))
      · rw [if_neg (show ¬ (tabOf l cf b).has (.old, cx) = true from fun z => h (of_decide_eq_true z))]
        exact sms_nil ⟨M1, F1, rfl⟩
    rintro ρ' s2 ⟨M2, F2, rfl⟩
    have hs2 : (if (tabOf l cf b).has (.old, m.col x) = true then (m.storedAt x f y).shaded [m.at_ x f] else m.storedAt x f y).paint.length = m.rows.length := by
      split
      · exact (shadeAll_len _ _).trans ok.paint
      · exact ok.paint
    have hsn : (if (tabOf l cf b).has (.old, m.col x) = true then (m.storedAt x f y).shaded [m.at_ x f] else m.storedAt x f y).seen.length = m.rows.length := by
      split <;> exact ok.seen
    have kk : ∀ s', ModelAt s' c wd (if (tabOf l cf b).has (.source, m.col x) = true then (if (tabOf l cf b).has (.new, m.col x) = true then (if (tabOf l cf b).has (.old, m.col x) = true then (m.storedAt x f y).shaded [m.at_ x f] else m.storedAt x f y).shaded [y] else (if (tabOf l cf b).has (.old, m.col x) = true then (m.storedAt x f y).shaded [m.at_ x f] else m.storedAt x f y)).reopened x else (if (tabOf l cf b).has (.new, m.col x) = true then (if (tabOf l cf b).has (.old, m.col x) = true then (m.storedAt x f y).shaded [m.at_ x f] else m.storedAt x f y).shaded [y] else (if (tabOf l cf b).has (.old, m.col x) = true then (m.storedAt x f y).shaded [m.at_ x f] else m.storedAt x f y))) → Fr c s s' → Φ .non s' := k
    clear k
    generalize (if (tabOf l cf b).has (.old, m.col x) = true then (m.storedAt x f y).shaded [m.at_ x f] else m.storedAt x f y) = m2 at M2 hs2 hsn kk
    rw [hcol] at kk
    refine sms_cut (fun ρ' s' => ModelAt s' c wd (if (tabOf l cf b).has (.new, cx) = true then m2.shaded [y] else m2) ∧ Fr c s s' ∧ ρ' = [some (ruleD l cf b), some (.ref c.q), some (.int x), some (.int f), some (oD y), some (colD cx), some (oD o)]) (sm_if (tm_cmp (em_tup (am_cons (em_str (am_cons (em_v5 (am_nil ⟨Nat.le_of_ble_eq_true rfl, em_ix (em_v0 (em_int (vi_tup a0 (v2_inE (e := (.new, cx)) (l := l) (room65 hr) (asB ?_)))))⟩)))))))) ?_
    · refine bif_d (fun h => ?_) fun h => ?_
      · rw [if_pos (show (tabOf l cf b).has (.new, cx) = true from decide_eq_true h)]
        refine sms_cons (sm_expr (em_call GS hr (am_cons (em_v1 (am_cons (em_v4 (am_nil ⟨c.q, c.p, _, m2.paint, y, rfl, M2.q, rfl, M2.p, fun i hi => by rw [hs2]; exact hy i hi, sms_nil ⟨M2.setP _, F2.set c.mp, rfl⟩⟩)))))))
      · rw [if_neg (show ¬ (tabOf l cf b).has (.new, cx) = true from fun z => h (of_decide_eq_true z))]
        exact sms_nil ⟨M2, F2, rfl⟩
    rintro ρ' s3 ⟨M3, F3, rfl⟩
    have hs3 : (if (tabOf l cf b).has (.new, cx) = true then m2.shaded [y] else m2).paint.length = m.rows.length := by
      split
      · exact (shadeAll_len _ _).trans hs2
      · exact hs2
    have hsn3 : (if (tabOf l cf b).has (.new, cx) = true then m2.shaded [y] else m2).seen.length = m.rows.length := by
      split <;> exact hsn
    generalize (if (tabOf l cf b).has (.new, cx) = true then m2.shaded [y] else m2) = m3 at M3 hs3 hsn3 kk
    refine sms_cons (sm_if (tm_cmp (em_tup (am_cons (em_str (am_cons (em_v5 (am_nil ⟨Nat.le_of_ble_eq_true rfl, em_ix (em_v0 (em_int (vi_tup a0 (v2_inE (e := (.source, cx)) (l := l) (room65 hr) (asB ?_)))))⟩))))))))
    refine bif_d (fun h => ?_) fun h => ?_
    · rw [if_pos (show (tabOf l cf b).has (.source, cx) = true from decide_eq_true h)] at kk
      refine sms_cons (sm_setL (em_str (em_md 3 (room1 hr) (em_v1 ⟨c.q, _, .ref c.p, rfl, M3.q, rfl, em_v2 ⟨c.p, _, x, x, rfl, M3.p, rfl, ixN_at (by rw [List.length_map, hs3]; exact hx), ?_⟩⟩))))
      have e2 : MO.lst ((m3.paint.map colD).set x (.str "grey")) = paintM (m3.paint.set x .g) := by unfold paintM; rw [List.map_set]; rfl
      rw [e2]
      have M4 := M3.setP (m3.paint.set x .g)
      have F4 := F3.set (m := paintM (m3.paint.set x .g)) c.mp
      refine sms_cons (sm_setL (em_lst (am_nil ⟨Nat.le_of_ble_eq_true rfl, em_md 4 (room1 hr) (em_v1 ⟨c.q, _, .ref c.e, rfl, M4.q, rfl, em_v2 ⟨c.e, _, x, x, rfl, M4.e, rfl, ixN_at (by rw [List.length_map]; exact hsn3 ▸ hx), ?_⟩⟩)⟩)))
      have e3 : MO.lst ((m3.seen.map seenL).set x (.lst [])) = .lst ((m3.seen.set x []).map seenL) := by rw [List.map_set]; rfl
      refine sms_nil (sms_nil ?_)
      rw [e3]
      exact kk _ (M4.setE _) (F4.set c.me)
    · rw [if_neg (show ¬ (tabOf l cf b).has (.source, cx) = true from fun z => h (of_decide_eq_true z))] at kk
      exact sms_nil (sms_nil (kk _ M3 F3))
end Sg
end T_Q8

section T_Q9
set_option autoImplicit true
set_option maxRecDepth 100000
set_option maxHeartbeats 4000000
namespace Sg
open PySem L2 Mp
variable {P : Program} {w : World} {K : PySem.W.Frag} {mg : Str → Option Value} {base : Heap}
abbrev lScanned : Stmt := top 87
abbrev lMade : Stmt := top 88
theorem lt_uniq : ∀ {l m : List Int}, l.Pairwise (· < ·) → m.Pairwise (· < ·) → (∀ k, k ∈ l ↔ k ∈ m) → l = m
  | [], [], _, _, _ => rfl
  | [], b :: m, _, _, h => absurd ((h b).mpr List.mem_cons_self) (by simp)
  | a :: l, [], _, _, h => absurd ((h a).mp List.mem_cons_self) (by simp)
  | a :: l, b :: m, h1, h2, h => by
    obtain ⟨a1, a2⟩ := List.pairwise_cons.mp h1
    obtain ⟨b1, b2⟩ := List.pairwise_cons.mp h2
    have e : a = b := by
      rcases List.mem_cons.mp ((h a).mp List.mem_cons_self) with q | q
      · exact q
      · rcases List.mem_cons.mp ((h b).mpr List.mem_cons_self) with r | r
        · exact r.symm
        · have := a1 b r
          have := b1 a q
          omega
    subst e
    rw [lt_uniq a2 b2 fun k => ?_]
    have hk := h k
    constructor
    · intro z
      rcases List.mem_cons.mp (hk.mp (List.mem_cons_of_mem _ z)) with q | q
      · have := a1 k z
        omega
      · exact q
    · intro z
      rcases List.mem_cons.mp (hk.mpr (List.mem_cons_of_mem _ z)) with q | q
      · have := b1 k z
        omega
      · exact q
theorem set_sameL {α : Type} {l : List α} {x : Nat} {a : α} (h : l[x]? = some a) : l.set x a = l := by
  obtain ⟨hl, e⟩ := List.getElem?_eq_some_iff.mp h
  rw [← e]
  exact List.set_getElem_self hl
def intsN (l : List Nat) : List Int := l.map fun i : Nat => ((i : Nat) : Int)
theorem lt_uniqN {ns : List Int} {vs : List Nat} (h1 : ns.Pairwise (· < ·)) (h2 : vs.Pairwise (· < ·)) (h : ∀ k, k ∈ ns ↔ k ∈ intsN vs) : ns = intsN vs :=
  lt_uniq h1 (List.pairwise_map.mpr (h2.imp fun h => by omega)) h
theorem nats_ints (l : List Nat) : l.map natD = (intsN l).map Mp.D.int := by
  unfold intsN
  rw [List.map_map]
  rfl
theorem mem_intsN {l : List Nat} {k : Int} : k ∈ intsN l ↔ ∃ i ∈ l, (i : Int) = k := List.mem_map
theorem shadeAll_app (p : List Col) (l : Row) (o : Option Nat) : shadeAll p (l ++ [o]) = shade1 (shadeAll p l) o := by
  unfold shadeAll
  rw [List.foldl_append]
  rfl
theorem shade1_grey {p : List Col} {x : Nat} (o : Option Nat) (h : p[x]? = some .g) : (shade1 p o)[x]? = some .g := by
  cases o with
  | none => exact h
  | some y =>
    show (if p[y]? = some Col.w then p.set y .g else p)[x]? = _
    split
    · by_cases e : y = x
      · subst e
        rw [List.getElem?_set, if_pos rfl, if_pos (get_lt h)]
      · rw [List.getElem?_set_ne e]; exact h
    · exact h
theorem shadeAll_grey {x : Nat} : ∀ (l : Row) {p : List Col}, p[x]? = some .g → (shadeAll p l)[x]? = some .g
  | [], _, h => h
  | o :: l, _, h => shadeAll_grey l (shade1_grey o h)
def IsScanF (wd : Nat) (a : Act) (x : Nat) (fs : List Nat) : Prop := (a = .scan x ∧ fs = List.range wd) ∨ ∃ f, f < wd ∧ a = .scanF x f ∧ fs = [f]
def wScanned : Wt := fun ds s Φ => ∃ (c : Ids) (wd : Nat) (m : Mo) (a : Act) (x : Nat) (fs vs : List Nat), ds = [.ref c.q, actD a] ∧ IsScanF wd a x fs ∧ ModelAt s c wd m ∧ m.Ok wd ∧ m.paint[x]? = some .g ∧ vs.Pairwise (· < ·) ∧ (∀ k, k ∈ vs ↔ k ∈ m.seen.getD x [] ∨ k ∈ fs) ∧
  ∀ s', ModelAt s' c wd ((m.shaded (fs.map (m.at_ x))).withVisited x vs) → Fr c s s' → Φ .non s'
theorem g_scanned (T : Tx K mg) (GS : GFn P w K mg base "_law_shade" 1 wShade) (Df : DefG K mg "_law_scanned" lScanned) : GFn P w K mg base "_law_scanned" 2 wScanned := by
  refine mkG (N := ["_law_model_here", "_law_act_here", "_law_x", "_law_fields", "_law_f"]) (ps := ["_law_model_here", "_law_act_here"]) Df ⟨rfl, rfl, rfl, by decide +kernel, rfl, by decide +kernel, by decide +kernel⟩ (fun _ _ _ _ _ _ us hl => match us, hl with | [_, _], _ => rfl) (fun ds s Φ h => ?_) fun fa cdv A outer sh H E hr ds s Φ h => ?_
  · obtain ⟨_, _, _, _, _, _, _, rfl, _⟩ := h
    rfl
  · obtain ⟨c, wd, m, a, x, fs, vs, rfl, ha, M, ok, hg, hv, hvm, k⟩ := h
    have nd : (["_law_model_here", "_law_act_here", "_law_x", "_law_fields", "_law_f"] : List Str).Nodup := by decide +kernel
    have hx : x < m.rows.length := by rw [← ok.paint]; exact get_lt hg
    have hrow : m.rows[x]? = some m.rows[x] := List.getElem?_eq_getElem hx
    generalize hrw : m.rows[x] = row at hrow
    have hwr : row.length = wd := ok.wide row (mem_of_get? hrow)
    have hse : m.seen[x]? = some (m.seen.getD x []) := seen_of (by rw [ok.seen]; exact hx)
    generalize m.seen.getD x [] = l0 at hse hvm
    have hl0 : l0.length ≤ 4 := Nat.le_trans (nodup_lt_len (ok.vis l0 (mem_of_get? hse)).1 (ok.vis l0 (mem_of_get? hse)).2) ok.w4
    have w4 := ok.w4
    have hfs : fs.length ≤ 4 ∧ ∀ f ∈ fs, f < wd := by
      rcases ha with ⟨_, rfl⟩ | ⟨f, hf, _, rfl⟩
      · exact ⟨by rw [List.length_range]; exact w4, fun f hf => List.mem_range.mp hf⟩
      · exact ⟨Nat.le_of_ble_eq_true rfl, fun z hz => by rw [List.mem_singleton.mp hz]; exact hf⟩
    have core : SMs (cxOf CX0 P w K mg base ["_law_model_here", "_law_act_here", "_law_x", "_law_fields", "_law_f"] "_law_scanned" (defScope lScanned) fa cdv A outer sh H E).nox [some (.ref c.q), some (actD a), some (.int x), some (.lst (fs.map natD)), none] s ((defBody lScanned).drop 2) { nx := fun _ s' => Φ .non s', rt := Φ } := by
      refine sms_cut (fun ρ' s' => ModelAt s' c wd (m.shaded (fs.map (m.at_ x))) ∧ Fr c s s' ∧ ∃ z, ρ' = [some (.ref c.q), some (actD a), some (.int x), some (.lst (fs.map natD)), z]) (sm_for (im_lst (em_v3 ⟨fs.map natD, .lst _, fun i ρ' s' => ModelAt s' c wd (m.shaded ((fs.take i).map (m.at_ x))) ∧ Fr c s s' ∧ ∃ z, ρ' = [some (.ref c.q), some (actD a), some (.int x), some (.lst (fs.map natD)), z], ⟨M, Fr.refl, none, rfl⟩, ?_, ?_⟩))) ?_
      · rintro i z ρ' s' hi ⟨M1, F1, z', rfl⟩
        rw [List.getElem?_map, Option.map_eq_some_iff] at hi
        obtain ⟨f, hf, rfl⟩ := hi
        refine ⟨.lst _, gm_name 4 nd ?_⟩
        have hfw : f < wd := hfs.2 f (mem_of_get? hf)
        have hfx : row[f]? = some (row[f]'(by omega)) := List.getElem?_eq_getElem _
        generalize row[f]'(by omega) = o at hfx
        have hat : m.at_ x f = o := by
          unfold Mo.at_
          rw [getD_of hrow, getD_of hfx]
        have hrid : c.rs[x]? = some (c.rs[x]'(by rw [M.len]; exact hx)) := List.getElem?_eq_getElem _
        generalize c.rs[x]'(by rw [M.len]; exact hx) = r at hrid
        have hcell := M1.rs x r row hrid hrow
        refine sms_cons (sm_expr (em_call GS hr (am_cons (em_v0 (am_cons (em_ix (em_ix (em_md 1 (room1 hr) (em_v0 ⟨c.q, _, .ref c.a, rfl, M1.q, rfl, em_v2 (vi_ref M1.a (refs_at hrid) (em_v4 (vi_ref hcell (row_at hfx) (am_nil ⟨c.q, c.p, _, _, o, rfl, M1.q, rfl, M1.p, ?_, ?_⟩))))⟩)))))))))
        · intro i' hi'
          show i' < (shadeAll m.paint _).length
          rw [shadeAll_len, ok.paint]
          exact ok.fld row (mem_of_get? hrow) o (mem_of_get? hfx) i' hi'
        · refine sms_nil ⟨?_, F1.set c.mp, _, rfl⟩
          rw [List.take_add_one, hf]
          show ModelAt _ c wd (m.shaded (List.map (m.at_ x) (List.take i fs ++ [f])))
          rw [List.map_append]
          show ModelAt _ c wd { m with paint := shadeAll m.paint (List.map (m.at_ x) (List.take i fs) ++ [m.at_ x f]) }
          rw [shadeAll_app, hat]
          exact M1.setP _
      · rintro ρ' s' ⟨M1, F1, z', rfl⟩
        rw [List.length_map, List.take_length] at M1
        exact ⟨.lst _, M1, F1, z', rfl⟩
      rintro ρ' s1 ⟨M1, F1, z', rfl⟩
      have hse1 : (m.shaded (fs.map (m.at_ x))).seen[x]? = some l0 := hse
      refine sms_cons (sm_setL (em_sortSet T.sorted T.set (em_bin (em_ix (em_md 4 (room1 hr) (em_v0 ⟨c.q, _, .ref c.e, rfl, M1.q, rfl, em_v2 (vi_ref M1.e (seenL_at hse1) (em_v3 (v2_addL (.lst _) (.lst _) ?_ ⟨_, intsN (l0 ++ fs), .lst _, ?_, ?_, fun ns' hs hm => em_md 4 (room1 hr) (em_v0 ⟨c.q, _, .ref c.e, rfl, M1.q, rfl, em_v2 ⟨c.e, _, x, x, rfl, M1.e, rfl, ixN_at ?_, ?_⟩⟩)⟩)))⟩))))))
      · rw [List.length_map, List.length_map]
        omega
      · unfold intsN
        rw [List.map_map, List.map_append]
        rfl
      · unfold intsN
        rw [List.length_map, List.length_append]
        omega
      · show x < (m.seen.map seenL).length
        rw [List.length_map, ok.seen]
        exact hx
      have ens : ns' = intsN vs := lt_uniqN hs hv fun q => by
        rw [hm q, mem_intsN, mem_intsN]
        constructor
        · rintro ⟨z, hz, rfl⟩
          exact ⟨z, (hvm z).mpr (List.mem_append.mp hz), rfl⟩
        · rintro ⟨z, hz, rfl⟩
          exact ⟨z, List.mem_append.mpr ((hvm z).mp hz), rfl⟩
      rw [ens, ← nats_ints]
      have e1 : MO.lst (((m.shaded (fs.map (m.at_ x))).seen.map seenL).set x (.lst (vs.map natD))) = .lst ((m.seen.set x vs).map seenL) := by
        rw [List.map_set]
        rfl
      rw [e1]
      have M2 := M1.setE (m.seen.set x vs)
      have F2 := F1.set (m := .lst ((m.seen.set x vs).map seenL)) c.me
      generalize s1.set c.e (.lst ((m.seen.set x vs).map seenL)) = s2 at M2 F2
      have hse2 : (m.seen.set x vs)[x]? = some vs := by rw [List.getElem?_set, if_pos rfl, if_pos (by rw [ok.seen]; exact hx)]
      refine sms_cons (sm_if (tm_cmp (em_callB (id := "len") T.len (am_cons (em_ix (em_md 4 (room1 hr) (em_v0 ⟨c.q, _, .ref c.e, rfl, M2.q, rfl, em_v2 (vi_ref M2.e (seenL_at hse2) (am_nil (vc_lenL (.lst _) (em_md 0 (room1 hr) (em_v0 ⟨c.q, _, .int wd, rfl, M2.q, rfl, v2_eqI (asB ?_)⟩)))))⟩)))))))
      rw [List.length_map]
      have hrl : (m.rows.getD x []).length = wd := by rw [getD_of hrow]; exact hwr
      have hpl : (shadeAll m.paint (fs.map (m.at_ x)))[x]? = some .g := shadeAll_grey _ hg
      refine bif_d (fun h => ?_) fun h => ?_
      · refine sms_cons (sm_setL (em_str (em_md 3 (room1 hr) (em_v0 ⟨c.q, _, .ref c.p, rfl, M2.q, rfl, em_v2 ⟨c.p, _, x, x, rfl, M2.p, rfl, ixN_at ?_, ?_⟩⟩))))
        · show x < ((shadeAll m.paint _).map colD).length
          rw [List.length_map]
          exact get_lt hpl
        refine sms_nil (sms_nil (k _ ?_ (F2.set c.mp)))
        have z := M2.setP ((shadeAll m.paint (fs.map (m.at_ x))).set x .b)
        have e2 : MO.lst (((shadeAll m.paint (fs.map (m.at_ x))).map colD).set x (.str "black")) = paintM ((shadeAll m.paint (fs.map (m.at_ x))).set x .b) := by unfold paintM; rw [List.map_set]; rfl
        unfold Mo.withVisited
        rw [show (m.shaded (fs.map (m.at_ x))).rows = m.rows from rfl, hrl, if_pos (show vs.length = wd by omega)]
        exact e2 ▸ z
      · refine sms_nil (sms_nil (k _ ?_ F2))
        unfold Mo.withVisited
        rw [show (m.shaded (fs.map (m.at_ x))).rows = m.rows from rfl, hrl, if_neg (show ¬ vs.length = wd by omega)]
        have e3 : (m.shaded (fs.map (m.at_ x))).paint.set x .g = (m.shaded (fs.map (m.at_ x))).paint := by
          exact set_sameL hpl
        rw [e3]
        exact M2
    have a0 : ∀ {x : Mp.D} {l : List Mp.D}, atI (x :: l) 0 = some x := fun {x l} => atI_0
    rcases ha with ⟨rfl, rfl⟩ | ⟨f, hf, rfl, rfl⟩
    · refine sms_cons (sm_set 2 nd (em_ix (em_v1 (em_int (vi_tup rfl ?_)))))
      refine sms_cons (sm_set 3 nd (em_if (tm_cmp (em_callB (id := "len") T.len (am_cons (em_v1 (am_nil (vc_lenT (em_int (v2_eqI (asB (bif_TT (em_listRg T.list T.range (em_md 0 (room1 hr) (em_v0 ⟨c.q, _, .int wd, rfl, M.q, rfl, ⟨wd, rfl, by omega, core⟩⟩)))))))))))))))
    · refine sms_cons (sm_set 2 nd (em_ix (em_v1 (em_int (vi_tup rfl ?_)))))
      refine sms_cons (sm_set 3 nd (em_if (tm_cmp (em_callB (id := "len") T.len (am_cons (em_v1 (am_nil (vc_lenT (em_int (v2_eqI (asB (bif_FF (em_lst (am_cons (em_ix (em_v1 (em_int (vi_tup rfl (am_nil ⟨Nat.le_of_ble_eq_true rfl, core⟩)))))))))))))))))))
end Sg
end T_Q9

section T_Q10
set_option autoImplicit true
set_option maxRecDepth 100000
set_option maxHeartbeats 4000000
namespace Sg
open PySem L2 Mp
variable {P : Program} {w : World} {K : PySem.W.Frag} {mg : Str → Option Value} {base : Heap}
def Ids.push (c : Ids) (n : Nat) : Ids := { c with rs := c.rs ++ [n] }
theorem Ids.push_all (c : Ids) (n : Nat) : (c.push n).all = c.all ++ [n] := rfl
theorem ModelAt.lt {s : Sto} {c : Ids} {wd : Nat} {m : Mo} (M : ModelAt s c wd m) : ∀ i ∈ c.all, i < s.length := by
  intro i hi
  rcases List.mem_cons.mp hi with rfl | hi
  · exact get_lt M.q
  rcases List.mem_cons.mp hi with rfl | hi
  · exact get_lt M.a
  rcases List.mem_cons.mp hi with rfl | hi
  · exact get_lt M.h
  rcases List.mem_cons.mp hi with rfl | hi
  · exact get_lt M.p
  rcases List.mem_cons.mp hi with rfl | hi
  · exact get_lt M.e
  obtain ⟨k, hk, e⟩ := List.mem_iff_getElem.mp hi
  have hk2 : k < m.rows.length := by rw [← M.len]; exact hk
  exact get_lt (M.rs k i m.rows[k] (by rw [List.getElem?_eq_getElem hk, e]) (List.getElem?_eq_getElem hk2))
theorem ModelAt.app {s : Sto} {c : Ids} {wd : Nat} {m : Mo} (M : ModelAt s c wd m) (g : Sto) : ModelAt (s ++ g) c wd m :=
  ⟨get_app_l M.q, get_app_l M.a, get_app_l M.h, get_app_l M.p, get_app_l M.e, M.len, fun i r row h1 h2 => get_app_l (M.rs i r row h1 h2), M.nd⟩
theorem Fr.app {c : Ids} {s s' g : Sto} (h : Fr c s s') : Fr c s (s' ++ g) :=
  ⟨by rw [List.length_append]; exact Nat.le_trans h.1 (Nat.le_add_right _ _), fun i hi n => by rw [List.getElem?_append_left (Nat.lt_of_lt_of_le hi h.1)]; exact h.2 i hi n⟩
theorem ModelAt.pushR {s : Sto} {c : Ids} {wd : Nat} {m : Mo} (M : ModelAt s c wd m) (row : Row) : ModelAt ((s ++ [rowC row]).set c.a (.lst ((c.rs ++ [s.length]).map .ref))) (c.push s.length) wd { m with rows := m.rows ++ [row] } := by
  have M0 := M.app [rowC row]
  refine ⟨?_, ?_, ?_, ?_, ?_, ?_, ?_, ?_⟩
  · show ((s ++ [rowC row]).set c.a _)[c.q]? = _
    rw [gsn (Ids.ne M.nd (i := 1) (j := 0) rfl rfl (by decide))]; exact M0.q
  · exact set_get M0.a
  · show ((s ++ [rowC row]).set c.a _)[c.h]? = _
    rw [gsn (Ids.ne M.nd (i := 1) (j := 2) rfl rfl (by decide))]; exact M0.h
  · show ((s ++ [rowC row]).set c.a _)[c.p]? = _
    rw [gsn (Ids.ne M.nd (i := 1) (j := 3) rfl rfl (by decide))]; exact M0.p
  · show ((s ++ [rowC row]).set c.a _)[c.e]? = _
    rw [gsn (Ids.ne M.nd (i := 1) (j := 4) rfl rfl (by decide))]; exact M0.e
  · show (c.rs ++ [s.length]).length = (m.rows ++ [row]).length
    rw [List.length_append, List.length_append, M.len]
    rfl
  · intro i r row' h1 h2
    change (c.rs ++ [s.length])[i]? = some r at h1
    change (m.rows ++ [row])[i]? = some row' at h2
    by_cases hi : i < c.rs.length
    · rw [List.getElem?_append_left hi] at h1
      rw [List.getElem?_append_left (by rw [← M.len]; exact hi)] at h2
      rw [gsn (Ids.ne M.nd (i := 1) (j := 5 + i) rfl (Ids.all_rs h1) (by omega))]
      exact M0.rs i r row' h1 h2
    · have e : i = c.rs.length := by
        have := get_lt h1
        rw [List.length_append] at this
        change i < c.rs.length + 1 at this
        omega
      subst e
      rw [List.getElem?_concat_length] at h1
      cases h1
      rw [M.len, List.getElem?_concat_length] at h2
      cases h2
      rw [gsn (Nat.ne_of_lt (get_lt M.a))]
      exact get_last _ _
  · rw [Ids.push_all]
    refine List.nodup_append.mpr ⟨M.nd, by simp, fun x hx y hy e => ?_⟩
    rw [List.mem_singleton.mp hy] at e
    have := M.lt x hx
    omega
def wMadeL : Wt := fun ds s Φ => ∃ (l : List Ent) (cf : Col) (b : Bool) (c : Ids) (wd : Nat) (m : Mo) (r : Nat), ds = [ruleD l cf b, .ref c.q, .int r] ∧ ModelAt s c wd m ∧ m.Ok wd ∧ r < m.held.length ∧
  ∀ s' c', ModelAt s' c' wd (m.grown r wd cf) → Fr c s s' → (∀ i ∈ c'.all, i ∈ c.all ∨ s.length ≤ i) → c'.q = c.q → Φ .non s'
theorem g_made (T : Tx K mg) (Df : DefG K mg "_law_made" lMade) : GFn P w K mg base "_law_made" 1 wMadeL := by
  refine mkG (N := ["_law_rule_here", "_law_model_here", "_law_r"]) (ps := ["_law_rule_here", "_law_model_here", "_law_r"]) Df ⟨rfl, rfl, rfl, by decide +kernel, rfl, by decide +kernel, by decide +kernel⟩ (fun _ _ _ _ _ _ us hl => match us, hl with | [_, _, _], _ => rfl) (fun ds s Φ h => ?_) fun fa cdv A outer sh H E hr ds s Φ h => ?_
  · obtain ⟨_, _, _, _, _, _, _, rfl, _⟩ := h
    rfl
  · obtain ⟨l, cf, b, c, wd, m, r, rfl, M, ok, hrl, k⟩ := h
    have nd : (["_law_rule_here", "_law_model_here", "_law_r"] : List Str).Nodup := by decide +kernel
    have a1 : ∀ {x y z : Mp.D}, atI [x, y, z] 1 = some y := fun {x y z} => rfl
    have few := ok.few
    have w4 := ok.w4
    refine sms_cons (sm_setL (em_callB (id := "len") T.len (am_cons (em_md 1 (room1 hr) (em_v1 ⟨c.q, _, .ref c.a, rfl, M.q, rfl, am_nil (vc_lenL (.ref M.a) (em_md 2 (room1 hr) (em_v1 ⟨c.q, _, .ref c.h, rfl, M.q, rfl, em_v2 ⟨c.h, _, r, r, rfl, M.h, rfl, ixN_at (by rw [List.length_map]; exact hrl), ?_⟩⟩)))⟩)))))
    rw [List.length_map, M.len]
    have e1 : MO.lst ((m.held.map oD).set r (.int m.rows.length)) = .lst ((m.held.set r (some m.rows.length)).map oD) := by rw [List.map_set]; rfl
    rw [e1]
    have M1 := M.setH (m.held.set r (some m.rows.length))
    have F1 := Fr.refl (c := c) (s := s) |>.set (m := .lst ((m.held.set r (some m.rows.length)).map oD)) c.mh
    have L1 : (s.set c.h (.lst ((m.held.set r (some m.rows.length)).map oD))).length = s.length := List.length_set
    generalize s.set c.h (.lst ((m.held.set r (some m.rows.length)).map oD)) = s1 at M1 F1 L1
    refine sms_cons (sm_expr (em_append (em_md 1 (room1 hr) (em_v1 ⟨c.q, _, .ref c.a, rfl, M1.q, rfl, _, rfl, ⟨_, M1.a⟩, em_bin (em_lst (am_cons (em_non (am_nil ⟨Nat.le_of_ble_eq_true rfl, em_md 0 (room1 hr) (em_v1 ⟨c.q, _, .int wd, rfl, M1.q, rfl, v2_mulLC (.lst _) (by omega) (by omega) (Nat.le_of_ble_eq_true rfl) ⟨_, get_app_l M1.a, ?_, ?_⟩⟩)⟩))))⟩))))
    · rw [List.length_map, M1.len]
      show m.rows.length ≤ 1000
      omega
    have e2 : (MO.lst (List.replicate ((wd : Nat) : Int).toNat [Mp.D.non]).flatten) = rowC (List.replicate wd none) := by
      unfold rowC
      rw [List.map_replicate]
      show MO.lst (List.replicate wd [Mp.D.non]).flatten = _
      rw [flat_rep1]
      rfl
    have e3 : MO.lst (c.rs.map Mp.D.ref ++ [.ref s1.length]) = .lst ((c.rs ++ [s1.length]).map .ref) := by rw [List.map_append]; rfl
    rw [e2, e3]
    have M2 := M1.pushR (List.replicate wd none)
    have F2 := (F1.app (g := [rowC (List.replicate wd none)])).set (m := .lst ((c.rs ++ [s1.length]).map .ref)) c.ma
    generalize (s1 ++ [rowC (List.replicate wd none)]).set c.a (.lst ((c.rs ++ [s1.length]).map .ref)) = s2 at M2 F2
    refine sms_cons (sm_expr (em_append (em_md 3 (room1 hr) (em_v1 ⟨c.q, _, .ref c.p, rfl, M2.q, rfl, _, rfl, ⟨_, M2.p⟩, em_ix (em_v0 (em_int (vi_tup a1 ⟨_, M2.p, ?_, ?_⟩)))⟩))))
    · show (m.paint.map colD).length ≤ 1000
      rw [List.length_map, ok.paint]
      omega
    have e4 : MO.lst (m.paint.map colD ++ [colD cf]) = paintM (m.paint ++ [cf]) := by unfold paintM; rw [List.map_append]; rfl
    have M3 := M2.setP (m.paint ++ [cf])
    have F3 := F2.set (m := paintM (m.paint ++ [cf])) c.mp
    refine (show SMs _ _ (s2.set c.p (.lst (m.paint.map colD ++ [colD cf]))) _ _ from ?_)
    rw [e4]
    change ModelAt (s2.set c.p (paintM (m.paint ++ [cf]))) (c.push s1.length) wd _ at M3
    generalize s2.set c.p (paintM (m.paint ++ [cf])) = s3 at M3 F3
    have fin : ∀ vs : List Nat, vs = (if cf = .b then List.range wd else []) → ∃ ds, s3[c.e]? = some (.lst ds) ∧ ds.length ≤ 1000 ∧ Φ .non (s3.set c.e (.lst (ds ++ [seenL vs]))) := fun vs hvs => ⟨_, M3.e, by
      show (m.seen.map seenL).length ≤ 1000
      rw [List.length_map, ok.seen]
      omega, by
      have e5 : MO.lst (m.seen.map seenL ++ [seenL vs]) = .lst ((m.seen ++ [vs]).map seenL) := by rw [List.map_append]; rfl
      have M4 := M3.setE (m.seen ++ [vs])
      refine k _ (c.push s1.length) ?_ (F3.set c.me) (fun i hi => ?_) rfl
      · unfold Mo.grown
        rw [← hvs]
        refine cast ?_ M4
        rw [← e5]
        rfl
      · rw [Ids.push_all] at hi
        rcases List.mem_append.mp hi with hi | hi
        · exact .inl hi
        · rw [List.mem_singleton.mp hi, L1]
          exact .inr (Nat.le_refl _)⟩
    refine sms_cons (sm_expr (em_append (em_md 4 (room1 hr) (em_v1 ⟨c.q, _, .ref c.e, rfl, M3.q, rfl, _, rfl, ⟨_, M3.e⟩, em_if (tm_cmp (em_ix (em_v0 (em_int (vi_tup a1 (em_str (v2_eqS (asB ?_))))))))⟩))))
    rw [show decide (cf.s = "black") = decide (cf = .b) from col_dec cf .b]
    refine bif_d (fun h => ?_) fun h => ?_
    · refine em_listRg T.list T.range (em_md 0 (room1 hr) (em_v1 ⟨c.q, _, .int wd, rfl, M3.q, rfl, wd, rfl, by omega, ?_⟩))
      obtain ⟨ds, h1, h2, h3⟩ := fin (List.range wd) (by rw [if_pos h])
      exact ⟨ds, h1, h2, sms_nil h3⟩
    · refine em_lst (am_nil ⟨Nat.le_of_ble_eq_true rfl, ?_⟩)
      obtain ⟨ds, h1, h2, h3⟩ := fin [] (by rw [if_neg h])
      exact ⟨ds, h1, h2, sms_nil h3⟩
end Sg
end T_Q10

section T_Q11
set_option autoImplicit true
set_option maxRecDepth 100000
set_option maxHeartbeats 4000000
namespace Sg
open PySem L2 Mp
variable {P : Program} {w : World} {K : PySem.W.Frag} {mg : Str → Option Value} {base : Heap}
abbrev lDo : Stmt := top 89
theorem row_map {m : Mo} {wd x : Nat} (ok : m.Ok wd) (hx : x < m.rows.length) : (List.range wd).map (m.at_ x) = m.rows.getD x [] := by
  have hrow : m.rows[x]? = some m.rows[x] := List.getElem?_eq_getElem hx
  have hw := ok.wide _ (mem_of_get? hrow)
  rw [getD_of hrow]
  refine List.ext_getElem (by rw [List.length_map, List.length_range, hw]) fun i h1 h2 => ?_
  rw [List.getElem_map, List.getElem_range]
  unfold Mo.at_
  rw [getD_of hrow, getD_of (List.getElem?_eq_getElem h2)]
theorem ins1_lt {f : Nat} {l : List Nat} (h : l.Pairwise (· ≤ ·)) (nd : l.Nodup) (hn : f ∉ l) : (ins1 f l).Pairwise (· < ·) := by
  have h1 := ins1_sorted f h
  have h2 : (ins1 f l).Nodup := (ins1_perm f l).nodup_iff.mpr (List.nodup_append.mpr ⟨nd, by simp, fun x hx y hy e => hn (by rw [← List.mem_singleton.mp hy, ← e]; exact hx)⟩)
  exact List.Pairwise.imp₂ (fun a b h1 h2 => Nat.lt_of_le_of_ne h1 h2) h1 h2
def wDo : Wt := fun ds s Φ => ∃ (l : List Ent) (cf : Col) (b : Bool) (c : Ids) (wd : Nat) (m : Mo) (fl : Bool) (a : Act), ds = [ruleD l cf b, .ref c.q, actD a] ∧ ModelAt s c wd m ∧ m.Ok wd ∧ SeenOk m ∧ Good fl b wd m a ∧
  ∀ s' c', ModelAt s' c' wd (stepMo (tabOf l cf b) wd m a) → Fr c s s' → (∀ i ∈ c'.all, i ∈ c.all ∨ s.length ≤ i) → c'.q = c.q → Φ .non s'
theorem g_do (T : Tx K mg) (GS : GFn P w K mg base "_law_shade" 1 wShade) (GT : GFn P w K mg base "_law_stored" 2 wStoredL) (GM : GFn P w K mg base "_law_made" 1 wMadeL) (GC : GFn P w K mg base "_law_scanned" 2 wScanned) (Df : DefG K mg "_law_do" lDo) : GFn P w K mg base "_law_do" 3 wDo := by
  refine mkG (N := ["_law_rule_here", "_law_model_here", "_law_act_here", "_law_word", "_law_held", "_law_x"]) (ps := ["_law_rule_here", "_law_model_here", "_law_act_here"]) Df ⟨rfl, rfl, rfl, by decide +kernel, rfl, by decide +kernel, by decide +kernel⟩ (fun _ _ _ _ _ _ us hl => match us, hl with | [_, _, _], _ => rfl) (fun ds s Φ h => ?_) fun fa cdv A outer sh H E hr ds s Φ h => ?_
  · obtain ⟨_, _, _, _, _, _, _, _, rfl, _⟩ := h
    rfl
  · obtain ⟨l, cf, b, c, wd, m, fl, a, rfl, M, ok, so, g, k⟩ := h
    have nd : (["_law_rule_here", "_law_model_here", "_law_act_here", "_law_word", "_law_held", "_law_x"] : List Str).Nodup := by decide +kernel
    have a0 : ∀ {x : Mp.D} {l : List Mp.D}, atI (x :: l) 0 = some x := fun {x l} => atI_0
    have kk : ∀ s', ModelAt s' c wd (stepMo (tabOf l cf b) wd m a) → Fr c s s' → Φ .non s' := fun s' h1 h2 => k s' c h1 h2 (fun i hi => .inl hi) rfl
    refine sms_cons (sm_par 3 4 nd ?_ (by decide) rfl)
    refine am_cons (em_ix (em_v2 (em_int (vi_tup (ds := .str a.word :: a.rest) a0 (am_cons (em_md 2 (room1 hr) (em_v1 ⟨c.q, _, .ref c.h, rfl, M.q, rfl, am_nil ⟨_, _, rfl, ?_⟩⟩)))))))
    have bh : ∀ {i : Nat} {o : Option Nat}, m.held[i]? = some o → ∀ j, o = some j → j < m.rows.length := fun h j e => ok.held _ (mem_of_get? h) j e
    have hat : ∀ {i : Nat} {o : Option Nat}, m.held[i]? = some o → atI (m.held.map oD) (i : Int) = some (oD o) := fun h => row_at h
    have rg : ∀ {i : Nat} {o : Option Nat}, m.held[i]? = some o → m.reg i = o := fun h => getD_of h
    have marks : ∀ W : Str, (W = "start" ∨ W = "look") → (∀ s', ModelAt s' c wd ((m.shaded m.held).inPhase .marking) → Fr c s s' → Φ .non s') → SMs (cxOf CX0 P w K mg base ["_law_rule_here", "_law_model_here", "_law_act_here", "_law_word", "_law_held", "_law_x"] "_law_do" (defScope lDo) fa cdv A outer sh H E).nox [some (ruleD l cf b), some (.ref c.q), some (actD a), some (.str W), some (.ref c.h), none] s ((defBody lDo).drop 1) { nx := fun _ s' => Φ .non s', rt := Φ } := by
      intro W hW kk
      refine sms_cons (sm_if (tm_cmp (em_v3 (em_tup (am_cons (em_str (am_cons (em_str (am_nil ⟨Nat.le_of_ble_eq_true rfl, v2_inT rfl rfl (asB (bif_TT ?_ (by rcases hW with rfl | rfl <;> decide +kernel)))⟩)))))))))
      refine sms_cut (fun ρ' s' => ModelAt s' c wd (m.shaded m.held) ∧ Fr c s s' ∧ ∃ z, ρ' = [some (ruleD l cf b), some (.ref c.q), some (actD a), some (.str W), some (.ref c.h), z]) (sm_for (im_lst (em_v4 ⟨m.held.map oD, .ref M.h, fun i ρ' s' => ModelAt s' c wd (m.shaded (m.held.take i)) ∧ Fr c s s' ∧ ∃ z, ρ' = [some (ruleD l cf b), some (.ref c.q), some (actD a), some (.str W), some (.ref c.h), z], ⟨M, Fr.refl, none, rfl⟩, ?_, ?_⟩))) ?_
      · rintro i z ρ' s' hi ⟨M1, F1, z', rfl⟩
        rw [List.getElem?_map, Option.map_eq_some_iff] at hi
        obtain ⟨o, ho, rfl⟩ := hi
        refine ⟨.ref M1.h, gm_name 5 nd ?_⟩
        refine sms_cons (sm_expr (em_call GS (hr.mono (by decide)) (am_cons (em_v1 (am_cons (em_v5 (am_nil ⟨c.q, c.p, _, _, o, rfl, M1.q, rfl, M1.p, ?_, ?_⟩)))))))
        · intro j hj
          show j < (shadeAll m.paint _).length
          rw [shadeAll_len, ok.paint]
          exact bh ho j hj
        · refine sms_nil ⟨?_, F1.set c.mp, _, rfl⟩
          rw [List.take_add_one, ho]
          show ModelAt _ c wd { m with paint := shadeAll m.paint (m.held.take i ++ [o]) }
          rw [shadeAll_app]
          exact M1.setP _
      · rintro ρ' s' ⟨M1, F1, z', rfl⟩
        rw [List.length_map, List.take_length] at M1
        exact ⟨.ref M1.h, M1, F1, z', rfl⟩
      rintro ρ' s1 ⟨M1, F1, z', rfl⟩
      exact sms_cons (sm_setD (room1 hr) (em_str (em_v1 (em_str ⟨c.q, kLM, _, .inr "phase", rfl, M1.q, rfl, by decide, .inl ⟨5, by decide +kernel, by decide +kernel, sms_nil (sms_nil (kk _ (M1.setQ .marking) (F1.set c.mq)))⟩⟩))))
    cases a with
    | start => exact marks _ (.inl rfl) kk
    | look => exact marks _ (.inr rfl) kk
    | fin =>
      refine sms_cons (sm_if (tm_cmp (em_v3 (em_tup (am_cons (em_str (am_cons (em_str (am_nil ⟨Nat.le_of_ble_eq_true rfl, v2_inT rfl rfl (asB (bif_FF (sms_cons (sm_if (tm_cmp (em_v3 (em_str (v2_eqS (asB (bif_FF (sms_cons (sm_if (tm_cmp (em_v3 (em_str (v2_eqS (asB (bif_FF (sms_cons (sm_if (tm_cmp (em_v3 (em_tup (am_cons (em_str (am_cons (em_str (am_nil ⟨Nat.le_of_ble_eq_true rfl, v2_inT rfl rfl (asB (bif_FF (sms_cons (sm_if (tm_cmp (em_v3 (em_str (v2_eqS (asB (bif_FF (sms_cons (sm_if (tm_cmp (em_v3 (em_str (v2_eqS (asB (bif_FF ?_))))))))))))))))))⟩))))))))))))))))))))))))))))⟩)))))))))
      exact sms_cons (sm_setD (room1 hr) (em_str (em_v1 (em_str ⟨c.q, kLM, _, .inr "phase", rfl, M.q, rfl, by decide, .inl ⟨5, by decide +kernel, by decide +kernel, sms_nil (sms_nil (sms_nil (sms_nil (sms_nil (sms_nil (sms_nil (kk _ (M.setQ .ended) (Fr.refl.set c.mq))))))))⟩⟩))))
    | load r s' f =>
      obtain ⟨_, hr', ⟨x, hs⟩, hf⟩ := g
      have hxl : x < m.rows.length := bh hs x rfl
      have hrow : m.rows[x]? = some m.rows[x] := List.getElem?_eq_getElem hxl
      generalize m.rows[x] = row at hrow
      have hwr : row.length = wd := ok.wide row (mem_of_get? hrow)
      have hrid : c.rs[x]? = some (c.rs[x]'(by rw [M.len]; exact hxl)) := List.getElem?_eq_getElem _
      generalize c.rs[x]'(by rw [M.len]; exact hxl) = ri at hrid
      have hfx : row[f]? = some (row[f]'(by omega)) := List.getElem?_eq_getElem _
      generalize row[f]'(by omega) = o at hfx
      have hpx : m.paint[x]? = some (m.paint[x]'(by rw [ok.paint]; exact hxl)) := List.getElem?_eq_getElem _
      generalize m.paint[x]'(by rw [ok.paint]; exact hxl) = cx at hpx
      have hcol : m.col x = cx := getD_of hpx
      have hatx : m.at_ x f = o := by
        unfold Mo.at_
        rw [getD_of hrow, getD_of hfx]
      have hm : stepMo (tabOf l cf b) wd m (.load r s' f) = (if (tabOf l cf b).has (.load, cx) = true then m.shaded [o] else m).holding r o := by
        show m.load (tabOf l cf b) r ((m.reg s').getD 0) f = _
        rw [rg hs]
        show m.load (tabOf l cf b) r x f = _
        unfold Mo.load
        rw [hcol, hatx]
      rw [hm] at kk
      refine sms_cons (sm_if (tm_cmp (em_v3 (em_tup (am_cons (em_str (am_cons (em_str (am_nil ⟨Nat.le_of_ble_eq_true rfl, v2_inT rfl rfl (asB (bif_FF (sms_cons (sm_if (tm_cmp (em_v3 (em_str (v2_eqS (asB (bif_TT ?_))))))))))⟩)))))))))
      refine sms_cons (sm_set 5 nd (em_ix (em_v4 (em_ix (em_v2 (em_int (vi_tup rfl (vi_ref M.h (hat hs) ?_))))))))
      refine sms_cut (fun ρ' s2 => ModelAt s2 c wd (if (tabOf l cf b).has (.load, cx) = true then m.shaded [o] else m) ∧ Fr c s s2 ∧ ρ' = [some (ruleD l cf b), some (.ref c.q), some (actD (.load r s' f)), some (.str "load"), some (.ref c.h), some (.int x)]) (sm_if (tm_cmp (em_tup (am_cons (em_str (am_cons (em_ix (em_md 3 (room1 hr) (em_v1 ⟨c.q, _, .ref c.p, rfl, M.q, rfl, em_v5 (vi_ref M.p (paint_atI hpx) (am_nil ⟨Nat.le_of_ble_eq_true rfl, em_ix (em_v0 (em_int (vi_tup atI_0 (v2_inE (e := (.load, cx)) (l := l) (room65 hr) (asB ?_)))))⟩))⟩))))))))) ?_
      · refine bif_d (fun h => ?_) fun h => ?_
        · rw [if_pos (show (tabOf l cf b).has (.load, cx) = true from decide_eq_true h)]
          refine sms_cons (sm_expr (em_call GS (hr.mono (by decide)) (am_cons (em_v1 (am_cons (em_ix (em_ix (em_md 1 (room1 hr) (em_v1 ⟨c.q, _, .ref c.a, rfl, M.q, rfl, em_v5 (vi_ref M.a (refs_at hrid) (em_ix (em_v2 (em_int (vi_tup rfl (vi_ref (M.rs x ri row hrid hrow) (row_at hfx) (am_nil ⟨c.q, c.p, _, m.paint, o, rfl, M.q, rfl, M.p, fun i hi => by rw [ok.paint]; exact ok.fld row (mem_of_get? hrow) o (mem_of_get? hfx) i hi, sms_nil ⟨M.setP _, Fr.refl.set c.mp, rfl⟩⟩)))))))⟩)))))))))
        · rw [if_neg (show ¬ (tabOf l cf b).has (.load, cx) = true from fun z => h (of_decide_eq_true z))]
          exact sms_nil ⟨M, Fr.refl, rfl⟩
      rintro ρ' s2 ⟨M2, F2, rfl⟩
      have h2r : (if (tabOf l cf b).has (.load, cx) = true then m.shaded [o] else m).rows = m.rows := by split <;> rfl
      have h2h : (if (tabOf l cf b).has (.load, cx) = true then m.shaded [o] else m).held = m.held := by split <;> rfl
      generalize (if (tabOf l cf b).has (.load, cx) = true then m.shaded [o] else m) = m2 at M2 h2r h2h kk
      refine sms_cons (sm_setL (em_ix (em_ix (em_md 1 (room1 hr) (em_v1 ⟨c.q, _, .ref c.a, rfl, M2.q, rfl, em_v5 (vi_ref M2.a (refs_at hrid) (em_ix (em_v2 (em_int (vi_tup rfl (vi_ref (M2.rs x ri row hrid (by rw [h2r]; exact hrow)) (row_at hfx) (em_v4 (em_ix (em_v2 (em_int (vi_tup rfl ⟨c.h, _, r, r, rfl, M2.h, rfl, ixN_at (by rw [List.length_map, h2h]; exact hr'), ?_⟩)))))))))))⟩)))))
      refine sms_nil (sms_nil (sms_nil (?_)))
      have e : MO.lst ((m2.held.map oD).set r (oD o)) = .lst ((m2.held.set r o).map oD) := by rw [List.map_set]
      rw [e]
      exact kk _ (M2.setH _) (F2.set c.mh)
    | store x f y =>
      obtain ⟨_, ⟨o, ho⟩, hf, hy⟩ := g
      have hm : ∀ y', y.bind m.reg = y' → stepMo (tabOf l cf b) wd m (.store x f y) = m.store (tabOf l cf b) o f y' := fun y' e => by
        show m.store (tabOf l cf b) ((m.reg x).getD 0) f (y.bind m.reg) = _
        rw [rg ho, e]
        rfl
      refine sms_cons (sm_if (tm_cmp (em_v3 (em_tup (am_cons (em_str (am_cons (em_str (am_nil ⟨Nat.le_of_ble_eq_true rfl, v2_inT rfl rfl (asB (bif_FF (sms_cons (sm_if (tm_cmp (em_v3 (em_str (v2_eqS (asB (bif_FF (sms_cons (sm_if (tm_cmp (em_v3 (em_str (v2_eqS (asB (bif_TT ?_))))))))))))))))))⟩)))))))))
      refine sms_cons (sm_expr (em_call GT hr (am_cons (em_v0 (am_cons (em_v1 (am_cons (em_ix (em_v4 (em_ix (em_v2 (em_int (vi_tup rfl (vi_ref M.h (hat ho) (am_cons (em_ix (em_v2 (em_int (vi_tup rfl (am_cons (em_if (tm_cmp (em_ix (em_v2 (em_int (vi_tup rfl (em_non (v2_isN (asB ?_)))))))))))))))))))))))))))))
      cases y with
      | none => exact bif_TT (em_non (am_nil ⟨l, cf, b, c, wd, m, o, f, none, rfl, M, ok, bh ho o rfl, hf, (fun i h => nomatch h), fun s' h1 h2 => sms_nil (sms_nil (sms_nil (sms_nil (kk _ (by rw [hm none rfl]; exact h1) h2))))⟩))
      | some r =>
        obtain ⟨o', ho'⟩ := hy r rfl
        exact bif_FF (em_ix (em_v4 (em_ix (em_v2 (em_int (vi_tup rfl (vi_ref M.h (hat ho') (am_nil ⟨l, cf, b, c, wd, m, o, f, some o', rfl, M, ok, bh ho o rfl, hf, bh ho', fun s' h1 h2 => sms_nil (sms_nil (sms_nil (sms_nil (kk _ (by rw [hm (some o') (rg ho')]; exact h1) h2))))⟩))))))))
    | move r s' =>
      obtain ⟨_, hr', _, o, ho⟩ := g
      refine sms_cons (sm_if (tm_cmp (em_v3 (em_tup (am_cons (em_str (am_cons (em_str (am_nil ⟨Nat.le_of_ble_eq_true rfl, v2_inT rfl rfl (asB (bif_FF (sms_cons (sm_if (tm_cmp (em_v3 (em_str (v2_eqS (asB (bif_FF (sms_cons (sm_if (tm_cmp (em_v3 (em_str (v2_eqS (asB (bif_FF (sms_cons (sm_if (tm_cmp (em_v3 (em_tup (am_cons (em_str (am_cons (em_str (am_nil ⟨Nat.le_of_ble_eq_true rfl, v2_inT rfl rfl (asB (bif_TT ?_))⟩))))))))))))))))))))))))))))⟩)))))))))
      refine sms_cons (sm_setL (em_if (tm_cmp (em_v3 (em_str (v2_eqS (asB (bif_TT (em_ix (em_v4 (em_ix (em_v2 (em_int (vi_tup rfl (vi_ref M.h (hat ho) (em_v4 (em_ix (em_v2 (em_int (vi_tup rfl ⟨c.h, _, r, r, rfl, M.h, rfl, ixN_at (by rw [List.length_map]; exact hr'), ?_⟩))))))))))))))))))))
      refine sms_nil (sms_nil (sms_nil (sms_nil (sms_nil (?_)))))
      have e : MO.lst ((m.held.map oD).set r (oD (some o))) = .lst ((m.held.set r (m.reg s')).map oD) := by rw [List.map_set, rg ho]
      rw [e]
      exact kk _ (M.setH _) (Fr.refl.set c.mh)
    | clear r =>
      obtain ⟨_, o, ho⟩ := g
      refine sms_cons (sm_if (tm_cmp (em_v3 (em_tup (am_cons (em_str (am_cons (em_str (am_nil ⟨Nat.le_of_ble_eq_true rfl, v2_inT rfl rfl (asB (bif_FF (sms_cons (sm_if (tm_cmp (em_v3 (em_str (v2_eqS (asB (bif_FF (sms_cons (sm_if (tm_cmp (em_v3 (em_str (v2_eqS (asB (bif_FF (sms_cons (sm_if (tm_cmp (em_v3 (em_tup (am_cons (em_str (am_cons (em_str (am_nil ⟨Nat.le_of_ble_eq_true rfl, v2_inT rfl rfl (asB (bif_TT ?_))⟩))))))))))))))))))))))))))))⟩)))))))))
      refine sms_cons (sm_setL (em_if (tm_cmp (em_v3 (em_str (v2_eqS (asB (bif_FF (em_non (em_v4 (em_ix (em_v2 (em_int (vi_tup rfl ⟨c.h, _, r, r, rfl, M.h, rfl, ixN_at (by rw [List.length_map]; exact get_lt ho), ?_⟩))))))))))))))
      refine sms_nil (sms_nil (sms_nil (sms_nil (sms_nil (?_)))))
      have e : MO.lst ((m.held.map oD).set r .non) = .lst ((m.held.set r none).map oD) := by rw [List.map_set]; rfl
      rw [e]
      exact kk _ (M.setH _) (Fr.refl.set c.mh)
    | new r =>
      obtain ⟨_, hr', _⟩ := g
      refine sms_cons (sm_if (tm_cmp (em_v3 (em_tup (am_cons (em_str (am_cons (em_str (am_nil ⟨Nat.le_of_ble_eq_true rfl, v2_inT rfl rfl (asB (bif_FF (sms_cons (sm_if (tm_cmp (em_v3 (em_str (v2_eqS (asB (bif_FF (sms_cons (sm_if (tm_cmp (em_v3 (em_str (v2_eqS (asB (bif_FF (sms_cons (sm_if (tm_cmp (em_v3 (em_tup (am_cons (em_str (am_cons (em_str (am_nil ⟨Nat.le_of_ble_eq_true rfl, v2_inT rfl rfl (asB (bif_FF (sms_cons (sm_if (tm_cmp (em_v3 (em_str (v2_eqS (asB (bif_TT ?_))))))))))⟩))))))))))))))))))))))))))))⟩)))))))))
      refine sms_cons (sm_expr (em_call GM (hr.mono (by decide)) (am_cons (em_v0 (am_cons (em_v1 (am_cons (em_ix (em_v2 (em_int (vi_tup rfl (am_nil ⟨l, cf, b, c, wd, m, r, rfl, M, ok, hr', fun s' c' h1 h2 h3 h4 => sms_nil (sms_nil (sms_nil (sms_nil (sms_nil (sms_nil (k s' c' h1 h2 h3 h4))))))⟩))))))))))))
    | scan x =>
      obtain ⟨_, _, hg⟩ := g
      have hxl : x < m.rows.length := by rw [← ok.paint]; exact get_lt hg
      refine sms_cons (sm_if (tm_cmp (em_v3 (em_tup (am_cons (em_str (am_cons (em_str (am_nil ⟨Nat.le_of_ble_eq_true rfl, v2_inT rfl rfl (asB (bif_FF (sms_cons (sm_if (tm_cmp (em_v3 (em_str (v2_eqS (asB (bif_FF (sms_cons (sm_if (tm_cmp (em_v3 (em_str (v2_eqS (asB (bif_FF (sms_cons (sm_if (tm_cmp (em_v3 (em_tup (am_cons (em_str (am_cons (em_str (am_nil ⟨Nat.le_of_ble_eq_true rfl, v2_inT rfl rfl (asB (bif_FF (sms_cons (sm_if (tm_cmp (em_v3 (em_str (v2_eqS (asB (bif_FF (sms_cons (sm_if (tm_cmp (em_v3 (em_str (v2_eqS (asB (bif_TT ?_))))))))))))))))))⟩))))))))))))))))))))))))))))⟩)))))))))
      refine sms_cons (sm_expr (em_call GC hr (am_cons (em_v1 (am_cons (em_v2 (am_nil ⟨c, wd, m, .scan x, x, List.range wd, List.range wd, rfl, .inl ⟨rfl, rfl⟩, M, ok, hg, List.pairwise_lt_range, fun k => ?_, fun s' h1 h2 => ?_⟩)))))))
      · constructor
        · exact .inr
        · rintro (h | h)
          · exact List.mem_range.mpr ((ok.vis _ (mem_of_get? (seen_of (by rw [ok.seen]; exact hxl)))).2 k h)
          · exact h
      · refine sms_nil (sms_nil (sms_nil (sms_nil (sms_nil (sms_nil (sms_nil (kk _ ?_ h2)))))))
        rw [row_map ok hxl] at h1
        exact h1
    | scanF x f =>
      obtain ⟨_, _, hg, hf, hn⟩ := g
      have hxl : x < m.rows.length := by rw [← ok.paint]; exact get_lt hg
      have hl := mem_of_get? (seen_of (m := m) (x := x) (by rw [ok.seen]; exact hxl))
      refine sms_cons (sm_if (tm_cmp (em_v3 (em_tup (am_cons (em_str (am_cons (em_str (am_nil ⟨Nat.le_of_ble_eq_true rfl, v2_inT rfl rfl (asB (bif_FF (sms_cons (sm_if (tm_cmp (em_v3 (em_str (v2_eqS (asB (bif_FF (sms_cons (sm_if (tm_cmp (em_v3 (em_str (v2_eqS (asB (bif_FF (sms_cons (sm_if (tm_cmp (em_v3 (em_tup (am_cons (em_str (am_cons (em_str (am_nil ⟨Nat.le_of_ble_eq_true rfl, v2_inT rfl rfl (asB (bif_FF (sms_cons (sm_if (tm_cmp (em_v3 (em_str (v2_eqS (asB (bif_FF (sms_cons (sm_if (tm_cmp (em_v3 (em_str (v2_eqS (asB (bif_TT ?_))))))))))))))))))⟩))))))))))))))))))))))))))))⟩)))))))))
      refine sms_cons (sm_expr (em_call GC hr (am_cons (em_v1 (am_cons (em_v2 (am_nil ⟨c, wd, m, .scanF x f, x, [f], ins1 f (m.seen.getD x []), rfl, .inr ⟨f, hf, rfl, rfl⟩, M, ok, hg, ins1_lt (so _ hl) (ok.vis _ hl).1 hn, fun k => ?_, fun s' h1 h2 => ?_⟩)))))))
      · rw [(ins1_perm f _).mem_iff, List.mem_append]
      · exact sms_nil (sms_nil (sms_nil (sms_nil (sms_nil (sms_nil (sms_nil (kk _ h1 h2)))))))
end Sg
end T_Q11

section T_R1
set_option autoImplicit true
set_option maxRecDepth 100000
set_option maxHeartbeats 4000000
namespace Sg
open PySem L2 Mp
/-! ### the plain law: one step -/
def Col.rank : Col → Nat
  | .w => 0 | .g => 1 | .b => 2
theorem shade1_rank {p : List Col} {o : Option Nat} {x : Nat} {c c' : Col} (h : p[x]? = some c) (h' : (shade1 p o)[x]? = some c') : c.rank ≤ c'.rank := by
  cases o with
  | none => rw [show shade1 p none = p from rfl, h] at h'; cases h'; exact Nat.le_refl _
  | some y =>
    unfold shade1 at h'
    dsimp only at h'
    split at h'
    · rename_i hw
      rw [List.getElem?_set] at h'
      split at h'
      · rename_i e
        subst e
        rw [h] at hw
        cases hw
        exact Nat.zero_le _
      · rw [h] at h'; cases h'; exact Nat.le_refl _
    · rw [h] at h'; cases h'; exact Nat.le_refl _
theorem get_of_len {α : Type} {l : List α} {x : Nat} (h : x < l.length) : ∃ a, l[x]? = some a := ⟨l[x], List.getElem?_eq_getElem h⟩
theorem shadeAll_rank {x : Nat} : ∀ (l : Row) {p : List Col} {c c' : Col}, p[x]? = some c → (shadeAll p l)[x]? = some c' → c.rank ≤ c'.rank
  | [], p, c, c', h, h' => by rw [show shadeAll p [] = p from rfl, h] at h'; cases h'; exact Nat.le_refl _
  | o :: l, p, c, c', h, h' => by
    obtain ⟨c2, e2⟩ := get_of_len (l := shade1 p o) (x := x) (by rw [shade1_len]; exact get_lt h)
    exact Nat.le_trans (shade1_rank h e2) (shadeAll_rank l (p := shade1 p o) e2 h')
/-- what is shaded is no longer white -/
theorem shade1_dark {p : List Col} {i : Nat} (hi : i < p.length) : ∃ c, (shade1 p (some i))[i]? = some c ∧ c ≠ .w := by
  unfold shade1
  dsimp only
  split
  · exact ⟨.g, by rw [List.getElem?_set, if_pos rfl, if_pos hi], fun z => nomatch z⟩
  · rename_i h
    obtain ⟨c, e⟩ := get_of_len hi
    exact ⟨c, e, fun z => h (by rw [e, z])⟩
theorem dark_of_rank {c c' : Col} (h : c ≠ .w) (hr : c.rank ≤ c'.rank) : c' ≠ .w := by
  rintro rfl
  cases c with
  | w => exact h rfl
  | g => exact absurd hr (by decide)
  | b => exact absurd hr (by decide)
theorem shadeAll_dark {i : Nat} : ∀ (l : Row) {p : List Col}, i < p.length → some i ∈ l → ∃ c, (shadeAll p l)[i]? = some c ∧ c ≠ .w
  | [], _, _, h => nomatch h
  | o :: l, p, hi, h => by
    rcases List.mem_cons.mp h with e | e
    · subst e
      obtain ⟨c, h1, h2⟩ := shade1_dark hi
      obtain ⟨c', h3⟩ := get_of_len (l := shadeAll (shade1 p (some i)) l) (x := i) (by rw [shadeAll_len, shade1_len]; exact hi)
      exact ⟨c', h3, dark_of_rank h2 (shadeAll_rank l h1 h3)⟩
    · exact shadeAll_dark l (p := shade1 p o) (by rw [shade1_len]; exact hi) e
/-- what is not named stays white -/
theorem shade1_white {p : List Col} {x : Nat} (o : Option Nat) (h : p[x]? = some .w) (hn : o ≠ some x) : (shade1 p o)[x]? = some .w := by
  cases o with
  | none => exact h
  | some y =>
    unfold shade1
    dsimp only
    split
    · rw [List.getElem?_set, if_neg (fun e => hn (by rw [e]))]; exact h
    · exact h
theorem shadeAll_white {x : Nat} : ∀ (l : Row) {p : List Col}, p[x]? = some .w → some x ∉ l → (shadeAll p l)[x]? = some .w
  | [], _, h, _ => h
  | o :: l, p, h, hn => shadeAll_white l (p := shade1 p o) (shade1_white o h fun e => hn (by rw [e]; exact List.mem_cons_self)) fun e => hn (List.mem_cons_of_mem _ e)
theorem col_get {m : Mo} {x : Nat} {c : Col} (h : m.paint[x]? = some c) : m.col x = c := getD_of h
theorem set_rank {p : List Col} {y x : Nat} {d c c' : Col} (h : p[x]? = some c) (h' : (p.set y d)[x]? = some c') (hd : x = y → c.rank ≤ d.rank) : c.rank ≤ c'.rank := by
  rw [List.getElem?_set] at h'
  split at h'
  · rename_i e
    split at h'
    · cases h'; exact hd e.symm
    · cases h'
  · rw [h] at h'; cases h'; exact Nat.le_refl _
/-- darker, but for a source that is opened again -/
theorem step_shades {fl b : Bool} {wd : Nat} {m : Mo} {a : Act} {t : Tab} (g : Good fl b wd m a) : ∀ x c c', m.paint[x]? = some c → (stepMo t wd m a).paint[x]? = some c' → c'.rank < c.rank → ∃ x' f y, a = .store x' f y ∧ m.held[x']? = some (some x) ∧ t.has (.source, c) = true := by
  intro x c c' h h' hlt
  have no : c.rank ≤ c'.rank → False := fun z => by omega
  have same : (stepMo t wd m a).paint = m.paint → False := fun e => by
    rw [e, h] at h'
    cases h'
    omega
  cases a with
  | start => exact (no (shadeAll_rank m.held h h')).elim
  | look => exact (no (shadeAll_rank m.held h h')).elim
  | fin => exact (same rfl).elim
  | move r s => exact (same rfl).elim
  | clear r => exact (same rfl).elim
  | load r s f =>
    have h' : (m.load t r ((m.reg s).getD 0) f).paint[x]? = some c' := h'
    unfold Mo.load at h'
    split at h'
    · exact (no (shadeAll_rank _ h h')).elim
    · exact (same (by show (m.load t r ((m.reg s).getD 0) f).paint = _; unfold Mo.load; rename_i e; rw [if_neg e]; rfl)).elim
  | new r =>
    have h' : (m.paint ++ [t.fresh])[x]? = some c' := h'
    rw [List.getElem?_append_left (get_lt h), h] at h'
    cases h'
    omega
  | scan x' =>
    have h' : ((shadeAll m.paint (m.rows.getD x' [])).set x' (if (List.range wd).length = (m.rows.getD x' []).length then .b else .g))[x]? = some c' := h'
    obtain ⟨c2, e2⟩ := get_of_len (l := shadeAll m.paint (m.rows.getD x' [])) (x := x) (by rw [shadeAll_len]; exact get_lt h)
    have r1 := shadeAll_rank _ h e2
    refine (no (Nat.le_trans r1 (set_rank e2 h' fun e => ?_))).elim
    subst e
    have := shadeAll_grey (m.rows.getD x []) g.2.2
    rw [e2] at this
    cases this
    split <;> decide
  | scanF x' f =>
    have h' : ((shadeAll m.paint [m.at_ x' f]).set x' (if (ins1 f (m.seen.getD x' [])).length = (m.rows.getD x' []).length then .b else .g))[x]? = some c' := h'
    obtain ⟨c2, e2⟩ := get_of_len (l := shadeAll m.paint [m.at_ x' f]) (x := x) (by rw [shadeAll_len]; exact get_lt h)
    have r1 := shadeAll_rank _ h e2
    refine (no (Nat.le_trans r1 (set_rank e2 h' fun e => ?_))).elim
    subst e
    have := shadeAll_grey [m.at_ x f] g.2.2.1
    rw [e2] at this
    cases this
    split <;> decide
  | store x' f y =>
    obtain ⟨_, ⟨o, ho⟩, _, _⟩ := g
    have hreg : (m.reg x').getD 0 = o := by rw [reg_some ho]; rfl
    have h' : (m.store t ((m.reg x').getD 0) f (y.bind m.reg)).paint[x]? = some c' := h'
    rw [hreg] at h'
    unfold Mo.store at h'
    dsimp only at h'
    have h1 : ∀ (m2 : Mo) (q : Bool) (xs : Row) (c2 c3 : Col), m2.paint[x]? = some c2 → (if q = true then m2.shaded xs else m2).paint[x]? = some c3 → c2.rank ≤ c3.rank := fun m2 q xs c2 c3 e2 e3 => by
      split at e3
      · exact shadeAll_rank xs e2 e3
      · rw [e2] at e3; cases e3; exact Nat.le_refl _
    have len1 : ∀ (m2 : Mo) (q : Bool) (xs : Row), (if q = true then m2.shaded xs else m2).paint.length = m2.paint.length := fun m2 q xs => by
      split
      · exact shadeAll_len xs _
      · rfl
    generalize em1 : (m.storedAt o f (y.bind m.reg)) = m1 at h'
    have e1 : m1.paint[x]? = some c := by rw [← em1]; exact h
    obtain ⟨c2, e2⟩ := get_of_len (l := (if t.has (.old, m.col o) = true then m1.shaded [m.at_ o f] else m1).paint) (x := x) (by rw [len1]; exact get_lt e1)
    have r2 := h1 _ _ _ _ _ e1 e2
    generalize (if t.has (.old, m.col o) = true then m1.shaded [m.at_ o f] else m1) = m2 at h' e2
    obtain ⟨c3, e3⟩ := get_of_len (l := (if t.has (.new, m.col o) = true then m2.shaded [y.bind m.reg] else m2).paint) (x := x) (by rw [len1]; exact get_lt e2)
    have r3 := h1 _ _ _ _ _ e2 e3
    generalize (if t.has (.new, m.col o) = true then m2.shaded [y.bind m.reg] else m2) = m3 at h' e3
    split at h'
    · rename_i hs
      by_cases ex : x = o
      · subst ex
        rw [col_get h] at hs
        exact ⟨x', f, y, rfl, ho, hs⟩
      · have h' : (m3.paint.set o .g)[x]? = some c' := h'
        exact (no (Nat.le_trans r2 (Nat.le_trans r3 (set_rank e3 h' fun e => absurd e ex)))).elim
    · rw [e3] at h'
      cases h'
      exact (no (Nat.le_trans r2 r3)).elim
end Sg
end T_R1

section T_R2
set_option autoImplicit true
set_option maxRecDepth 100000
set_option maxHeartbeats 4000000
namespace Sg
open PySem L2 Mp
def ShadeOk (l : List Ent) (a : Act) (m m' : Mo) : Prop := ∀ x c c', m.paint[x]? = some c → m'.paint[x]? = some c' → c'.rank < c.rank → ∃ x' f y, a = .store x' f y ∧ m.held[x']? = some (some x) ∧ (Srt.source, c) ∈ l
def Dark (m : Mo) (sel : Row) : Prop := ∀ o ∈ sel, ∀ i, o = some i → ∃ c, m.paint[i]? = some c ∧ c ≠ .w
def ScanOk (m : Mo) : Act → Prop
  | .scan x => ∃ row, m.rows[x]? = some row ∧ row.length ≤ 100 ∧ Dark m row
  | .scanF x f => ∃ row o, m.rows[x]? = some row ∧ row[f]? = some o ∧ Dark m [o]
  | _ => True
theorem step_shadeok {fl b : Bool} {wd : Nat} {m : Mo} {a : Act} {l : List Ent} {cf : Col} (g : Good fl b wd m a) : ShadeOk l a m (stepMo (tabOf l cf b) wd m a) := fun x c c' h h' hlt => by
  obtain ⟨x', f, y, e, h1, h2⟩ := step_shades g x c c' h h' hlt
  exact ⟨x', f, y, e, h1, of_decide_eq_true h2⟩
theorem set_dark {p : List Col} {x i : Nat} {d : Col} (hd : d ≠ .w) (h : ∃ c, p[i]? = some c ∧ c ≠ .w) : ∃ c, (p.set x d)[i]? = some c ∧ c ≠ .w := by
  obtain ⟨c, h1, h2⟩ := h
  rw [List.getElem?_set]
  split
  · rename_i e
    subst e
    rw [if_pos (get_lt h1)]
    exact ⟨d, rfl, hd⟩
  · exact ⟨c, h1, h2⟩
theorem bg_dark (p : Prop) [Decidable p] : (if p then Col.b else Col.g) ≠ .w := by split <;> exact nofun
theorem step_scanok {fl b : Bool} {wd : Nat} {m : Mo} {a : Act} {t : Tab} (ok : m.Ok wd) (g : Good fl b wd m a) : ScanOk (stepMo t wd m a) a := by
  have w4 := ok.w4
  cases a with
  | scan x =>
    have hx : x < m.rows.length := by rw [← ok.paint]; exact get_lt g.2.2
    have hrow := row_of hx
    refine ⟨m.rows.getD x [], hrow, by rw [ok.len hx]; omega, fun o ho i e => ?_⟩
    subst e
    exact set_dark (bg_dark _) (shadeAll_dark _ (by rw [ok.paint]; exact ok.fld _ (mem_of_get? hrow) _ ho i rfl) ho)
  | scanF x f =>
    have hx : x < m.rows.length := by rw [← ok.paint]; exact get_lt g.2.2.1
    have hrow := row_of hx
    have hf := fld_at ok hx g.2.2.2.1
    refine ⟨m.rows.getD x [], m.at_ x f, hrow, hf, fun o ho i e => ?_⟩
    subst e
    have e1 := List.mem_singleton.mp ho
    exact set_dark (bg_dark _) (shadeAll_dark _ (by rw [ok.paint]; exact at_lt ok hx g.2.2.2.1 i e1.symm) ho)
  | _ => trivial
/-! well formed still -/
section
variable {wd : Nat} {m : Mo}
theorem Mo.Ok.shaded (ok : m.Ok wd) (xs : Row) : (m.shaded xs).Ok wd := ⟨by rw [shaded_ok]; exact ok.paint, ok.seen, ok.wide, ok.fld, ok.held, ok.few, ok.w4, ok.w1, ok.h1, ok.h6, ok.vis⟩
theorem Mo.Ok.inPhase (ok : m.Ok wd) (p : Ph) : (m.inPhase p).Ok wd := ⟨ok.paint, ok.seen, ok.wide, ok.fld, ok.held, ok.few, ok.w4, ok.w1, ok.h1, ok.h6, ok.vis⟩
theorem mem_set {α : Type} {l : List α} {i : Nat} {a b : α} (h : b ∈ l.set i a) : b ∈ l ∨ b = a := List.mem_or_eq_of_mem_set h
theorem Mo.Ok.holding (ok : m.Ok wd) (r : Nat) {x : Option Nat} (hx : ∀ i, x = some i → i < m.rows.length) : (m.holding r x).Ok wd :=
  ⟨ok.paint, ok.seen, ok.wide, ok.fld, fun o ho => (mem_set ho).elim (ok.held o) fun e => by rw [e]; exact hx, ok.few, ok.w4, ok.w1, by show 1 ≤ (m.held.set r x).length; rw [List.length_set]; exact ok.h1, by show (m.held.set r x).length ≤ 6; rw [List.length_set]; exact ok.h6, ok.vis⟩
theorem Mo.Ok.storedAt (ok : m.Ok wd) {x : Nat} (f : Nat) {y : Option Nat} (hx : x < m.rows.length) (hy : ∀ i, y = some i → i < m.rows.length) : (m.storedAt x f y).Ok wd := by
  have hl : (m.rows.set x ((m.rows.getD x []).set f y)).length = m.rows.length := List.length_set
  refine ⟨by show m.paint.length = (m.rows.set x _).length; rw [hl]; exact ok.paint, by show m.seen.length = (m.rows.set x _).length; rw [hl]; exact ok.seen, fun r hr => ?_, fun r hr o ho i e => ?_, fun o ho i e => ?_, ?_, ok.w4, ok.w1, ok.h1, ok.h6, ok.vis⟩
  · rcases mem_set hr with h | h
    · exact ok.wide r h
    · rw [h, List.length_set]; exact ok.len hx
  · show i < (m.rows.set x _).length
    rw [hl]
    rcases mem_set hr with h | h
    · exact ok.fld r h o ho i e
    · rw [h] at ho
      rcases mem_set ho with h2 | h2
      · exact ok.fld _ (mem_of_get? (row_of hx)) o h2 i e
      · exact hy i (by rw [← h2]; exact e)
  · show i < (m.rows.set x _).length
    rw [hl]
    exact ok.held o ho i e
  · show (m.rows.set x _).length ≤ 40
    rw [hl]; exact ok.few
theorem Mo.Ok.reopened (ok : m.Ok wd) (x : Nat) : (m.reopened x).Ok wd :=
  ⟨by show (m.paint.set x .g).length = _; rw [List.length_set]; exact ok.paint, by show (m.seen.set x []).length = _; rw [List.length_set]; exact ok.seen, ok.wide, ok.fld, ok.held, ok.few, ok.w4, ok.w1, ok.h1, ok.h6, fun l hl => (mem_set hl).elim (ok.vis l) fun e => by rw [e]; exact ⟨List.nodup_nil, nofun⟩⟩
theorem Mo.Ok.withVisited (ok : m.Ok wd) (x : Nat) {fs : List Nat} (h1 : fs.Nodup) (h2 : ∀ i ∈ fs, i < wd) : (m.withVisited x fs).Ok wd :=
  ⟨by show (m.paint.set x _).length = _; rw [List.length_set]; exact ok.paint, by show (m.seen.set x fs).length = _; rw [List.length_set]; exact ok.seen, ok.wide, ok.fld, ok.held, ok.few, ok.w4, ok.w1, ok.h1, ok.h6, fun l hl => (mem_set hl).elim (ok.vis l) fun e => by rw [e]; exact ⟨h1, h2⟩⟩
theorem Mo.Ok.grown (ok : m.Ok wd) (r : Nat) (c : Col) (h40 : m.rows.length < 40) : (m.grown r wd c).Ok wd := by
  have hl : (m.rows ++ [List.replicate wd none]).length = m.rows.length + 1 := List.length_append
  refine ⟨by show (m.paint ++ [c]).length = (m.rows ++ [_]).length; rw [hl, List.length_append, ok.paint]; rfl, by show (m.seen ++ [_]).length = (m.rows ++ [_]).length; rw [hl, List.length_append, ok.seen]; rfl, fun q hq => ?_, fun q hq o ho i e => ?_, fun o ho i e => ?_, ?_, ok.w4, ok.w1, by show 1 ≤ (m.held.set r _).length; rw [List.length_set]; exact ok.h1, by show (m.held.set r _).length ≤ 6; rw [List.length_set]; exact ok.h6, fun l hl => ?_⟩
  · rcases List.mem_append.mp hq with h | h
    · exact ok.wide q h
    · rw [List.mem_singleton.mp h, List.length_replicate]
  · show i < (m.rows ++ [_]).length
    rw [hl]
    rcases List.mem_append.mp hq with h | h
    · exact Nat.lt_succ_of_lt (ok.fld q h o ho i e)
    · rw [List.mem_singleton.mp h] at ho
      rw [List.eq_of_mem_replicate ho] at e
      cases e
  · show i < (m.rows ++ [_]).length
    rw [hl]
    rcases mem_set ho with h | h
    · exact Nat.lt_succ_of_lt (ok.held o h i e)
    · rw [h] at e
      cases e
      exact Nat.lt_succ_self _
  · show (m.rows ++ [_]).length ≤ 40
    rw [hl]; omega
  · rcases List.mem_append.mp hl with h | h
    · exact ok.vis l h
    · rw [List.mem_singleton.mp h]
      split
      · exact ⟨List.nodup_range, fun i hi => List.mem_range.mp hi⟩
      · exact ⟨List.nodup_nil, nofun⟩
theorem SeenOk.set {x : Nat} {fs : List Nat} (so : SeenOk m) (h : fs.Pairwise (· ≤ ·)) : ∀ l ∈ m.seen.set x fs, l.Pairwise (· ≤ ·) := fun l hl => (mem_set hl).elim (so l) fun e => by rw [e]; exact h
end
theorem step_store_parts (t : Tab) (m : Mo) (x f : Nat) (y : Option Nat) (P : Mo → Prop) (h0 : P (m.storedAt x f y)) (h1 : ∀ m', P m' → P (m'.shaded [m.at_ x f])) (h2 : ∀ m', P m' → P (m'.shaded [y])) (h3 : ∀ m', P m' → P (m'.reopened x)) : P (m.store t x f y) := by
  unfold Mo.store
  dsimp only
  have a1 : P (if t.has (.old, m.col x) = true then (m.storedAt x f y).shaded [m.at_ x f] else m.storedAt x f y) := by
    split
    · exact h1 _ h0
    · exact h0
  generalize (if t.has (.old, m.col x) = true then (m.storedAt x f y).shaded [m.at_ x f] else m.storedAt x f y) = m1 at a1
  have a2 : P (if t.has (.new, m.col x) = true then m1.shaded [y] else m1) := by
    split
    · exact h2 _ a1
    · exact a1
  generalize (if t.has (.new, m.col x) = true then m1.shaded [y] else m1) = m2 at a2
  split
  · exact h3 _ a2
  · exact a2
theorem step_ok {fl b : Bool} {wd : Nat} {m : Mo} {a : Act} {t : Tab} (ok : m.Ok wd) (so : SeenOk m) (g : Good fl b wd m a) : (stepMo t wd m a).Ok wd ∧ SeenOk (stepMo t wd m a) := by
  cases a with
  | start => exact ⟨(ok.shaded _).inPhase _, so⟩
  | look => exact ⟨(ok.shaded _).inPhase _, so⟩
  | fin => exact ⟨ok.inPhase _, so⟩
  | move r s => exact ⟨ok.holding _ (reg_lt ok), so⟩
  | clear r => exact ⟨ok.holding _ nofun, so⟩
  | new r =>
    refine ⟨ok.grown _ _ g.2.2, fun l hl => ?_⟩
    rcases List.mem_append.mp hl with h | h
    · exact so l h
    · rw [List.mem_singleton.mp h]
      split
      · exact List.pairwise_le_range
      · exact List.Pairwise.nil
  | load r s f =>
    obtain ⟨_, _, ⟨x, hs⟩, hf⟩ := g
    have hx : x < m.rows.length := ok.held _ (mem_of_get? hs) x rfl
    show (m.load t r ((m.reg s).getD 0) f).Ok wd ∧ SeenOk (m.load t r ((m.reg s).getD 0) f)
    rw [reg_some hs]
    show (m.load t r x f).Ok wd ∧ SeenOk (m.load t r x f)
    unfold Mo.load
    split
    · exact ⟨(ok.shaded _).holding _ (at_lt ok hx hf), so⟩
    · exact ⟨ok.holding _ (at_lt ok hx hf), so⟩
  | store x f y =>
    obtain ⟨_, ⟨o, ho⟩, hf, hy⟩ := g
    have hx : o < m.rows.length := ok.held _ (mem_of_get? ho) o rfl
    show (m.store t ((m.reg x).getD 0) f (y.bind m.reg)).Ok wd ∧ SeenOk (m.store t ((m.reg x).getD 0) f (y.bind m.reg))
    rw [reg_some ho]
    refine step_store_parts t m o f (y.bind m.reg) (fun m' => m'.Ok wd ∧ SeenOk m') ⟨ok.storedAt f hx fun i e => ?_, so⟩ (fun m' h => ⟨h.1.shaded _, h.2⟩) (fun m' h => ⟨h.1.shaded _, h.2⟩) (fun m' h => ⟨h.1.reopened _, h.2.set List.Pairwise.nil⟩)
    cases y with
    | none => cases e
    | some r => exact reg_lt ok i e
  | scan x =>
    exact ⟨(ok.shaded _).withVisited _ List.nodup_range fun i hi => List.mem_range.mp hi, SeenOk.set (m := m.shaded _) so List.pairwise_le_range⟩
  | scanF x f =>
    obtain ⟨_, _, hg, hf, hn⟩ := g
    have hx : x < m.seen.length := by rw [ok.seen, ← ok.paint]; exact get_lt hg
    have hl := mem_of_get? (seen_of hx)
    have h1 := ins1_lt (so _ hl) (ok.vis _ hl).1 hn
    refine ⟨(ok.shaded _).withVisited _ (h1.imp fun h => Nat.ne_of_lt h) fun i hi => ?_, SeenOk.set (m := m.shaded _) so (h1.imp fun h => Nat.le_of_lt h)⟩
    rcases List.mem_append.mp ((ins1_perm f _).mem_iff.mp hi) with h | h
    · exact (ok.vis _ hl).2 i h
    · rw [List.mem_singleton.mp h]; exact hf
/-! what lies apart stays apart -/
structure Apart (U : Nat → Prop) (n : Nat) (m : Mo) : Prop where
  lt : ∀ u, U u → u < n
  many : n ≤ m.rows.length
  white : ∀ u, U u → m.paint[u]? = some .w
  held : ∀ u, some u ∈ m.held → ¬ U u
  fld : ∀ (k : Nat) (row : Row), m.rows[k]? = some row → ¬ U k → ∀ u, some u ∈ row → ¬ U u
section
variable {U : Nat → Prop} {n : Nat} {m : Mo}
theorem Apart.shaded (h : Apart U n m) {xs : Row} (hx : ∀ u, some u ∈ xs → ¬ U u) : Apart U n (m.shaded xs) := ⟨h.lt, h.many, fun u hu => shadeAll_white xs (h.white u hu) fun z => hx u z hu, h.held, h.fld⟩
theorem Apart.inPhase (h : Apart U n m) (p : Ph) : Apart U n (m.inPhase p) := ⟨h.lt, h.many, h.white, h.held, h.fld⟩
theorem Apart.holding (h : Apart U n m) (r : Nat) {x : Option Nat} (hx : ∀ u, x = some u → ¬ U u) : Apart U n (m.holding r x) := ⟨h.lt, h.many, h.white, fun u hu => (mem_set hu).elim (h.held u) fun e => hx u e.symm, h.fld⟩
theorem Apart.paintSet (h : Apart U n m) {x : Nat} (c : Col) (sn : List (List Nat)) (hx : ¬ U x) : Apart U n { m with paint := m.paint.set x c, seen := sn } := ⟨h.lt, h.many, fun u hu => by
  show (m.paint.set x c)[u]? = some .w
  rw [List.getElem?_set, if_neg fun e : x = u => hx (by rw [e]; exact hu)]
  exact h.white u hu, h.held, h.fld⟩
theorem Apart.storedAt (h : Apart U n m) {x : Nat} (f : Nat) {y : Option Nat} (hx : ¬ U x) (hl : x < m.rows.length) (hy : ∀ u, y = some u → ¬ U u) : Apart U n (m.storedAt x f y) := by
  refine ⟨h.lt, by show n ≤ (m.rows.set x _).length; rw [List.length_set]; exact h.many, h.white, h.held, fun k row hk nk u hu => ?_⟩
  have hk : (m.rows.set x ((m.rows.getD x []).set f y))[k]? = some row := hk
  rw [List.getElem?_set] at hk
  split at hk
  · rename_i e
    subst e
    rename_i hk2
    cases hk2
    rcases mem_set hu with z | z
    · exact h.fld x _ (row_of hl) nk u z
    · exact hy u z.symm
  · exact h.fld k row hk nk u hu
theorem Apart.grown (h : Apart U n m) (r wd : Nat) (c : Col) (hp : n ≤ m.paint.length) : Apart U n (m.grown r wd c) := by
  refine ⟨h.lt, by show n ≤ (m.rows ++ [_]).length; rw [List.length_append]; exact Nat.le_succ_of_le h.many, fun u hu => ?_, fun u hu => ?_, fun k row hk nk u hu => ?_⟩
  · show (m.paint ++ [c])[u]? = _
    rw [List.getElem?_append_left (Nat.lt_of_lt_of_le (h.lt u hu) hp)]
    exact h.white u hu
  · rcases mem_set hu with z | z
    · exact h.held u z
    · cases z
      intro q
      exact absurd (h.lt _ q) (Nat.not_lt_of_le h.many)
  · have hk : (m.rows ++ [List.replicate wd none])[k]? = some row := hk
    by_cases e : k < m.rows.length
    · rw [List.getElem?_append_left e] at hk
      exact h.fld k row hk nk u hu
    · rw [List.getElem?_append_right (Nat.le_of_not_lt e)] at hk
      have := List.mem_singleton.mp (mem_of_get? hk)
      rw [this] at hu
      cases List.eq_of_mem_replicate hu
theorem reg_mem {r u : Nat} (h : m.reg r = some u) : some u ∈ m.held := by
  unfold Mo.reg at h
  rw [List.getD_eq_getElem?_getD] at h
  cases e : m.held[r]? with
  | none => rw [e] at h; cases h
  | some o =>
    rw [e] at h
    have h : o = some u := h
    rw [← h]
    exact mem_of_get? e
theorem Apart.at_ (h : Apart U n m) {wd x f : Nat} (ok : m.Ok wd) (hx : x < m.rows.length) (hf : f < wd) (nx : ¬ U x) : ∀ u, m.at_ x f = some u → ¬ U u := fun u e => h.fld x _ (row_of hx) nx u (by rw [← e]; exact mem_of_get? (fld_at ok hx hf))
theorem step_apart {fl b : Bool} {wd : Nat} {a : Act} {t : Tab} (h : Apart U n m) (ok : m.Ok wd) (g : Good fl b wd m a) : Apart U n (stepMo t wd m a) := by
  have one : ∀ {y : Option Nat}, (∀ u, y = some u → ¬ U u) → ∀ u, some u ∈ [y] → ¬ U u := fun hy u hu => hy u (List.mem_singleton.mp hu).symm
  cases a with
  | start => exact (h.shaded h.held).inPhase _
  | look => exact (h.shaded h.held).inPhase _
  | fin => exact h.inPhase _
  | move r s => exact h.holding _ fun u e => h.held u (reg_mem e)
  | clear r => exact h.holding _ nofun
  | new r => exact h.grown _ _ _ (by rw [ok.paint]; exact h.many)
  | load r s f =>
    obtain ⟨_, _, ⟨x, hs⟩, hf⟩ := g
    have hx : x < m.rows.length := ok.held _ (mem_of_get? hs) x rfl
    have nx : ¬ U x := h.held x (mem_of_get? hs)
    show Apart U n (m.load t r ((m.reg s).getD 0) f)
    rw [reg_some hs]
    show Apart U n (m.load t r x f)
    unfold Mo.load
    split
    · exact (h.shaded (one (h.at_ ok hx hf nx))).holding _ (h.at_ ok hx hf nx)
    · exact h.holding _ (h.at_ ok hx hf nx)
  | store x f y =>
    obtain ⟨_, ⟨o, ho⟩, hf, hy⟩ := g
    have hx : o < m.rows.length := ok.held _ (mem_of_get? ho) o rfl
    have nx : ¬ U o := h.held o (mem_of_get? ho)
    show Apart U n (m.store t ((m.reg x).getD 0) f (y.bind m.reg))
    rw [reg_some ho]
    have ny : ∀ u, y.bind m.reg = some u → ¬ U u := fun u e => by
      cases y with
      | none => cases e
      | some r => exact h.held u (reg_mem e)
    exact step_store_parts t m o f (y.bind m.reg) (Apart U n) (h.storedAt f nx hx ny) (fun m' h' => h'.shaded (one (h.at_ ok hx hf nx))) (fun m' h' => h'.shaded (one ny)) (fun m' h' => h'.paintSet _ _ nx)
  | scan x =>
    have hx : x < m.rows.length := by rw [← ok.paint]; exact get_lt g.2.2
    have nx : ¬ U x := fun z => by
      have := h.white x z
      rw [g.2.2] at this
      cases this
    exact (h.shaded (h.fld x _ (row_of hx) nx)).paintSet _ _ nx
  | scanF x f =>
    have hx : x < m.rows.length := by rw [← ok.paint]; exact get_lt g.2.2.1
    have nx : ¬ U x := fun z => by
      have := h.white x z
      rw [g.2.2.1] at this
      cases this
    exact (h.shaded (one (h.at_ ok hx g.2.2.2.1 nx))).paintSet _ _ nx
theorem Apart.reach (h : Apart U n m) {x : Nat} (r : Reaches m.rows (m.held.filterMap id) x) : ¬ U x := by
  refine r.sub (R := fun x => ¬ U x) (fun x hx => ?_) fun x y nx hy => ?_
  · obtain ⟨o, ho, e⟩ := List.mem_filterMap.mp hx
    exact h.held x (by rw [← show o = some x from e]; exact ho)
  · unfold fieldsOf at hy
    rw [List.getD_eq_getElem?_getD] at hy
    cases e : m.rows[x]? with
    | none => rw [e] at hy; cases hy
    | some row => rw [e] at hy; exact h.fld x row e nx y hy
end
/-- at the start: what cannot be reached lies apart -/
theorem apart_first {rows : List Row} {held : Row} (U : Nat → Prop) (hU : ∀ u, U u ↔ u < rows.length ∧ ¬ Reaches rows (held.filterMap id) u) (hf : FldOk rows) (hh : ∀ o ∈ held, ∀ i, o = some i → i < rows.length) : Apart U rows.length (firstMo rows held) := by
  refine ⟨fun u h => ((hU u).mp h).1, Nat.le_refl _, fun u h => ?_, fun u hu z => ?_, fun k row hk nk u hu z => ?_⟩
  · show (List.replicate rows.length Col.w)[u]? = _
    rw [List.getElem?_replicate, if_pos ((hU u).mp h).1]
  · exact ((hU u).mp z).2 (.start (List.mem_filterMap.mpr ⟨some u, hu, rfl⟩))
  · have hk' : k < rows.length := get_lt hk
    have rk : Reaches rows (held.filterMap id) k := Classical.byContradiction fun q => nk ((hU k).mpr ⟨hk', q⟩)
    refine ((hU u).mp z).2 (.step rk ?_)
    unfold fieldsOf
    rw [getD_of (show rows[k]? = some row from hk)]
    exact hu
end Sg
end T_R2

section T_Q12
set_option autoImplicit true
set_option maxRecDepth 100000
set_option maxHeartbeats 4000000
namespace Sg
open PySem L2 Mp
variable {P : Program} {w : World} {K : PySem.W.Frag} {mg : Str → Option Value} {base : Heap}
abbrev lIsIndex : Stmt := top 90
abbrev lIsAct : Stmt := top 91
abbrev lNamed : Stmt := top 92
def wIdxL : Wt := fun ds s Φ => ∃ i : Int, ds = [.int i] ∧ Φ (.bl (decide (0 ≤ i))) s
theorem g_lindex (T : Tx K mg) (Df : DefG K mg "_law_is_index" lIsIndex) : GFn P w K mg base "_law_is_index" 1 wIdxL := by
  refine mkG (N := ["_law_thing"]) (ps := ["_law_thing"]) Df ⟨rfl, rfl, rfl, by decide +kernel, rfl, by decide +kernel, by decide +kernel⟩ (fun _ _ _ _ _ _ us hl => match us, hl with | [_], _ => rfl) (fun ds s Φ h => ?_) fun f cdv A outer sh H E hr ds s Φ h => ?_
  · obtain ⟨_, rfl, _⟩ := h
    rfl
  · obtain ⟨i, rfl, k⟩ := h
    refine sms_cons (sm_ret (em_and (em_callB (id := "isinstance") T.isinstance (am_cons (em_v0 (am_cons (em_bty (n := "int") T.int (am_nil (vc_isi (.int i) "int" "int" true (asB (bif_t ?_)))))))))))
    refine em_and (em_not (em_callB (id := "isinstance") T.isinstance (am_cons (em_v0 (am_cons (em_bty (n := "bool") T.bool (am_nil (vc_isi (.int i) "int" "bool" false (asB (asB (bif_t ?_)))))))))))
    exact em_one (em_cmp (em_v0 (em_int (v2_ge k))))
/-! acts as data -/
def oP : Option Nat → PyData
  | none => .none
  | some i => .int (i : Nat)
def Act.restP : Act → List PyData
  | .start => [] | .look => [] | .fin => []
  | .load r s f => [.int r, .int s, .int f]
  | .store x f y => [.int x, .int f, oP y]
  | .move r s => [.int r, .int s]
  | .clear r => [.int r]
  | .new r => [.int r]
  | .scan x => [.int x]
  | .scanF x f => [.int x, .int f]
def actP (a : Act) : PyData := .tuple (.str a.word :: a.restP)
theorem toP_act (a : Act) : toP (actD a) = some (actP a) := by
  cases a with
  | store x f y => cases y <;> rfl
  | _ => rfl
theorem shaped_act (a : Act) : SeqAt.shaped (actP a) = true := by
  have h0 : ∀ W : Str, PyData.canLay0 (.str W) = true → ∀ l : List PyData, PyData.canLayAll0 l = true → PyData.depthAll l = 0 → SeqAt.shaped (.tuple (.str W :: l)) = true := fun W hW l h1 h2 => by
    show ((PyData.canLay0 (.str W) && PyData.canLayAll0 l) && decide (max 0 (PyData.depthAll l) + 1 ≤ 64)) = true
    rw [hW, h1, h2]
    rfl
  cases a with
  | store x f y => cases y <;> exact h0 "store" (by decide +kernel) _ rfl rfl
  | start  => exact h0 "start" (by decide +kernel) _ rfl rfl
  | look  => exact h0 "look" (by decide +kernel) _ rfl rfl
  | fin  => exact h0 "end" (by decide +kernel) _ rfl rfl
  | load _ _ _ => exact h0 "load" (by decide +kernel) _ rfl rfl
  | move _ _ => exact h0 "move" (by decide +kernel) _ rfl rfl
  | clear _ => exact h0 "clear" (by decide +kernel) _ rfl rfl
  | new _ => exact h0 "new" (by decide +kernel) _ rfl rfl
  | scan _ => exact h0 "scan" (by decide +kernel) _ rfl rfl
  | scanF _ _ => exact h0 "scan" (by decide +kernel) _ rfl rfl
/-! sizes -/
def ksS : List Str := ["start", "load", "store", "move", "clear", "new", "look", "end"]
def valS : List Mp.D := [.int 1, .int 4, .int 4, .int 3, .int 2, .int 2, .int 1, .int 1]
theorem sizes_at (a : Act) (z : Mp.D) (h : ∀ x, ¬ IsScan a x) : getK (ksS.map Sum.inr) valS (.inr a.word) z = .int ((a.rest.length + 1 : Nat) : Int) := by
  have h0 : ∀ n W k, kIx (ksS.map Sum.inr : List Key) (.inr W) = some n → valS.getD n .non = .int k → getK (ksS.map Sum.inr) valS (.inr W) z = .int k := fun n W k h1 h2 => by
    rw [getK_some h1]
    exact h2
  cases a with
  | scan x => exact absurd (.inl rfl) (h x)
  | scanF x f => exact absurd (.inr ⟨f, rfl⟩) (h x)
  | start => exact h0 0 "start" _ (by decide +kernel) rfl
  | load r s f => exact h0 1 "load" _ (by decide +kernel) rfl
  | store r s f => exact h0 2 "store" _ (by decide +kernel) rfl
  | move r s => exact h0 3 "move" _ (by decide +kernel) rfl
  | clear r => exact h0 4 "clear" _ (by decide +kernel) rfl
  | new r => exact h0 5 "new" _ (by decide +kernel) rfl
  | look => exact h0 6 "look" _ (by decide +kernel) rfl
  | fin => exact h0 7 "end" _ (by decide +kernel) rfl
theorem sizes_scan (z : Mp.D) : getK (ksS.map Sum.inr) valS (.inr "scan") z = z := getK_none (by decide +kernel)
theorem word_scan {a : Act} (h : a.word = "scan") : ∃ x, IsScan a x := by
  cases a <;> first | exact ⟨_, .inl rfl⟩ | exact ⟨_, .inr ⟨_, rfl⟩⟩ | exact absurd h (show ("start" : Str) ≠ "scan" by decide +kernel) | exact absurd h (show ("look" : Str) ≠ "scan" by decide +kernel) | exact absurd h (show ("end" : Str) ≠ "scan" by decide +kernel) | exact absurd h (show ("load" : Str) ≠ "scan" by decide +kernel) | exact absurd h (show ("store" : Str) ≠ "scan" by decide +kernel) | exact absurd h (show ("move" : Str) ≠ "scan" by decide +kernel) | exact absurd h (show ("clear" : Str) ≠ "scan" by decide +kernel) | exact absurd h (show ("new" : Str) ≠ "scan" by decide +kernel)
theorem scan_word {a : Act} {x : Nat} (h : IsScan a x) : a.word = "scan" := by
  rcases h with rfl | ⟨f, rfl⟩ <;> rfl
theorem rest_nats (a : Act) (h : ∀ x f, a ≠ .store x f none) : ∃ ns : List Nat, ns.length ≤ 3 ∧ a.rest = ns.map natD := by
  cases a with
  | store x f y =>
    cases y with
    | none => exact absurd rfl (h x f)
    | some y => exact ⟨[x, f, y], Nat.le_of_ble_eq_true rfl, rfl⟩
  | start => exact ⟨[], Nat.le_of_ble_eq_true rfl, rfl⟩
  | look => exact ⟨[], Nat.le_of_ble_eq_true rfl, rfl⟩
  | fin => exact ⟨[], Nat.le_of_ble_eq_true rfl, rfl⟩
  | load r s f => exact ⟨[r, s, f], Nat.le_of_ble_eq_true rfl, rfl⟩
  | move r s => exact ⟨[r, s], Nat.le_of_ble_eq_true rfl, rfl⟩
  | clear r => exact ⟨[r], Nat.le_of_ble_eq_true rfl, rfl⟩
  | new r => exact ⟨[r], Nat.le_of_ble_eq_true rfl, rfl⟩
  | scan x => exact ⟨[x], Nat.le_of_ble_eq_true rfl, rfl⟩
  | scanF x f => exact ⟨[x, f], Nat.le_of_ble_eq_true rfl, rfl⟩
theorem filterF (l : List Mp.D) (v : Mp.D → Mp.D) : (l.filter fun _ => false).map v = [] := by
  rw [show l.filter (fun _ => false) = [] from List.filter_eq_nil_iff.mpr fun _ _ z => Bool.noConfusion z]
  rfl
theorem shaped_nil : SeqAt.shaped (.list []) = true := by
  have h := shaped_ints []
  exact h
def wIsActL : Wt := fun ds s Φ => ∃ (a : Act) (b : Bool), ds = [.str (modeS b), actD a] ∧ a.fits b ∧ Φ (.bl true) s
theorem g_lisact (T : Tx K mg) (GI : GFn P w K mg base "_law_is_index" 1 wIdxL) (Df : DefG K mg "_law_is_act" lIsAct) : GFn P w K mg base "_law_is_act" 2 wIsActL := by
  refine mkGD (N := ["_law_mode", "_law_act_here", "_law_sizes", "_law_some", "_law_one"]) (ps := ["_law_mode", "_law_act_here"]) Df ⟨rfl, rfl, rfl, by decide +kernel, rfl, by decide +kernel, by decide +kernel⟩ (fun _ _ _ _ _ _ us hl => match us, hl with | [_, _], _ => rfl) (fun ds s Φ h => ?_) fun fa cdv A outer sh H E hr ds s Φ h => ?_
  · obtain ⟨_, _, rfl, _⟩ := h
    rfl
  · obtain ⟨a, b, rfl, hf, k⟩ := h
    have nd : (["_law_mode", "_law_act_here", "_law_sizes", "_law_some", "_law_one"] : List Str).Nodup := by decide +kernel
    refine sms_cons (sm_if (tm_w (wm_or (tm_not (tm_val (em_callB (id := "isinstance") T.isinstance (am_cons (em_v1 (am_cons (em_bty (n := "tuple") T.tuple (am_nil (vc_isi (actD a) "tuple" "tuple" true (asB (bif_FF (wm_or ?_)))))))))))))))
    refine tm_cmp (em_v1 (em_tup (am_nil ⟨Nat.le_of_ble_eq_true rfl, v2_eqP (q := .tuple []) (room64 hr) (toP_act a) rfl (shaped_act a) rfl (k := false) rfl (asB (bif_f (wm_or1 (tm_not (tm_val ?_)))))⟩)))
    refine em_callB (id := "isinstance") T.isinstance (am_cons (em_ix (em_v1 (em_int (vi_tup (ds := .str a.word :: a.rest) (d := .str a.word) atI_0 (am_cons (em_bty (n := "str") T.str (am_nil (vc_isi (.str a.word) "str" "str" true (asB (bif_FF (sms_nil ?_))))))))))))
    refine sms_cons ?_
    generalize he : (Expr.Dict _ _ _) = ee
    refine sm_setE 2 he nd rfl ?_
    refine em_dispE he ksS (pps_s (pps_s (pps_s (pps_s (pps_s (pps_s (pps_s (pps_s pps_0)))))))) (by decide +kernel) ?_ (by decide)
    clear he
    refine pm_cons (em_int (pm_cons (em_int (pm_cons (em_int (pm_cons (em_int (pm_cons (em_int (pm_cons (em_int (pm_cons (em_int (pm_cons (em_int (pm_nil ⟨get_last _ _, rfl, ?_⟩))))))))))))))))
    rw [set_last]
    have hc : (s ++ [MO.dic (ksS.map Sum.inr) valS])[s.length]? = some (.dic (ksS.map Sum.inr) valS) := get_last _ _
    show SMs _ _ (s ++ [MO.dic (ksS.map Sum.inr) valS]) _ _
    have fin : Drp s Φ (.bl true) (s ++ [MO.dic (ksS.map Sum.inr) valS]) := ⟨s, _, rfl, rfl, trivial, fun h => h, k⟩
    generalize s ++ [MO.dic (ksS.map Sum.inr) valS] = s1 at hc fin
    refine sms_cons (sm_if (tm_cmp (em_callB (id := "len") T.len (am_cons (em_v1 (am_nil (vc_lenT (ds := .str a.word :: a.rest) (em_get2K (room1 hr) ⟨rfl, rfl, rfl, rfl⟩ (em_v2 ⟨_, rfl, ⟨_, _, hc⟩, em_ix (em_v1 (em_int (vi_tup (ds := .str a.word :: a.rest) (d := .str a.word) atI_0 (em_if (tm_cmp (em_ix (em_v1 (em_int (vi_tup (ds := .str a.word :: a.rest) (d := .str a.word) atI_0 (em_str (v2_eqS (asB ?_))))))))))))⟩)))))))))
    have rest : SMs (cxOf CX0 P w K mg base ["_law_mode", "_law_act_here", "_law_sizes", "_law_some", "_law_one"] "_law_is_act" (defScope lIsAct) fa cdv A outer sh H E).nox [some (.str (modeS b)), some (actD a), some (.ref s.length), none, none] s1 ((defBody lIsAct).drop 3) { nx := fun _ s' => Drp s Φ .non s', rt := Drp s Φ } := by
      refine sms_cons (sm_set 3 nd (em_callTy (T := "list") T.list (am_cons (em_slice (em_v1 (om_some (em_int ⟨_, rfl, om_none (vsl_tup (am_nil (vc_list (.tup _) ?_)))⟩)))))))
      rw [show cutD (.str a.word :: a.rest) (some 1) none = a.rest from cut_post _ 1 (Nat.succ_le_succ (Nat.zero_le _))]
      refine sms_cut (fun ρ' s' => s' = s1 ∧ ∃ ns : List Nat, ns.length ≤ 10 ∧ ρ' = [some (.str (modeS b)), some (actD a), some (.ref s.length), some (.lst (ns.map natD)), none]) (sm_if (tm_w (wm_and (tm_cmp (em_ix (em_v1 (em_int (vi_tup (ds := .str a.word :: a.rest) (d := .str a.word) atI_0 (em_str (v2_eqS (asB ?_)))))))))))  ?_
      · by_cases hsn : ∃ x f, a = .store x f none
        · obtain ⟨x, f, rfl⟩ := hsn
          refine bif_TT (wm_and1 (tm_cmp (em_ix (em_v3 (em_int (vi_lst (ds := [natD x, natD f, .non]) (d := .non) rfl (em_non (v2_isN (asB (bif_t ?_))))))))))
          exact sms_cons (sm_set 3 nd (em_slice (em_v3 (om_none (om_some (em_int ⟨_, rfl, vsl_lst (sms_nil ⟨rfl, [x, f], Nat.le_of_ble_eq_true rfl, rfl⟩)⟩))))))
        · obtain ⟨ns, hl, e⟩ := rest_nats a fun x f z => hsn ⟨x, f, z⟩
          rw [e]
          have fin2 : ∀ {ρ'' : Slo}, ρ'' = [some (.str (modeS b)), some (actD a), some (.ref s.length), some (.lst (ns.map natD)), none] → s1 = s1 ∧ ∃ ns : List Nat, ns.length ≤ 10 ∧ ρ'' = [some (.str (modeS b)), some (actD a), some (.ref s.length), some (.lst (ns.map natD)), none] := fun e => ⟨rfl, ns, by omega, e⟩
          cases a with
          | store x f y =>
            cases y with
            | none => exact absurd ⟨x, f, rfl⟩ hsn
            | some y =>
              refine bif_TT (wm_and1 (tm_cmp (em_ix (em_v3 (em_int (vi_lst (ds := ns.map natD) (d := natD y) ?_ (em_non (v2_isN (asB (bif_FF (sms_nil (fin2 rfl))))))))))))
              rw [← e]
              rfl
          | _ => exact bif_FF (bif_f (sms_nil (fin2 rfl)))
      · rintro ρ' s' ⟨rfl, ns, hl, rfl⟩
        refine sms_cons (sm_ret (em_cmp (em_lcP (own := [("_law_one", 4)]) (.one 4) nd (blk_ok rfl) (im_lst (em_v3 ⟨ns.map natD, .lst _, fun _ => false, fun _ => .non, fun _ => .lst _, by rw [List.length_map]; omega, ?_, fun _ _ z => Bool.noConfusion z, ?_⟩)) (tg_one 4 nd))))
        · intro d hd
          obtain ⟨i, _, rfl⟩ := List.mem_map.mp hd
          refine ⟨_, rfl, fun s' mm es sh' H' C' cl fp => tm_not (tm_val (em_call GI hr (am_cons (em_v4 (am_nil ⟨(i : Int), rfl, asB ⟨?_, es ▸ rfl, fun z => ?_⟩⟩))))) ⟩
          · rw [decide_eq_true (Int.natCast_nonneg i)]
            rfl
          · rw [decide_eq_true (Int.natCast_nonneg i)] at z
            cases z
        · rw [filterF]
          exact em_lst (am_nil ⟨Nat.le_of_ble_eq_true rfl, v2_eqP (p := .list []) (q := .list []) (room64 hr) rfl rfl shaped_nil shaped_nil (k := true) rfl fin⟩)
    refine bif_d (fun e => ?_) fun e => ?_
    · obtain ⟨x, hx⟩ := word_scan e
      have fit : a.rest.length + 1 = if b then 3 else 2 := by
        rcases hx with rfl | ⟨f, rfl⟩
        · have : b = false := hf
          rw [this]; rfl
        · have : b = true := hf
          rw [this]; rfl
      refine em_ix (em_lst (am_cons (em_int (am_cons (em_int (am_nil ⟨Nat.le_of_ble_eq_true rfl, em_callTy (T := "int") T.int (am_cons (em_cmp (em_v0 (em_str (v2_eqS (am_nil (vc_intB (vi_lst (d := .int ((a.rest.length + 1 : Nat) : Int)) ?_ ⟨_, _, .inr a.word, hc, rfl, rfl, ?_⟩))))))))⟩))))))
      · rw [fit]
        cases b <;> rfl
      · rw [e, sizes_scan, List.length_cons]
        exact v2_neI (asB (bif_nd (fun z => absurd rfl z) fun _ => sms_nil rest))
    · refine em_int ⟨_, _, .inr a.word, hc, rfl, rfl, ?_⟩
      rw [sizes_at a _ fun x hx => e (scan_word hx), List.length_cons]
      exact v2_neI (asB (bif_nd (fun z => absurd rfl z) fun _ => sms_nil rest))
end Sg
end T_Q12

section T_Q13
set_option autoImplicit true
set_option maxRecDepth 100000
set_option maxHeartbeats 4000000
namespace Sg
open PySem L2 Mp
variable {P : Program} {w : World} {K : PySem.W.Frag} {mg : Str → Option Value} {base : Heap}
theorem Drp.id {s : Sto} {Φ : Mp.D → Sto → Prop} {d : Mp.D} (hb : Bd s.length d) (k : Φ d s) : Drp s Φ d s := ⟨s, [], (List.append_nil _).symm, rfl, hb, fun h => h, k⟩
theorem bd_seenL (n : Nat) (l : List Nat) : Bd n (seenL l) := bdL_of fun d hd => by
  obtain ⟨i, _, rfl⟩ := List.mem_map.mp hd
  trivial
def namedD (a : Act) : Mp.D := .tup [seenL a.named, seenL a.needs, oD a.field]
theorem bd_named (n : Nat) (a : Act) : Bd n (namedD a) := ⟨bd_seenL n _, bd_seenL n _, bd_o n _, trivial⟩
def wNamedL : Wt := fun ds s Φ => ∃ a : Act, ds = [actD a] ∧ Φ (namedD a) s
theorem g_lnamed (T : Tx K mg) (Df : DefG K mg "_law_named" lNamed) : GFn P w K mg base "_law_named" 2 wNamedL := by
  refine mkGD (N := ["_law_act_here", "_law_word", "_law_given"]) (ps := ["_law_act_here"]) Df ⟨rfl, rfl, rfl, by decide +kernel, rfl, by decide +kernel, by decide +kernel⟩ (fun _ _ _ _ _ _ us hl => match us, hl with | [_], _ => rfl) (fun ds s Φ h => ?_) fun fa cdv A outer sh H E hr ds s Φ h => ?_
  · obtain ⟨_, rfl, _⟩ := h
    rfl
  · obtain ⟨a, rfl, k⟩ := h
    have nd : (["_law_act_here", "_law_word", "_law_given"] : List Str).Nodup := by decide +kernel
    have fin : Drp s Φ (namedD a) s := Drp.id (bd_named _ a) k
    refine sms_cons (sm_set 1 nd (em_ix (em_v0 (em_int (vi_tup (ds := .str a.word :: a.rest) (d := .str a.word) atI_0 ?_)))))
    refine sms_cons (sm_if (tm_cmp (em_v1 (em_str (v2_eqS (asB ?_))))))
    have last : (h : a.named = [] ∧ a.needs = []) → (hf : a.rest.length = 2 ∧ a.rest[1]? = some (oD a.field) ∨ a.rest.length ≠ 2 ∧ a.field = none) → SMs (cxOf CX0 P w K mg base ["_law_act_here", "_law_word", "_law_given"] "_law_named" (defScope lNamed) fa cdv A outer sh H E).nox [some (actD a), some (.str a.word), none] s ((defBody lNamed).drop 4) { nx := fun _ s' => Drp s Φ .non s', rt := Drp s Φ } := by
      rintro ⟨h1, h2⟩ hf
      unfold namedD at fin
      rw [h1, h2] at fin
      refine sms_cons (sm_ret (em_tup (am_cons (em_lst (am_nil ⟨Nat.le_of_ble_eq_true rfl, am_cons (em_lst (am_nil ⟨Nat.le_of_ble_eq_true rfl, am_cons (em_if (tm_cmp (em_callB (id := "len") T.len (am_cons (em_v0 (am_nil (vc_lenT (ds := .str a.word :: a.rest) (em_int (v2_eqI (asB ?_))))))))))⟩))⟩)))))
      rw [List.length_cons]
      refine bif_d (fun e => ?_) fun e => ?_
      · rcases hf with ⟨e1, e2⟩ | ⟨e1, e2⟩
        · exact em_ix (em_v0 (em_int (vi_tup (ds := .str a.word :: a.rest) (d := oD a.field) (atI_nat (j := 2) e2) (am_nil ⟨Nat.le_of_ble_eq_true rfl, fin⟩))))
        · omega
      · rcases hf with ⟨e1, e2⟩ | ⟨e1, e2⟩
        · omega
        · rw [e2] at fin
          exact em_non (am_nil ⟨Nat.le_of_ble_eq_true rfl, fin⟩)
    have cut1 : cutD (.str a.word :: a.rest) (some 1) none = a.rest := cut_post _ 1 (Nat.succ_le_succ (Nat.zero_le _))
    have disp : ∀ {Nx : Slo → Sto → Prop} (n : Nat) (hn : kIx ((["move", "clear", "new"] : List Str).map Sum.inr : List Key) (.inr a.word) = some n) (h2 : 1 ≤ a.rest.length) (hr1 : a.rest = a.named.map natD) (hr2 : ([.lst (cutD (.str a.word :: a.rest) (some 2) none), .lst a.rest, .lst []] : List Mp.D)[n]? = some (seenL a.needs)) (hf : a.field = none), SMs (cxOf CX0 P w K mg base ["_law_act_here", "_law_word", "_law_given"] "_law_named" (defScope lNamed) fa cdv A outer sh H E).nox [some (actD a), some (.str a.word), none] s ((defBody lNamed).drop 3 |>.take 1 |>.flatMap fun st => match st with | .If _ b _ _ => b | _ => []) { nx := Nx, rt := Drp s Φ } := by
      intro Nx n hn h2 hr1 hr2 hf
      unfold namedD at fin
      rw [hf] at fin
      refine sms_cons ?_
      generalize he : (Expr.Dict _ _ _) = ee
      refine sm_ret (em_tup (am_cons (em_callTy (T := "list") T.list (am_cons (em_slice (em_v0 (om_some (em_int ⟨_, rfl, om_none (vsl_tup (am_nil (vc_list (.tup _) (am_cons (em_dget (room1 hr) ?_)))))⟩))))))))
      refine em_dispE he ["move", "clear", "new"] (pps_s (pps_s (pps_s pps_0))) (by decide +kernel) ?_ (by decide)
      clear he
      refine pm_cons (em_callTy (T := "list") T.list (am_cons (em_slice (em_v0 (om_some (em_int ⟨_, rfl, om_none (vsl_tup (am_nil (vc_list (.tup _) ?_)))⟩))))))
      refine pm_cons (em_callTy (T := "list") T.list (am_cons (em_slice (em_v0 (om_some (em_int ⟨_, rfl, om_none (vsl_tup (am_nil (vc_list (.tup _) ?_)))⟩))))))
      refine pm_cons (em_lst (am_nil ⟨Nat.le_of_ble_eq_true rfl, pm_nil ⟨get_last _ _, rfl, ?_⟩⟩))
      refine em_v1 ⟨_, _, _, .inr a.word, n, seenL a.needs, rfl, set_get (get_last _ _), rfl, hn, ?_, am_cons (em_non (am_nil ⟨Nat.le_of_ble_eq_true rfl, ?_⟩))⟩
      · rw [cut1]
        exact hr2
      · rw [cut1, set_last, hr1]
        have hb := bd_named s.length a
        unfold namedD at hb k
        rw [hf] at hb k
        exact ⟨s, _, rfl, rfl, hb, fun h => h, k⟩
    have t3 : a.word ≠ "load" → a.word ≠ "store" → SMs (cxOf CX0 P w K mg base ["_law_act_here", "_law_word", "_law_given"] "_law_named" (defScope lNamed) fa cdv A outer sh H E).nox [some (actD a), some (.str a.word), none] s ((defBody lNamed).drop 3) { nx := fun _ s' => Drp s Φ .non s', rt := Drp s Φ } := by
      intro w1 w2
      refine sms_cons (sm_if (tm_cmp (em_v1 (em_tup (am_cons (em_str (am_cons (em_str (am_cons (em_str (am_nil ⟨Nat.le_of_ble_eq_true rfl, v2_inT rfl rfl (asB ?_)⟩)))))))))))
      cases a with
      | load r q f => exact absurd rfl w1
      | store r q f => exact absurd rfl w2
      | move r q => exact bif_TT (disp 0 (show kIx (((["move", "clear", "new"] : List Str).map Sum.inr : List Key)) (.inr "move") = some 0 by decide +kernel) (Nat.le_of_ble_eq_true rfl) rfl rfl rfl)
      | clear r => exact bif_TT (disp 1 (show kIx (((["move", "clear", "new"] : List Str).map Sum.inr : List Key)) (.inr "clear") = some 1 by decide +kernel) (Nat.le_of_ble_eq_true rfl) rfl rfl rfl)
      | new r => exact bif_TT (disp 2 (show kIx (((["move", "clear", "new"] : List Str).map Sum.inr : List Key)) (.inr "new") = some 2 by decide +kernel) (Nat.le_of_ble_eq_true rfl) rfl rfl rfl)
      | scanF x f => exact bif_FF (sms_nil (last ⟨rfl, rfl⟩ (.inl ⟨rfl, rfl⟩)))
      | _ => exact bif_FF (sms_nil (last ⟨rfl, rfl⟩ (.inr ⟨(by intro z; cases z), rfl⟩)))
    have t2 : a.word ≠ "load" → a.word ≠ "store" → SMs (cxOf CX0 P w K mg base ["_law_act_here", "_law_word", "_law_given"] "_law_named" (defScope lNamed) fa cdv A outer sh H E).nox [some (actD a), some (.str a.word), none] s ((defBody lNamed).drop 2) { nx := fun _ s' => Drp s Φ .non s', rt := Drp s Φ } := fun w1 w2 =>
      sms_cons (sm_if (tm_cmp (em_v1 (em_str (v2_eqS (asB (bif_df w2 (sms_nil (t3 w1 w2)))))))))
    cases a with
    | load r q f =>
      refine bif_TT (sms_cons (sm_ret (em_tup (am_cons (em_lst (am_cons (em_ix (em_v0 (em_int (vi_tup (d := natD r) rfl (am_cons (em_ix (em_v0 (em_int (vi_tup (d := natD q) rfl (am_nil ⟨Nat.le_of_ble_eq_true rfl, am_cons (em_lst (am_cons (em_ix (em_v0 (em_int (vi_tup (d := natD q) rfl (am_nil ⟨Nat.le_of_ble_eq_true rfl, am_cons (em_ix (em_v0 (em_int (vi_tup (d := natD f) rfl (am_nil ⟨Nat.le_of_ble_eq_true rfl, fin⟩)))))⟩)))))))⟩))))))))))))))))
    | store x f y =>
      refine bif_FF (sms_nil (sms_cons (sm_if (tm_cmp (em_v1 (em_str (v2_eqS (asB (bif_TT ?_)))))))))
      refine sms_cons (sm_set 2 nd (em_bin (em_lst (am_cons (em_ix (em_v0 (em_int (vi_tup (ds := [.str "store", natD x, natD f, oD y]) (d := oD y) rfl (am_nil ⟨Nat.le_of_ble_eq_true rfl, em_callTy (T := "int") T.int (am_cons (em_cmp (em_ix (em_v0 (em_int (vi_tup (ds := [.str "store", natD x, natD f, oD y]) (d := oD y) rfl (em_non (v2_notN (am_nil (vc_intB ?_))))))))))⟩)))))))))
      rw [isNon_oD]
      have rest : ∀ {Nx : Slo → Sto → Prop} (l : List Nat), (x :: l) = Act.named (.store x f y) → SMs (cxOf CX0 P w K mg base ["_law_act_here", "_law_word", "_law_given"] "_law_named" (defScope lNamed) fa cdv A outer sh H E).nox [some (actD (.store x f y)), some (.str "store"), some (.lst (l.map natD))] s ((defBody lNamed).drop 2 |>.take 1 |>.flatMap fun st => match st with | .If _ b _ _ => b.drop 1 | _ => []) { nx := Nx, rt := Drp s Φ } := fun {Nx} l hl => by
        have fin' : Drp s Φ (.tup [.lst ([natD x] ++ l.map natD), .lst ([natD x] ++ l.map natD), natD f]) s := by
          have e : Act.needs (.store x f y) = Act.named (.store x f y) := by cases y <;> rfl
          unfold namedD at fin
          rw [e, ← hl] at fin
          exact fin
        have hlen : l.length ≤ 10 := by
          have := named_len (.store x f y)
          rw [← hl] at this
          exact Nat.le_of_succ_le this
        have hle : ([natD x] : List Mp.D).length + (l.map natD).length ≤ 1000 := by
          rw [List.length_map]
          show 1 + l.length ≤ 1000
          omega
        refine sms_cons (sm_ret (em_tup (am_cons (em_bin (em_lst (am_cons (em_ix (em_v0 (em_int (vi_tup (ds := [.str "store", natD x, natD f, oD y]) (d := natD x) rfl (am_nil ⟨Nat.le_of_ble_eq_true rfl, em_v2 (v2_addL (.lst _) (.lst _) hle ?_)⟩)))))))))))
        refine am_cons (em_bin (em_lst (am_cons (em_ix (em_v0 (em_int (vi_tup (ds := [.str "store", natD x, natD f, oD y]) (d := natD x) rfl (am_nil ⟨Nat.le_of_ble_eq_true rfl, em_v2 (v2_addL (.lst _) (.lst _) hle ?_)⟩))))))))
        exact am_cons (em_ix (em_v0 (em_int (vi_tup (ds := [.str "store", natD x, natD f, oD y]) (d := natD f) rfl (am_nil ⟨Nat.le_of_ble_eq_true rfl, fin'⟩)))))
      cases y with
      | none => exact v2_mulL (n := 0) (.lst _) (by decide) (by decide) (Nat.le_of_ble_eq_true rfl) (rest [] rfl)
      | some y => exact v2_mulL (n := 1) (.lst _) (by decide) (by decide) (Nat.le_of_ble_eq_true rfl) (rest [y] rfl)
    | start => exact bif_FF (sms_nil (t2 (show ("start" : Str) ≠ "load" by decide +kernel) (show ("start" : Str) ≠ "store" by decide +kernel)))
    | look => exact bif_FF (sms_nil (t2 (show ("look" : Str) ≠ "load" by decide +kernel) (show ("look" : Str) ≠ "store" by decide +kernel)))
    | fin => exact bif_FF (sms_nil (t2 (show ("end" : Str) ≠ "load" by decide +kernel) (show ("end" : Str) ≠ "store" by decide +kernel)))
    | move _ _ => exact bif_FF (sms_nil (t2 (show ("move" : Str) ≠ "load" by decide +kernel) (show ("move" : Str) ≠ "store" by decide +kernel)))
    | clear _ => exact bif_FF (sms_nil (t2 (show ("clear" : Str) ≠ "load" by decide +kernel) (show ("clear" : Str) ≠ "store" by decide +kernel)))
    | new _ => exact bif_FF (sms_nil (t2 (show ("new" : Str) ≠ "load" by decide +kernel) (show ("new" : Str) ≠ "store" by decide +kernel)))
    | scan _ => exact bif_FF (sms_nil (t2 (show ("scan" : Str) ≠ "load" by decide +kernel) (show ("scan" : Str) ≠ "store" by decide +kernel)))
    | scanF _ _ => exact bif_FF (sms_nil (t2 (show ("scan" : Str) ≠ "load" by decide +kernel) (show ("scan" : Str) ≠ "store" by decide +kernel)))
end Sg
end T_Q13

section T_Q14
set_option autoImplicit true
set_option maxRecDepth 100000
set_option maxHeartbeats 4000000
namespace Sg
open PySem L2 Mp
variable {P : Program} {w : World} {K : PySem.W.Frag} {mg : Str → Option Value} {base : Heap}
abbrev lWhy : Stmt := top 93
abbrev lWhyLast : Stmt := top 94
/-! lists of indexes, compared with the empty one -/
def natOf : Mp.D → Nat
  | .int i => i.toNat
  | _ => 0
theorem filt_nats (p : Nat → Bool) : ∀ l : List Nat, ((l.map natD).filter fun d => p (natOf d)).map (fun d => d) = (l.filter p).map natD
  | [] => rfl
  | a :: l => by
    have ih := filt_nats p l
    show ((natD a :: l.map natD).filter fun d => p (natOf d)).map (fun d => d) = ((a :: l).filter p).map natD
    rw [List.filter_cons, List.filter_cons]
    by_cases h : p a = true
    · rw [if_pos h, if_pos (show (fun d => p (natOf d)) (natD a) = true from h), List.map_cons, ih]
      rfl
    · rw [if_neg h, if_neg (show ¬ (fun d => p (natOf d)) (natD a) = true from h)]
      exact ih
theorem eqv_nil (l : List Nat) : PyData.eqv (.list (l.map fun i => PyData.int (i : Nat))) (.list []) = decide (l = []) := by
  cases l with
  | nil => exact (decide_eq_true rfl).symm
  | cons a l =>
    rw [decide_eq_false nofun]
    rfl
section
variable {X : Cx} {s : Sto} {Φ : Mp.D → Sto → Prop}
theorem toP_natsL (l : List Nat) : toP (seenL l) = some (.list (l.map fun i => PyData.int (i : Nat))) := by
  show (toPs (l.map natD)).map PyData.list = _
  rw [toPs_nats]
  rfl
theorem v2_neN {l : List Nat} (hu : X.A.units + 64 < cLine) (h : Φ (.bl (!decide (l = []))) s) : V2 X (compareOp .NotEq) (seenL l) (.lst []) s Φ :=
  v2_neP hu (toP_natsL l) (q := .list []) rfl (shaped_nats l) shaped_nil (eqv_nil l) h
theorem v2_neNE {l : List Nat} {d : Mp.D} (e : d = seenL l) (hu : X.A.units + 64 < cLine) (h : Φ (.bl (!decide (l = []))) s) : V2 X (compareOp .NotEq) d (.lst []) s Φ := by
  subst e
  exact v2_neN hu h
end
/-! the last reasons -/
def LastOk (b : Bool) (m : Mo) (a : Act) : Prop := (∀ r, a = .new r → m.rows.length < 40) ∧ (a = .look → b = true) ∧ (a = .fin → .g ∉ m.paint ∧ (b = true → m.has .w = false))
def keepW (p : List Col) : Mp.D → Bool
  | .int i => decide (p[i.toNat]? = some .w)
  | _ => false
theorem whites_eq (p : List Col) : ∀ h : Row, ∃ l : List Nat, ((h.map oD).filter (keepW p)).map (fun d => d) = l.map natD ∧ (l = [] → (h.any fun o => match o with | none => false | some x => decide (p[x]? = some .w)) = false)
  | [] => ⟨[], rfl, fun _ => rfl⟩
  | none :: h => by
    obtain ⟨l, h1, h2⟩ := whites_eq p h
    refine ⟨l, ?_, ?_⟩
    · exact h1
    · intro e
      rw [List.any_cons, h2 e]
      rfl
  | some x :: h => by
    obtain ⟨l, h1, h2⟩ := whites_eq p h
    by_cases e : p[x]? = some .w
    · refine ⟨x :: l, ?_, nofun⟩
      show ((natD x :: h.map oD).filter (keepW p)).map (fun d => d) = natD x :: l.map natD
      rw [List.filter_cons, if_pos (show keepW p (natD x) = true from decide_eq_true e), List.map_cons, h1]
    · refine ⟨l, ?_, fun z => ?_⟩
      · show ((natD x :: h.map oD).filter (keepW p)).map (fun d => d) = l.map natD
        rw [List.filter_cons, if_neg (show ¬ keepW p (natD x) = true from fun z => e (of_decide_eq_true z)), h1]
      · rw [List.any_cons, h2 z, Bool.or_false]
        exact decide_eq_false e
theorem bd_oD (n : Nat) {r : Row} {d : Mp.D} (h : d ∈ r.map oD) : Bd n d := by
  obtain ⟨o, _, rfl⟩ := List.mem_map.mp h
  exact bd_o n o
theorem roots_again (b : Bool) : decide (rootsS b = "again") = b := by cases b <;> decide +kernel
theorem roots_once (b : Bool) : decide (rootsS b = "once") = !b := by cases b <;> decide +kernel
def wWhyLastL : Wt := fun ds s Φ => ∃ (l : List Ent) (cf : Col) (b : Bool) (c : Ids) (wd : Nat) (m : Mo) (a : Act), ds = [ruleD l cf b, .ref c.q, .str a.word] ∧ ModelAt s c wd m ∧ m.Ok wd ∧ (∀ x : Str, Φ (.str x) s) ∧ (LastOk b m a → Φ .non s)
theorem g_lwhylast (T : Tx K mg) (Df : DefG K mg "_law_why_last" lWhyLast) : GFn P w K mg base "_law_why_last" 1 wWhyLastL := by
  refine mkG (N := ["_law_rule_here", "_law_model_here", "_law_word", "_law_whites", "_law_x"]) (ps := ["_law_rule_here", "_law_model_here", "_law_word"]) Df ⟨rfl, rfl, rfl, by decide +kernel, rfl, by decide +kernel, by decide +kernel⟩ (fun _ _ _ _ _ _ us hl => match us, hl with | [_, _, _], _ => rfl) (fun ds s Φ h => ?_) fun fa cdv A outer sh H E hr ds s Φ h => ?_
  · obtain ⟨_, _, _, _, _, _, _, rfl, _⟩ := h
    rfl
  · obtain ⟨l, cf, b, c, wd, m, a, rfl, M, ok, kS, kN⟩ := h
    have nd : (["_law_rule_here", "_law_model_here", "_law_word", "_law_whites", "_law_x"] : List Str).Nodup := by decide +kernel
    have few := ok.few
    have six := ok.h6
    have r2 : ∀ {x y z : Mp.D}, atI [x, y, z] 2 = some z := fun {x y z} => rfl
    have t3 : a ≠ .fin → (LastOk b m a) → SMs (cxOf CX0 P w K mg base ["_law_rule_here", "_law_model_here", "_law_word", "_law_whites", "_law_x"] "_law_why_last" (defScope lWhyLast) fa cdv A outer sh H E).nox [some (ruleD l cf b), some (.ref c.q), some (.str a.word), none, none] s ((defBody lWhyLast).drop 2) { nx := fun _ s' => Φ .non s', rt := Φ } := fun hne hl => by
      have he : a.word ≠ "end" := by
        cases a <;> first | exact absurd rfl hne | exact (show ("start" : Str) ≠ "end" by decide +kernel) | exact (show ("look" : Str) ≠ "end" by decide +kernel) | exact (show ("load" : Str) ≠ "end" by decide +kernel) | exact (show ("store" : Str) ≠ "end" by decide +kernel) | exact (show ("move" : Str) ≠ "end" by decide +kernel) | exact (show ("clear" : Str) ≠ "end" by decide +kernel) | exact (show ("new" : Str) ≠ "end" by decide +kernel) | exact (show ("scan" : Str) ≠ "end" by decide +kernel)
      exact sms_cons (sm_if (tm_cmp (em_v2 (em_str (v2_neS (asB (bif_ne he (sms_cons (sm_ret (em_non (kN hl)))))))))))
    have t2 : a.word ≠ "look" → a ≠ .fin → (LastOk b m a) → SMs (cxOf CX0 P w K mg base ["_law_rule_here", "_law_model_here", "_law_word", "_law_whites", "_law_x"] "_law_why_last" (defScope lWhyLast) fa cdv A outer sh H E).nox [some (ruleD l cf b), some (.ref c.q), some (.str a.word), none, none] s ((defBody lWhyLast).drop 1) { nx := fun _ s' => Φ .non s', rt := Φ } := fun hk hne hl =>
      sms_cons (sm_if (tm_w (wm_and (tm_cmp (em_v2 (em_str (v2_eqS (asB (bif_df hk (bif_f (sms_nil (t3 hne hl))))))))))))
    have lk : ∀ a' : Act, (∀ r, a' ≠ .new r) → a' ≠ .look → a' ≠ .fin → LastOk b m a' := fun a' h1 h2 h3 => ⟨fun r e => absurd e (h1 r), fun e => absurd e h2, fun e => absurd e h3⟩
    refine sms_cons (sm_if (tm_w (wm_and (tm_cmp (em_v2 (em_str (v2_eqS (asB ?_))))))))
    cases a with
    | new r =>
      refine bif_TT (wm_and1 (tm_cmp (em_callB (id := "len") T.len (am_cons (em_md 1 (room1 hr) (em_v1 ⟨c.q, _, .ref c.a, rfl, M.q, rfl, am_nil (vc_lenL (.ref M.a) (em_int (v2_ge (asB ?_))))⟩))))))
      rw [List.length_map, M.len]
      refine bif_d (fun e => sms_cons (sm_ret (em_str (kS _)))) fun e => sms_nil (t2 (show ("new" : Str) ≠ "look" by decide +kernel) nofun ⟨fun r _ => by omega, nofun, nofun⟩)
    | look =>
      refine bif_FF (bif_f (sms_nil (sms_cons (sm_if (tm_w (wm_and (tm_cmp (em_v2 (em_str (v2_eqS (asB (bif_TT (wm_and1 (tm_cmp (em_ix (em_v0 (em_int (vi_tup (ds := [entsD l, colD cf, .str (rootsS b)]) (d := .str (rootsS b)) r2 (em_str (v2_eqS (asB ?_)))))))))))))))))))))
      rw [roots_once]
      cases b with
      | false => exact bif_t (sms_cons (sm_ret (em_str (kS _))))
      | true => exact bif_f (sms_nil (t3 nofun ⟨nofun, fun _ => rfl, nofun⟩))
    | fin =>
      refine bif_FF (bif_f (sms_nil (sms_cons (sm_if (tm_w (wm_and (tm_cmp (em_v2 (em_str (v2_eqS (asB (bif_FF (bif_f (sms_nil (sms_cons (sm_if (tm_cmp (em_v2 (em_str (v2_neS (asB (bif_FF (sms_nil (sms_cons (sm_if (tm_cmp (em_str (em_md 3 (room1 hr) (em_v1 ⟨c.q, _, .ref c.p, rfl, M.q, rfl, v2_inL (x := colD .g) (.ref M.p) rfl (fl_paintD _) (asB ?_)⟩)))))))))))))))))))))))))))))
      rw [in_paint]
      refine bif_d (fun e => sms_cons (sm_ret (em_str (kS _)))) fun hg => sms_nil ?_
      obtain ⟨ws, e1, e2⟩ := whites_eq m.paint m.held
      refine sms_cons (sm_lcP (own := [("_law_x", 4)]) 3 (.one 4) nd (blk_ok rfl) (im_lst (em_md 2 (room1 hr) (em_v1 ⟨c.q, _, .ref c.h, rfl, M.q, rfl, m.held.map oD, .ref M.h, keepW m.paint, fun d => d, fun _ => (IsL.ref M.h).app, by rw [List.length_map]; omega, ?_, fun d hd _ => bd_oD _ hd, ?_⟩))) (tg_one 4 nd))
      · intro d hd
        obtain ⟨o, ho, rfl⟩ := List.mem_map.mp hd
        refine ⟨_, rfl, fun s' mm es sh' H' C' cl fp => ?_⟩
        subst es
        have M' := M.app [mm]
        refine tm_w (wm_and (tm_cmp (em_v4 (em_non (v2_notN (asB ?_))))))
        rw [isNon_oD]
        cases o with
        | none => exact bif_f ⟨rfl, rfl, nofun⟩
        | some x =>
          have hx : x < m.paint.length := by rw [ok.paint]; exact ok.held _ ho x rfl
          refine bif_t (wm_and1 (tm_cmp (em_ix (em_md 3 (room1 hr) (em_v1 ⟨c.q, _, .ref c.p, rfl, M'.q, rfl, em_v4 (vi_ref M'.p (paint_atI (col_at hx)) (em_str (v2_eqS (asB ?_))))⟩)))))
          rw [show decide ((m.col x).s = "white") = keepW m.paint (natD x) from (col_dec (m.col x) .w).trans (by
            show _ = decide (m.paint[x]? = some .w)
            rw [col_at hx]
            by_cases e : m.col x = .w
            · rw [decide_eq_true e, decide_eq_true (by rw [e])]
            · rw [decide_eq_false e, decide_eq_false (fun z => e (Option.some.inj z))])]
          exact ⟨rfl, rfl, fun _ sh2 H2 C2 cl2 fp2 => em_v4 ⟨rfl, rfl⟩⟩
      · rw [e1]
        refine sms_cons (sm_ret (em_if (tm_w (wm_and (tm_cmp (em_ix (em_v0 (em_int (vi_tup (ds := [entsD l, colD cf, .str (rootsS b)]) (d := .str (rootsS b)) r2 (em_str (v2_eqS (asB ?_))))))))))))
        rw [roots_again]
        cases b with
        | false => exact bif_f (bif_f (em_non (kN ⟨nofun, nofun, fun _ => ⟨hg, nofun⟩⟩)))
        | true =>
          refine bif_t (wm_and1 (tm_cmp (em_v3 (em_lst (am_nil ⟨Nat.le_of_ble_eq_true rfl, v2_neN (l := ws) (room64 hr) (asB (bif_nd (fun _ => em_str (kS _)) fun z => em_non (kN ⟨nofun, nofun, fun _ => ⟨hg, fun _ => e2 z⟩⟩)))⟩)))))
    | start => exact bif_FF (bif_f (sms_nil (t2 (show ("start" : Str) ≠ "look" by decide +kernel) nofun (lk _ nofun nofun nofun))))
    | load _ _ _ => exact bif_FF (bif_f (sms_nil (t2 (show ("load" : Str) ≠ "look" by decide +kernel) nofun (lk _ nofun nofun nofun))))
    | store _ _ _ => exact bif_FF (bif_f (sms_nil (t2 (show ("store" : Str) ≠ "look" by decide +kernel) nofun (lk _ nofun nofun nofun))))
    | move _ _ => exact bif_FF (bif_f (sms_nil (t2 (show ("move" : Str) ≠ "look" by decide +kernel) nofun (lk _ nofun nofun nofun))))
    | clear _ => exact bif_FF (bif_f (sms_nil (t2 (show ("clear" : Str) ≠ "look" by decide +kernel) nofun (lk _ nofun nofun nofun))))
    | scan _ => exact bif_FF (bif_f (sms_nil (t2 (show ("scan" : Str) ≠ "look" by decide +kernel) nofun (lk _ nofun nofun nofun))))
    | scanF _ _ => exact bif_FF (bif_f (sms_nil (t2 (show ("scan" : Str) ≠ "look" by decide +kernel) nofun (lk _ nofun nofun nofun))))
end Sg
end T_Q14

section T_Q15
set_option autoImplicit true
set_option maxRecDepth 100000
set_option maxHeartbeats 4000000
namespace Sg
open PySem L2 Mp
variable {P : Program} {w : World} {K : PySem.W.Frag} {mg : Str → Option Value} {base : Heap}
def reqPh : Act → Ph
  | .start => .ready
  | _ => .marking
theorem ph_pick (a : Act) : atI [Mp.D.str "marking", .str "ready"] (if decide (a.word = "start") = true then 1 else 0) = some (.str (reqPh a).s) := by
  have h0 : ∀ W : Str, decide (W = "start") = false → atI [Mp.D.str "marking", .str "ready"] (if decide (W = "start") = true then 1 else 0) = some (.str "marking") := fun W h => by
    rw [h]; rfl
  cases a with
  | start =>
    show atI [Mp.D.str "marking", .str "ready"] (if decide (("start" : Str) = "start") = true then 1 else 0) = _
    rw [decide_eq_true rfl]; rfl
  | look  => exact h0 "look" (by decide +kernel)
  | fin  => exact h0 "end" (by decide +kernel)
  | load _ _ _ => exact h0 "load" (by decide +kernel)
  | store _ _ _ => exact h0 "store" (by decide +kernel)
  | move _ _ => exact h0 "move" (by decide +kernel)
  | clear _ => exact h0 "clear" (by decide +kernel)
  | new _ => exact h0 "new" (by decide +kernel)
  | scan _ => exact h0 "scan" (by decide +kernel)
  | scanF _ _ => exact h0 "scan" (by decide +kernel)
theorem needs_named (a : Act) : ∀ r ∈ a.needs, r ∈ a.named := by
  intro r hr
  cases a with
  | store x f y => cases y <;> exact hr
  | load r' s f => exact List.mem_cons_of_mem _ hr
  | move r' s => exact List.mem_cons_of_mem _ hr
  | _ => first | exact hr | cases hr
theorem good_of {fl b : Bool} {wd : Nat} {m : Mo} {a : Act} (hf : a.fits fl) (h2 : m.ph = reqPh a) (h4 : ∀ r ∈ a.named, r < m.held.length) (h5 : ∀ r s, a = .move r s → r ≠ s) (h6 : ∀ r ∈ a.needs, ∃ o, m.held[r]? = some (some o))
    (h8 : ∀ f, a.field = some f → f < wd) (hs : ∀ x, IsScan a x → m.paint[x]? = some .g) (hv : ∀ x f, a = .scanF x f → f ∉ m.seen.getD x []) (hl : (∀ x, ¬ IsScan a x) → LastOk b m a) : Good fl b wd m a := by
  cases a with
  | start => exact h2
  | look =>
    have := hl fun x hx => by rcases hx with h | ⟨_, h⟩ <;> cases h
    exact ⟨h2, this.2.1 rfl⟩
  | fin =>
    have := hl fun x hx => by rcases hx with h | ⟨_, h⟩ <;> cases h
    exact ⟨h2, this.2.2 rfl⟩
  | load r s f => exact ⟨h2, h4 r List.mem_cons_self, h6 s List.mem_cons_self, h8 f rfl⟩
  | store x f y =>
    cases y with
    | none => exact ⟨h2, h6 x List.mem_cons_self, h8 f rfl, nofun⟩
    | some y => exact ⟨h2, h6 x List.mem_cons_self, h8 f rfl, fun r z => by cases z; exact h6 y (List.mem_cons_of_mem _ List.mem_cons_self)⟩
  | move r s => exact ⟨h2, h4 r List.mem_cons_self, h5 r s rfl, h6 s List.mem_cons_self⟩
  | clear r => exact ⟨h2, h6 r List.mem_cons_self⟩
  | new r =>
    have := hl fun x hx => by rcases hx with h | ⟨_, h⟩ <;> cases h
    exact ⟨h2, h4 r List.mem_cons_self, this.1 r rfl⟩
  | scan x => exact ⟨hf, h2, hs x (.inl rfl)⟩
  | scanF x f => exact ⟨hf, h2, hs x (.inr ⟨f, rfl⟩), h8 f rfl, hv x f rfl⟩
theorem filter_nil_iff {l : List Nat} {p : Nat → Bool} (h : l.filter p = []) : ∀ r ∈ l, p r = false := fun r hr => by
  cases e : p r with
  | false => rfl
  | true =>
    have : r ∈ l.filter p := List.mem_filter.mpr ⟨hr, e⟩
    rw [h] at this
    cases this
theorem inD_nats (f : Nat) (l : List Nat) : inD (natD f) (l.map natD) = decide (f ∈ l) := by
  unfold inD
  rw [List.any_map]
  induction l with
  | nil => rfl
  | cons a l ih =>
    show (decide ((a : Int) = (f : Int)) || _) = _
    rw [ih]
    by_cases h : a = f
    · subst h; simp
    · have h' : ¬ f = a := fun z => h z.symm
      have h2 : ¬ ((a : Int) = (f : Int)) := by omega
      simp [h', h2]
theorem fl_nats (l : List Nat) : (l.map natD).all flD = true := by
  rw [List.all_map]
  exact List.all_eq_true.mpr fun x _ => rfl
def wWhyL : Wt := fun ds s Φ => ∃ (l : List Ent) (cf : Col) (b : Bool) (c : Ids) (wd : Nat) (m : Mo) (fl : Bool) (a : Act), ds = [ruleD l cf b, .str (modeS fl), .ref c.q, actD a] ∧ ModelAt s c wd m ∧ m.Ok wd ∧ a.fits fl ∧ (∀ x : Str, Φ (.str x) s) ∧ (Good fl b wd m a → Φ .non s)
theorem g_lwhy (T : Tx K mg) (GI : GFn P w K mg base "_law_is_act" 2 wIsActL) (GN : GFn P w K mg base "_law_named" 2 wNamedL) (GL : GFn P w K mg base "_law_why_last" 1 wWhyLastL) (Df : DefG K mg "_law_why" lWhy) : GFn P w K mg base "_law_why" 3 wWhyL := by
  refine mkG (N := ["_law_rule_here", "_law_mode", "_law_model_here", "_law_act_here", "_law_places", "_law_needed", "_law_f", "_law_r"]) (ps := ["_law_rule_here", "_law_mode", "_law_model_here", "_law_act_here"]) Df ⟨rfl, rfl, rfl, by decide +kernel, rfl, by decide +kernel, by decide +kernel⟩ (fun _ _ _ _ _ _ us hl => match us, hl with | [_, _, _, _], _ => rfl) (fun ds s Φ h => ?_) fun fa cdv A outer sh H E hr ds s Φ h => ?_
  · obtain ⟨_, _, _, _, _, _, _, _, rfl, _⟩ := h
    rfl
  · obtain ⟨l, cf, b, c, wd, m, fl, a, rfl, M, ok, hf, kS, kN⟩ := h
    have nd : (["_law_rule_here", "_law_mode", "_law_model_here", "_law_act_here", "_law_places", "_law_needed", "_law_f", "_law_r"] : List Str).Nodup := by decide +kernel
    have few := ok.few
    refine sms_cons (sm_if (tm_not (tm_val (em_call GI hr (am_cons (em_v1 (am_cons (em_v3 (am_nil ⟨a, fl, rfl, hf, asB (bif_f (sms_nil ?_))⟩)))))))))
    refine sms_cons (sm_if (tm_cmp (em_md 5 (room1 hr) (em_v2 ⟨c.q, _, .str m.ph.s, rfl, M.q, rfl, em_ix (em_lst (am_cons (em_str (am_cons (em_str (am_nil ⟨Nat.le_of_ble_eq_true rfl, em_callTy (T := "int") T.int (am_cons (em_cmp (em_ix (em_v3 (em_int (vi_tup (ds := .str a.word :: a.rest) (d := .str a.word) atI_0 (em_str (v2_eqS (am_nil (vc_intB (vi_lst (ph_pick a) (v2_neS (asB (bif_nd (fun _ => sms_cons (sm_ret (em_str (kS _)))) fun h2 => sms_nil ?_))))))))))))))⟩))))))⟩))))
    have h2 := Ph.inj h2
    refine sms_cons (sm_asg (em_call GN hr (am_cons (em_v3 (am_nil ⟨a, rfl, gm_tup (gms_cons (gm_name 4 nd (gms_cons (gm_name 5 nd (gms_cons (gm_name 6 nd (gms_nil ?_))))))) rfl⟩)))))
    refine sms_cons (sm_if (tm_cmp (em_lcP (own := [("_law_r", 7)]) (.one 7) nd (blk_ok rfl) (im_lst (em_v4 ⟨a.named.map natD, .lst _, fun d => decide (m.held.length ≤ natOf d), fun d => d, fun _ => .lst _, by rw [List.length_map]; have := named_len a; omega, ?_, ?_, em_lst (am_nil ⟨Nat.le_of_ble_eq_true rfl, v2_neNE (congrArg Mp.D.lst (filt_nats (fun i => decide (m.held.length ≤ i)) a.named)) (room64 hr) (asB (bif_nd (fun _ => sms_cons (sm_ret (em_str (kS _)))) fun h4 => sms_nil ?_))⟩)⟩)) (tg_one 7 nd))))
    · intro d hd
      obtain ⟨r, hr', rfl⟩ := List.mem_map.mp hd
      refine ⟨_, rfl, fun s' mm es sh' H' C' cl fp => ?_⟩
      subst es
      have M' := M.app [mm]
      refine tm_cmp (em_v7 (em_callB (id := "len") T.len (am_cons (em_md 2 (room1 hr) (em_v2 ⟨c.q, _, .ref c.h, rfl, M'.q, rfl, am_nil (vc_lenL (.ref M'.h) (v2_ge (asB ⟨?_, rfl, fun _ sh2 H2 C2 cl2 fp2 => em_v7 ⟨rfl, rfl⟩⟩)))⟩)))))
      rw [List.length_map]
      show decide ((m.held.length : Int) ≤ (r : Int)) = decide (m.held.length ≤ r)
      exact decide_eq_decide.mpr Int.ofNat_le
    · intro d hd _
      obtain ⟨r, _, rfl⟩ := List.mem_map.mp hd
      trivial
    have h4 : ∀ r ∈ a.named, r < m.held.length := fun r hr' => Nat.lt_of_not_le (of_decide_eq_false (filter_nil_iff h4 r hr'))
    have n5 : (h5 : ∀ r s, a = .move r s → r ≠ s) → SMs (cxOf CX0 P w K mg base ["_law_rule_here", "_law_mode", "_law_model_here", "_law_act_here", "_law_places", "_law_needed", "_law_f", "_law_r"] "_law_why" (defScope lWhy) fa cdv A outer sh H E).nox [some (ruleD l cf b), some (.str (modeS fl)), some (.ref c.q), some (actD a), some (seenL a.named), some (seenL a.needs), some (oD a.field), none] s ((defBody lWhy).drop 5) { nx := fun _ s' => Φ .non s', rt := Φ } := by
      intro h5
      refine sms_cons (sm_if (tm_cmp (em_lcP (own := [("_law_r", 7)]) (.one 7) nd (blk_ok rfl) (im_lst (em_v5 ⟨a.needs.map natD, .lst _, fun d => (m.held.getD (natOf d) none).isNone, fun d => d, fun _ => .lst _, by rw [List.length_map]; have := needs_len a; omega, ?_, ?_, em_lst (am_nil ⟨Nat.le_of_ble_eq_true rfl, v2_neNE (congrArg Mp.D.lst (filt_nats (fun i => (m.held.getD i none).isNone) a.needs)) (room64 hr) (asB (bif_nd (fun _ => sms_cons (sm_ret (em_str (kS _)))) fun h6 => sms_nil ?_))⟩)⟩)) (tg_one 7 nd))))
      · intro d hd
        obtain ⟨r, hr', rfl⟩ := List.mem_map.mp hd
        refine ⟨_, rfl, fun s' mm es sh' H' C' cl fp => ?_⟩
        subst es
        have M' := M.app [mm]
        have hrl := h4 r (needs_named a r hr')
        refine tm_cmp (em_ix (em_md 2 (room1 hr) (em_v2 ⟨c.q, _, .ref c.h, rfl, M'.q, rfl, em_v7 (vi_ref M'.h (row_at (reg_at hrl)) (em_non (v2_isN (asB ⟨?_, rfl, fun _ sh2 H2 C2 cl2 fp2 => em_v7 ⟨rfl, rfl⟩⟩))))⟩)))
        rw [isNon_oD]
        rfl
      · intro d hd _
        obtain ⟨r, _, rfl⟩ := List.mem_map.mp hd
        trivial
      have h6 : ∀ r ∈ a.needs, ∃ o, m.held[r]? = some (some o) := fun r hr' => by
        have z := filter_nil_iff h6 r hr'
        have hrl := h4 r (needs_named a r hr')
        have e := reg_at hrl
        unfold Mo.reg at e
        cases ho : m.held.getD r none with
        | none => rw [ho] at z; cases z
        | some o => exact ⟨o, by rw [e, ho]⟩
      have n9 : (hx : ∀ x, IsScan a x → x < m.rows.length) → (h8 : ∀ f, a.field = some f → f < wd) → SMs (cxOf CX0 P w K mg base ["_law_rule_here", "_law_mode", "_law_model_here", "_law_act_here", "_law_places", "_law_needed", "_law_f", "_law_r"] "_law_why" (defScope lWhy) fa cdv A outer sh H E).nox [some (ruleD l cf b), some (.str (modeS fl)), some (.ref c.q), some (actD a), some (seenL a.named), some (seenL a.needs), some (oD a.field), none] s ((defBody lWhy).drop 8) { nx := fun _ s' => Φ .non s', rt := Φ } := by
        intro hx h8
        refine sms_cons (sm_if (tm_cmp (em_ix (em_v3 (em_int (vi_tup (ds := .str a.word :: a.rest) (d := .str a.word) atI_0 (em_str (v2_eqS (asB ?_)))))))))
        refine bif_d (fun e => ?_) fun e => sms_nil ?_
        · obtain ⟨x, hs⟩ := word_scan e
          have hxl := hx x hs
          have hx1 : atI (.str a.word :: a.rest) 1 = some (natD x) := by
            rcases hs with rfl | ⟨f, rfl⟩ <;> rfl
          refine sms_cons (sm_if (tm_cmp (em_ix (em_md 3 (room1 hr) (em_v2 ⟨c.q, _, .ref c.p, rfl, M.q, rfl, em_ix (em_v3 (em_int (vi_tup hx1 (vi_ref M.p (paint_atI (col_at (x := x) (by rw [ok.paint]; exact hxl))) (em_str (v2_neS (asB ?_)))))))⟩)))))
          refine bif_nd (fun _ => sms_cons (sm_ret (em_str (kS _)))) fun hg => sms_nil ?_
          have hg : m.paint[x]? = some .g := by rw [col_at (by rw [ok.paint]; exact hxl), Col.inj (b := .g) hg]
          have gd : (∀ x' f, a = .scanF x' f → f ∉ m.seen.getD x' []) → Good fl b wd m a := fun hv => good_of hf h2 h4 h5 h6 h8 (fun x' hx' => by
            have : x' = x := by
              rcases hx' with rfl | ⟨f, rfl⟩
              · rcases hs with h | ⟨_, h⟩ <;> cases h; rfl
              · rcases hs with h | ⟨_, h⟩ <;> cases h; rfl
            rw [this]; exact hg) hv fun z => absurd hs (z x)
          refine sms_cons (sm_ret (em_if (tm_w (wm_and (tm_cmp (em_v6 (em_non (v2_notN (asB ?_)))))))))
          rw [isNon_oD]
          rcases hs with rfl | ⟨f, rfl⟩
          · exact bif_f (bif_f (em_non (kN (gd nofun))))
          · refine bif_t (wm_and1 (tm_cmp (em_v6 (em_ix (em_md 4 (room1 hr) (em_v2 ⟨c.q, _, .ref c.e, rfl, M.q, rfl, em_ix (em_v3 (em_int (vi_tup (d := natD x) rfl (vi_ref M.e (seenL_at (seen_of (x := x) (by rw [ok.seen]; exact hxl))) (v2_inL (.lst _) rfl (fl_nats _) (asB ?_))))))⟩))))))
            rw [show inD (oD (Act.field (.scanF x f))) ((m.seen.getD x []).map natD) = decide (f ∈ m.seen.getD x []) from inD_nats f _]
            exact bif_d (fun _ => em_str (kS _)) fun hn => em_non (kN (gd fun _ _ z => by cases z; exact hn))
        · exact sms_cons (sm_ret (em_call GL (hr.mono (by decide)) (am_cons (em_v0 (am_cons (em_v2 (am_cons (em_ix (em_v3 (em_int (vi_tup (ds := .str a.word :: a.rest) (d := .str a.word) atI_0 (am_nil ⟨l, cf, b, c, wd, m, a, rfl, M, ok, kS, fun hl => kN (good_of hf h2 h4 h5 h6 h8 (fun x hs => absurd (scan_word hs) e) (fun x f z => absurd (by rw [z]; rfl) e) fun _ => hl)⟩))))))))))))
      have n8 : (hx : ∀ x, IsScan a x → x < m.rows.length) → SMs (cxOf CX0 P w K mg base ["_law_rule_here", "_law_mode", "_law_model_here", "_law_act_here", "_law_places", "_law_needed", "_law_f", "_law_r"] "_law_why" (defScope lWhy) fa cdv A outer sh H E).nox [some (ruleD l cf b), some (.str (modeS fl)), some (.ref c.q), some (actD a), some (seenL a.named), some (seenL a.needs), some (oD a.field), none] s ((defBody lWhy).drop 7) { nx := fun _ s' => Φ .non s', rt := Φ } := by
        intro hx
        refine sms_cons (sm_if (tm_w (wm_and (tm_cmp (em_v6 (em_non (v2_notN (asB ?_))))))))
        rw [isNon_oD]
        by_cases hn : a.field = none
        · exact bif_eq (c := false) (by rw [hn]; rfl) (bif_f (bif_f (sms_nil (n9 hx fun f z => by rw [hn] at z; cases z))))
        · obtain ⟨f', ef⟩ := Option.ne_none_iff_exists'.mp hn
          refine bif_eq (c := true) (by rw [ef]; rfl) (bif_t (wm_and1 (tm_cmp (em_v6 (em_md 0 (room1 hr) (em_v2 ⟨c.q, _, .int wd, rfl, M.q, rfl, ?_⟩))))))
          have e : oD a.field = .int (f' : Int) := by rw [ef]; rfl
          exact v2_geE e (asB (bif_d (fun _ => sms_cons (sm_ret (em_str (kS _)))) fun hlt => sms_nil (n9 hx fun f z => by rw [ef] at z; cases z; omega)))
      refine sms_cons (sm_if (tm_w (wm_and (tm_cmp (em_ix (em_v3 (em_int (vi_tup (ds := .str a.word :: a.rest) (d := .str a.word) atI_0 (em_str (v2_eqS (asB ?_)))))))))))
      refine bif_d (fun e => ?_) fun e => bif_f (sms_nil (n8 fun x hs => absurd (scan_word hs) e))
      obtain ⟨x, hs⟩ := word_scan e
      have hx1 : atI (.str a.word :: a.rest) 1 = some (natD x) := by
        rcases hs with rfl | ⟨f, rfl⟩ <;> rfl
      refine wm_and1 (tm_cmp (em_ix (em_v3 (em_int (vi_tup hx1 (em_callB (id := "len") T.len (am_cons (em_md 1 (room1 hr) (em_v2 ⟨c.q, _, .ref c.a, rfl, M.q, rfl, am_nil (vc_lenL (.ref M.a) (v2_ge (asB ?_)))⟩)))))))))
      rw [List.length_map, M.len]
      refine bif_d (fun _ => sms_cons (sm_ret (em_str (kS _)))) fun hlt => sms_nil (n8 fun x' hx' => ?_)
      have : x' = x := by
        rcases hx' with rfl | ⟨f, rfl⟩
        · rcases hs with h | ⟨_, h⟩ <;> cases h; rfl
        · rcases hs with h | ⟨_, h⟩ <;> cases h; rfl
      omega
    refine sms_cons (sm_if (tm_w (wm_and (tm_cmp (em_ix (em_v3 (em_int (vi_tup (ds := .str a.word :: a.rest) (d := .str a.word) atI_0 (em_str (v2_eqS (asB ?_)))))))))))
    cases a with
    | move r q =>
      refine bif_TT (wm_and1 (tm_cmp (em_ix (em_v3 (em_int (vi_tup (ds := [.str "move", natD r, natD q]) (d := natD r) rfl (em_ix (em_v3 (em_int (vi_tup (ds := [.str "move", natD r, natD q]) (d := natD q) rfl (v2_eqI (asB (bif_d (fun _ => sms_cons (sm_ret (em_str (kS _)))) fun hne => sms_nil (n5 fun r' s' z => by cases z; omega))))))))))))))
    | _ => exact bif_FF (bif_f (sms_nil (n5 nofun)))
end Sg
end T_Q15

section T_Q16
set_option autoImplicit true
set_option maxRecDepth 100000
set_option maxHeartbeats 4000000
namespace Sg
open PySem L2 Mp
variable {P : Program} {w : World} {K : PySem.W.Frag} {mg : Str → Option Value} {base : Heap}
abbrev lScanOf : Stmt := top 95
/-- the pen lies apart of the model -/
theorem PenS.model {s s' : Sto} {j N : Nat} {c : Ids} {wd : Nat} {m : Mo} (p : PenS s j s' N) (M : ModelAt s c wd m) (hj : j ∉ c.all) : ModelAt s' c wd m := by
  obtain ⟨m1, rfl, _⟩ := p
  have ne : ∀ i ∈ c.all, (s.set j m1)[i]? = s[i]? := fun i hi => gsn fun e => hj (e ▸ hi)
  exact ⟨by rw [ne _ c.mq]; exact M.q, by rw [ne _ c.ma]; exact M.a, by rw [ne _ c.mh]; exact M.h, by rw [ne _ c.mp]; exact M.p, by rw [ne _ c.me]; exact M.e, M.len, fun i r row h1 h2 => by rw [ne _ (Ids.mr h1)]; exact M.rs i r row h1 h2, M.nd⟩
theorem PenS.trans {s0 s1 s2 : Sto} {j N N' : Nat} (h : PenS s0 j s1 N) (h2 : PenS s1 j s2 N') : PenS s0 j s2 N' := by
  obtain ⟨m1, rfl, _⟩ := h
  obtain ⟨m2, rfl, q⟩ := h2
  exact ⟨m2, by rw [List.set_set], q⟩
/-! which are grey -/
def isG : Mp.D → Bool
  | .tup [_, .str x] => decide (x = "grey")
  | _ => false
def fstD : Mp.D → Mp.D
  | .tup (d :: _) => d
  | _ => .non
theorem nats_of {l : List Mp.D} (h : ∀ d ∈ l, ∃ i : Nat, d = natD i) : ∃ ns : List Nat, l = ns.map natD := by
  induction l with
  | nil => exact ⟨[], rfl⟩
  | cons d l ih =>
    obtain ⟨i, rfl⟩ := h d List.mem_cons_self
    obtain ⟨ns, e⟩ := ih fun d hd => h d (List.mem_cons_of_mem _ hd)
    exact ⟨i :: ns, by rw [e]; rfl⟩
theorem enum_of {ds : List Mp.D} {d : Mp.D} (h : d ∈ enumD ds) : ∃ (i : Nat) (x : Mp.D), ds[i]? = some x ∧ d = .tup [natD i, x] := by
  obtain ⟨i, hi⟩ := List.mem_iff_getElem?.mp h
  have hil : i < ds.length := by
    have := get_lt hi
    rwa [enumD_len] at this
  rw [enumD_at (List.getElem?_eq_getElem hil)] at hi
  exact ⟨i, ds[i], List.getElem?_eq_getElem hil, (Option.some.inj hi).symm⟩
def wScanOf : Wt := fun ds s Φ => ∃ (j N : Nat) (fl : Bool) (c : Ids) (wd : Nat) (m : Mo), ds = [.ref j, .str (modeS fl), .ref c.q] ∧ PenAt s j N ∧ N ≤ 80000 ∧ ModelAt s c wd m ∧ m.Ok wd ∧ j ∉ c.all ∧ ∀ (a : Act) (s' : Sto), a.fits fl → PenS s j s' (N + 6) → Φ (actD a) s'
theorem mem_filter_map {l : List Mp.D} {p : Mp.D → Bool} {f : Mp.D → Mp.D} {d : Mp.D} (h : d ∈ (l.filter p).map f) : ∃ x ∈ l, p x = true ∧ d = f x := by
  obtain ⟨x, hx, rfl⟩ := List.mem_map.mp h
  exact ⟨x, (List.mem_filter.mp hx).1, (List.mem_filter.mp hx).2, rfl⟩
theorem g_lscanof (T : Tx K mg) (GD : GDraw P w K mg base) (Df : DefG K mg "_law_scan_of" lScanOf) : GFn P w K mg base "_law_scan_of" 2 wScanOf := by
  refine mkG (N := ["_law_pen_here", "_law_mode", "_law_model_here", "_law_greys", "_law_x", "_law_f", "_law_left", "_law_color", "_law_k"]) (ps := ["_law_pen_here", "_law_mode", "_law_model_here"]) Df ⟨rfl, rfl, rfl, by decide +kernel, rfl, by decide +kernel, by decide +kernel⟩ (fun _ _ _ _ _ _ us hl => match us, hl with | [_, _, _], _ => rfl) (fun ds s Φ h => ?_) fun fa cdv A outer sh H E hr ds s Φ h => ?_
  · obtain ⟨_, _, _, _, _, _, rfl, _⟩ := h
    rfl
  · obtain ⟨j, N, fl, c, wd, m, rfl, hp, hN, M, ok, hjc, k⟩ := h
    have nd : (["_law_pen_here", "_law_mode", "_law_model_here", "_law_greys", "_law_x", "_law_f", "_law_left", "_law_color", "_law_k"] : List Str).Nodup := by decide +kernel
    have few := ok.few
    have w4 := ok.w4
    have w1 := ok.w1
    have hj := hp.lt
    have pl : (m.paint.map colD).length ≤ 1000 := by rw [List.length_map, ok.paint]; omega
    refine sms_cons (sm_lcP (own := [("_law_x", 4), ("_law_color", 7)]) 3 (.two 4 7) nd (blk_ok rfl) (im_enumL T.enumerate (em_md 3 (room1 hr) (em_v2 ⟨c.q, _, .ref c.p, rfl, M.q, rfl, m.paint.map colD, .ref M.p, isG, fstD, fun _ => (IsL.ref M.p).app, by rw [enumD_len]; exact pl, ?_, ?_, ?_⟩))) (tg_two 4 7 nd))
    · intro d hd
      obtain ⟨i, x, hx, rfl⟩ := enum_of hd
      rw [List.getElem?_map, Option.map_eq_some_iff] at hx
      obtain ⟨cc, _, rfl⟩ := hx
      refine ⟨_, rfl, fun s' mm es sh' H' C' cl fp => ?_⟩
      exact tm_cmp (em_v7 (em_str (v2_eqS (asB ⟨rfl, rfl, fun _ sh2 H2 C2 cl2 fp2 => em_v4 ⟨rfl, rfl⟩⟩))))
    · intro d hd _
      obtain ⟨i, x, hx, rfl⟩ := enum_of hd
      trivial
    obtain ⟨gs, eg⟩ := nats_of (l := ((enumD (m.paint.map colD)).filter isG).map fstD) fun d hd => by
      obtain ⟨x, hx, _, rfl⟩ := mem_filter_map hd
      obtain ⟨i, y, _, rfl⟩ := enum_of hx
      exact ⟨i, rfl⟩
    have gl : gs.length ≤ 1000 := by
      have e := congrArg List.length eg
      rw [List.length_map, List.length_map] at e
      have := List.length_filter_le isG (enumD (m.paint.map colD))
      rw [enumD_len] at this
      omega
    rw [eg]
    have tail : ∀ (x : Nat) (z : Option Mp.D) (s1 : Sto), PenS s j s1 (N + 3) → SMs (cxOf CX0 P w K mg base ["_law_pen_here", "_law_mode", "_law_model_here", "_law_greys", "_law_x", "_law_f", "_law_left", "_law_color", "_law_k"] "_law_scan_of" (defScope lScanOf) fa cdv A outer sh H E).nox [some (.ref j), some (.str (modeS fl)), some (.ref c.q), some (.lst (gs.map natD)), some (.int x), none, none, z, none] s1 ((defBody lScanOf).drop 3) { nx := fun _ s' => Φ .non s', rt := Φ } := by
      intro x z s1 p1
      have M1 := p1.model M hjc
      refine sms_cons (sm_if (tm_cmp (em_v1 (em_str (v2_eqS (asB ?_))))))
      cases fl with
      | false => exact bif_TT (sms_cons (sm_ret (em_tup (am_cons (em_str (am_cons (em_v4 (am_nil ⟨Nat.le_of_ble_eq_true rfl, k (.scan x) s1 rfl (p1.mono (by omega))⟩))))))))
      | true =>
        refine bif_FF (sms_nil (sms_cons (sm_set 5 nd (em_call GD hr (am_cons (em_v0 (am_cons (em_md 0 (room1 hr) (em_v2 ⟨c.q, _, .int wd, rfl, M1.q, rfl, am_nil ⟨j, N + 3, wd, rfl, p1.at_ hj, by omega, w1, by omega, fun f m2 hf2 hm2 => ?_⟩⟩)))))))))
        have p2 : PenS s j (s1.set j m2) (N + 4) := p1.next hm2
        have M2 := p2.model M hjc
        generalize s1.set j m2 = s2 at p2 M2
        have sl2 : x < m.seen.length → seenL (m.seen.getD x []) = seenL (m.seen.getD x []) := fun _ => rfl
        refine sms_cons (sm_lcP (own := [("_law_k", 8)]) 6 (.one 8) nd (blk_ok rfl) (im_range T.range (em_md 0 (room1 hr) (em_v2 ⟨c.q, _, .int wd, rfl, M2.q, rfl, wd, rfl, by omega, fun d => decide (x < m.seen.length) && !decide (natOf d ∈ m.seen.getD x []), fun d => d, fun _ => trivial, by rw [intsD_len]; omega, ?_, ?_, ?_⟩))) (tg_one 8 nd))
        · intro d hd
          obtain ⟨i, hi, rfl⟩ := List.mem_map.mp hd
          refine ⟨_, rfl, fun s' mm es sh' H' C' cl fp => ?_⟩
          subst es
          have M3 := M2.app [mm]
          refine tm_w (wm_and (tm_cmp (em_v4 (em_callB (id := "len") T.len (am_cons (em_md 4 (room1 hr) (em_v2 ⟨c.q, _, .ref c.e, rfl, M3.q, rfl, am_nil (vc_lenL (.ref M3.e) (v2_lt (asB ?_)))⟩)))))))
          rw [List.length_map, show decide ((x : Int) < (m.seen.length : Int)) = decide (x < m.seen.length) from decide_eq_decide.mpr Int.ofNat_lt]
          refine bif_d (fun hx => ?_) fun hx => ?_
          · refine wm_and1 (tm_cmp (em_v8 (em_ix (em_md 4 (room1 hr) (em_v2 ⟨c.q, _, .ref c.e, rfl, M3.q, rfl, em_v4 (vi_ref M3.e (seenL_at (seen_of hx)) (v2_ninL (.lst _) rfl (fl_nats _) (asB ⟨?_, rfl, fun _ sh2 H2 C2 cl2 fp2 => em_v8 ⟨rfl, rfl⟩⟩)))⟩)))))
            show (!inD (natD i) _) = _
            rw [inD_nats, decide_eq_true hx]
            rfl
          · exact ⟨by rw [decide_eq_false hx]; rfl, rfl, nofun⟩
        · intro d hd _
          obtain ⟨i, _, rfl⟩ := List.mem_map.mp hd
          trivial
        obtain ⟨ls, el⟩ := nats_of (l := ((intsD wd).filter fun d => decide (x < m.seen.length) && !decide (natOf d ∈ m.seen.getD x [])).map fun d => d) fun d hd => by
          obtain ⟨y, hy, _, rfl⟩ := mem_filter_map hd
          obtain ⟨i, _, rfl⟩ := List.mem_map.mp hy
          exact ⟨i, rfl⟩
        have ll : ls.length ≤ 1000 := by
          have e := congrArg List.length el
          rw [List.length_map, List.length_map] at e
          have := List.length_filter_le (fun d => decide (x < m.seen.length) && !decide (natOf d ∈ m.seen.getD x [])) (intsD wd)
          rw [intsD_len] at this
          omega
        rw [el]
        have fin : ∀ (f' : Nat) (s3 : Sto), PenS s j s3 (N + 6) → SMs (cxOf CX0 P w K mg base ["_law_pen_here", "_law_mode", "_law_model_here", "_law_greys", "_law_x", "_law_f", "_law_left", "_law_color", "_law_k"] "_law_scan_of" (defScope lScanOf) fa cdv A outer sh H E).nox [some (.ref j), some (.str (modeS true)), some (.ref c.q), some (.lst (gs.map natD)), some (.int x), some (.int f'), some (.lst (ls.map natD)), z, none] s3 ((defBody lScanOf).drop 7) { nx := fun _ s' => Φ .non s', rt := Φ } := fun f' s3 p3 =>
          sms_cons (sm_ret (em_tup (am_cons (em_str (am_cons (em_v4 (am_cons (em_v5 (am_nil ⟨Nat.le_of_ble_eq_true rfl, k (.scanF x f') s3 rfl p3⟩)))))))))
        refine sms_cons (sm_if (tm_w (wm_and (tm_cmp (em_v6 (em_lst (am_nil ⟨Nat.le_of_ble_eq_true rfl, v2_neN (l := ls) (room64 hr) (asB (bif_nd (fun hne => ?_) fun _ => bif_f (sms_nil (fin f s2 (p2.mono (by omega))))))⟩)))))))
        refine wm_and1 (tm_cmp (em_call GD hr (am_cons (em_v0 (am_cons (em_int (am_nil ⟨j, N + 4, 4, rfl, p2.at_ hj, by omega, by decide, by decide, fun d3 m3 hd3 hm3 => em_int (v2_gt (asB ?_))⟩)))))))
        have p3 : PenS s j (s2.set j m3) (N + 5) := p2.next hm3
        generalize s2.set j m3 = s3 at p3
        refine bif_d (fun _ => ?_) fun _ => sms_nil (fin f s3 (p3.mono (by omega)))
        have lpos : 1 ≤ ls.length := by
          cases ls with
          | nil => exact absurd rfl hne
          | cons a l => exact Nat.succ_le_succ (Nat.zero_le _)
        refine sms_cons (sm_set 5 nd (em_ix (em_v6 (em_call GD hr (am_cons (em_v0 (am_cons (em_callB (id := "len") T.len (am_cons (em_v6 (am_nil (vc_lenL (.lst _) (am_nil ⟨j, N + 5, ls.length, by rw [List.length_map], p3.at_ hj, by omega, lpos, ll, fun d4 m4 hd4 hm4 => ?_⟩)))))))))))))
        have hd4' : d4 < (ls.map natD).length := by rw [List.length_map]; exact hd4
        have e4 : (ls.map natD)[d4] = .int (ls[d4] : Nat) := List.getElem_map _
        refine vi_lst (pick hd4') ?_
        rw [e4]
        exact sms_nil (fin _ _ (p3.next hm4))
    refine sms_cons (sm_set 4 nd (em_call GD hr (am_cons (em_v0 (am_cons (em_bin (em_callB (id := "len") T.len (am_cons (em_md 1 (room1 hr) (em_v2 ⟨c.q, _, .ref c.a, rfl, M.q, rfl, am_nil (vc_lenL (.ref M.a) (em_int (v2_addI (am_nil ⟨j, N, m.rows.length + 1, by rw [List.length_map, M.len]; rfl, hp, by omega, by omega, by omega, fun x m1 hx1 hm1 => ?_⟩))))⟩))))))))))
    have p1 : PenS s j (s.set j m1) (N + 1) := hp.s.next hm1
    generalize s.set j m1 = s1 at p1
    refine sms_cons (sm_if (tm_w (wm_and (tm_cmp (em_v3 (em_lst (am_nil ⟨Nat.le_of_ble_eq_true rfl, v2_neN (l := gs) (room64 hr) (asB (bif_nd (fun hne => ?_) fun _ => bif_f (sms_nil (tail x _ s1 (p1.mono (by omega))))))⟩)))))))
    refine wm_and1 (tm_cmp (em_call GD hr (am_cons (em_v0 (am_cons (em_int (am_nil ⟨j, N + 1, 4, rfl, p1.at_ hj, by omega, by decide, by decide, fun d2 m2 hd2 hm2 => em_int (v2_gt (asB ?_))⟩)))))))
    have p2 : PenS s j (s1.set j m2) (N + 2) := p1.next hm2
    generalize s1.set j m2 = s2 at p2
    refine bif_d (fun _ => ?_) fun _ => sms_nil (tail x _ s2 (p2.mono (by omega)))
    have gpos : 1 ≤ gs.length := by
      cases gs with
      | nil => exact absurd rfl hne
      | cons a l => exact Nat.succ_le_succ (Nat.zero_le _)
    refine sms_cons (sm_set 4 nd (em_ix (em_v3 (em_call GD hr (am_cons (em_v0 (am_cons (em_callB (id := "len") T.len (am_cons (em_v3 (am_nil (vc_lenL (.lst _) (am_nil ⟨j, N + 2, gs.length, by rw [List.length_map], p2.at_ hj, by omega, gpos, gl, fun d3 m3 hd3 hm3 => ?_⟩)))))))))))))
    have hd3' : d3 < (gs.map natD).length := by rw [List.length_map]; exact hd3
    have e3 : (gs.map natD)[d3] = .int (gs[d3] : Nat) := List.getElem_map _
    refine vi_lst (pick hd3') ?_
    rw [e3]
    exact sms_nil (tail _ _ _ (p2.next hm3))
end Sg
end T_Q16

section T_Q17
set_option autoImplicit true
set_option maxRecDepth 100000
set_option maxHeartbeats 4000000
namespace Sg
open PySem L2 Mp
variable {P : Program} {w : World} {K : PySem.W.Frag} {mg : Str → Option Value} {base : Heap}
abbrev lAct : Stmt := top 96
def words16 : List Str := ["load", "load", "load", "store", "store", "store", "store", "move", "clear", "new", "scan", "scan", "scan", "look", "end", "start"]
theorem words16_cases {W : Str} (h : W ∈ words16) : W = "load" ∨ W = "store" ∨ W = "move" ∨ W = "clear" ∨ W = "new" ∨ (W = "scan" ∨ W = "look" ∨ W = "end" ∨ W = "start") := by
  unfold words16 at h
  simp only [List.mem_cons, List.not_mem_nil, or_false] at h
  rcases h with rfl | rfl | rfl | rfl | rfl | rfl | rfl | rfl | rfl | rfl | rfl | rfl | rfl | rfl | rfl | rfl <;> simp
def wAct16 : Wt := fun ds s Φ => ∃ (j N : Nat) (fl : Bool) (c : Ids) (wd : Nat) (m : Mo), ds = [.ref j, .str (modeS fl), .ref c.q] ∧ PenAt s j N ∧ N ≤ 70000 ∧ ModelAt s c wd m ∧ m.Ok wd ∧ j ∉ c.all ∧ ∀ (a : Act) (s' : Sto), a.fits fl → PenS s j s' (N + 20) → Φ (actD a) s'
theorem g_lact (T : Tx K mg) (GD : GDraw P w K mg base) (GS : GFn P w K mg base "_law_scan_of" 2 wScanOf) (Df : DefG K mg "_law_act" lAct) : GFn P w K mg base "_law_act" 3 wAct16 := by
  refine mkG (N := ["_law_pen_here", "_law_mode", "_law_model_here", "_law_words", "_law_word", "_law_many", "_law_wide", "_law_r", "_law_s", "_law_f"]) (ps := ["_law_pen_here", "_law_mode", "_law_model_here"]) Df ⟨rfl, rfl, rfl, by decide +kernel, rfl, by decide +kernel, by decide +kernel⟩ (fun _ _ _ _ _ _ us hl => match us, hl with | [_, _, _], _ => rfl) (fun ds s Φ h => ?_) fun fa cdv A outer sh H E hr ds s Φ h => ?_
  · obtain ⟨_, _, _, _, _, _, rfl, _⟩ := h
    rfl
  · obtain ⟨j, N, fl, c, wd, m, rfl, hp, hN, M, ok, hjc, k⟩ := h
    have nd : (["_law_pen_here", "_law_mode", "_law_model_here", "_law_words", "_law_word", "_law_many", "_law_wide", "_law_r", "_law_s", "_law_f"] : List Str).Nodup := by decide +kernel
    have hrd := hr.mono (show 1 ≤ 2 by decide)
    have h1 := ok.h1
    have h6 := ok.h6
    have w4 := ok.w4
    have w1 := ok.w1
    have hj := hp.lt
    refine sms_cons (sm_set 3 nd (em_lst (am_cons (em_str (am_cons (em_str (am_cons (em_str (am_cons (em_str (am_cons (em_str (am_cons (em_str (am_cons (em_str (am_cons (em_str (am_cons (em_str (am_cons (em_str (am_cons (em_str (am_cons (em_str (am_cons (em_str (am_cons (em_str (am_cons (em_str (am_cons (em_str (am_nil ⟨Nat.le_of_ble_eq_true rfl, ?_⟩)))))))))))))))))))))))))))))))))))
    refine sms_cons (sm_set 4 nd (em_ix (em_v3 (em_call GD hrd (am_cons (em_v0 (am_cons (em_int (am_nil ⟨j, N, 16, rfl, hp, by omega, by decide, by decide, fun d m1 hd hm1 => ?_⟩)))))))))
    have hd' : d < (words16.map Mp.D.str).length := hd
    refine vi_lst (ds := words16.map Mp.D.str) (pick hd') ?_
    rw [List.getElem_map]
    have hW : words16[d] ∈ words16 := List.getElem_mem _
    generalize words16[d] = W at hW
    have p1 : PenS s j (s.set j m1) (N + 1) := hp.s.next hm1
    generalize s.set j m1 = s1 at p1
    have M1 := p1.model M hjc
    have rest : ∀ s2, PenS s j s2 (N + 2) → SMs (cxOf CX0 P w K mg base ["_law_pen_here", "_law_mode", "_law_model_here", "_law_words", "_law_word", "_law_many", "_law_wide", "_law_r", "_law_s", "_law_f"] "_law_act" (defScope lAct) fa cdv A outer sh H E).nox [some (.ref j), some (.str (modeS fl)), some (.ref c.q), some (.lst (words16.map Mp.D.str)), some (.str W), none, none, none, none, none] s2 ((defBody lAct).drop 3) { nx := fun _ s' => Φ .non s', rt := Φ } := by
      intro s2 p2
      have M2 := p2.model M hjc
      refine sms_cons (sm_set 5 nd (em_bin (em_callB (id := "len") T.len (am_cons (em_md 2 (room1 hr) (em_v2 ⟨c.q, _, .ref c.h, rfl, M2.q, rfl, am_nil (vc_lenL (.ref M2.h) (em_callTy (T := "int") T.int (am_cons (em_cmp (em_call GD hrd (am_cons (em_v0 (am_cons (em_int (am_nil ⟨j, N + 2, 12, rfl, p2.at_ hj, by omega, by decide, by decide, fun d3 m3 hd3 hm3 => em_int (v2_eqI (am_nil (vc_intB (v2_addI ?_))))⟩))))))))))⟩))))))
      have p3 : PenS s j (s2.set j m3) (N + 3) := p2.next hm3
      generalize s2.set j m3 = s3 at p3
      have M3 := p3.model M hjc
      have e5 : ((((m.held.map oD).length : Nat) : Int) + if decide ((d3 : Int) = 0) = true then 1 else 0) = ((m.held.length + (if d3 = 0 then 1 else 0) : Nat) : Int) := by
        rw [List.length_map]
        by_cases h : d3 = 0
        · rw [if_pos h, if_pos (decide_eq_true (by omega))]; rfl
        · rw [if_neg h, if_neg (fun z => h (by have := of_decide_eq_true z; omega))]; rfl
      rw [e5]
      have b5 : 1 ≤ m.held.length + (if d3 = 0 then 1 else 0) ∧ m.held.length + (if d3 = 0 then 1 else 0) ≤ 7 := by split <;> omega
      generalize m.held.length + (if d3 = 0 then 1 else 0) = many at b5
      refine sms_cons (sm_set 6 nd (em_bin (em_md 0 (room1 hr) (em_v2 ⟨c.q, _, .int wd, rfl, M3.q, rfl, em_callTy (T := "int") T.int (am_cons (em_cmp (em_call GD hrd (am_cons (em_v0 (am_cons (em_int (am_nil ⟨j, N + 3, 12, rfl, p3.at_ hj, by omega, by decide, by decide, fun d4 m4 hd4 hm4 => em_int (v2_eqI (am_nil (vc_intB (v2_addI ?_))))⟩))))))))⟩))))
      have p4 : PenS s j (s3.set j m4) (N + 4) := p3.next hm4
      generalize s3.set j m4 = s4 at p4
      have e6 : ((wd : Int) + if decide ((d4 : Int) = 0) = true then 1 else 0) = ((wd + (if d4 = 0 then 1 else 0) : Nat) : Int) := by
        by_cases h : d4 = 0
        · rw [if_pos h, if_pos (decide_eq_true (by omega))]; rfl
        · rw [if_neg h, if_neg (fun z => h (by have := of_decide_eq_true z; omega))]; rfl
      rw [e6]
      have b6 : 1 ≤ wd + (if d4 = 0 then 1 else 0) ∧ wd + (if d4 = 0 then 1 else 0) ≤ 7 := by split <;> omega
      generalize wd + (if d4 = 0 then 1 else 0) = wide at b6
      refine sms_cons (sm_par3 7 8 9 nd (am_cons (em_call GD hrd (am_cons (em_v0 (am_cons (em_v5 (am_nil ⟨j, N + 4, many, rfl, p4.at_ hj, by omega, by omega, by omega, fun r m5 hr5 hm5 => ?_⟩))))))) (by decide) (by decide) (by decide) rfl)
      have p5 : PenS s j (s4.set j m5) (N + 5) := p4.next hm5
      generalize s4.set j m5 = s5 at p5
      refine am_cons (em_call GD hrd (am_cons (em_v0 (am_cons (em_v5 (am_nil ⟨j, N + 5, many, rfl, p5.at_ hj, by omega, by omega, by omega, fun q m6 hr6 hm6 => ?_⟩))))))
      have p6 : PenS s j (s5.set j m6) (N + 6) := p5.next hm6
      generalize s5.set j m6 = s6 at p6
      refine am_cons (em_call GD hrd (am_cons (em_v0 (am_cons (em_v6 (am_nil ⟨j, N + 6, wide, rfl, p6.at_ hj, by omega, by omega, by omega, fun f m7 hr7 hm7 => am_nil ⟨_, _, _, rfl, ?_⟩⟩))))))
      have p7 : PenS s j (s6.set j m7) (N + 7) := p6.next hm7
      generalize s6.set j m7 = s7 at p7
      have fin : ∀ a : Act, a.fits fl → Φ (actD a) s7 := fun a hf => k a s7 hf (p7.mono (by omega))
      have sc2 : ∀ W' : Str, (W' = "scan" ∨ W' = "look" ∨ W' = "end" ∨ W' = "start") → SMs (cxOf CX0 P w K mg base ["_law_pen_here", "_law_mode", "_law_model_here", "_law_words", "_law_word", "_law_many", "_law_wide", "_law_r", "_law_s", "_law_f"] "_law_act" (defScope lAct) fa cdv A outer sh H E).nox [some (.ref j), some (.str (modeS fl)), some (.ref c.q), some (.lst (words16.map Mp.D.str)), some (.str W'), some (.int many), some (.int wide), some (.int r), some (.int q), some (.int f)] s7 ((defBody lAct).drop 10) { nx := fun _ s' => Φ .non s', rt := Φ } := by
        intro W' hW'
        refine sms_cons (sm_ret (em_if (tm_cmp (em_v4 (em_str (v2_eqS (asB ?_)))))))
        rcases hW' with rfl | rfl | rfl | rfl
        · exact bif_TT (em_call GS hr (am_cons (em_v0 (am_cons (em_v1 (am_cons (em_v2 (am_nil ⟨j, N + 7, fl, c, wd, m, rfl, p7.at_ hj, by omega, p7.model M hjc, ok, hjc, fun a s' hf ps => k a s' hf ((p7.trans ps).mono (by omega))⟩))))))))
        · exact bif_FF (em_tup (am_cons (em_v4 (am_nil ⟨Nat.le_of_ble_eq_true rfl, fin .look trivial⟩))))
        · exact bif_FF (em_tup (am_cons (em_v4 (am_nil ⟨Nat.le_of_ble_eq_true rfl, fin .fin trivial⟩))))
        · exact bif_FF (em_tup (am_cons (em_v4 (am_nil ⟨Nat.le_of_ble_eq_true rfl, fin .start trivial⟩))))
      have no : ∀ W' : Str, W' = "scan" ∨ W' = "look" ∨ W' = "end" ∨ W' = "start" → decide (W' = "load") = false ∧ decide (W' = "store") = false ∧ decide (W' = "move") = false ∧ inD (.str W') [.str "clear", .str "new"] = false := by
        intro W' h
        rcases h with rfl | rfl | rfl | rfl <;> exact ⟨by decide +kernel, by decide +kernel, by decide +kernel, by decide +kernel⟩
      rcases words16_cases hW with rfl | rfl | rfl | rfl | rfl | hW
      · exact sms_cons (sm_if (tm_cmp (em_v4 (em_str (v2_eqS (asB (bif_TT (sms_cons (sm_ret (em_tup (am_cons (em_v4 (am_cons (em_v7 (am_cons (em_v8 (am_cons (em_v9 (am_nil ⟨Nat.le_of_ble_eq_true rfl, fin (.load r q f) trivial⟩)))))))))))))))))))
      · refine sms_cons (sm_if (tm_cmp (em_v4 (em_str (v2_eqS (asB (bif_FF (sms_nil (sms_cons (sm_if (tm_cmp (em_v4 (em_str (v2_eqS (asB (bif_TT ?_))))))))))))))))
        refine sms_cons (sm_ret (em_tup (am_cons (em_v4 (am_cons (em_v8 (am_cons (em_v9 (am_cons (em_ix (em_lst (am_cons (em_non (am_cons (em_v7 (am_nil ⟨Nat.le_of_ble_eq_true rfl, em_callTy (T := "int") T.int (am_cons (em_cmp (em_call GD hrd (am_cons (em_v0 (am_cons (em_int (am_nil ⟨j, N + 7, 3, rfl, p7.at_ hj, by omega, by decide, by decide, fun d8 m8 hd8 hm8 => em_int (v2_gt (am_nil (vc_intB (vi_lst (d := oD (if 0 < d8 then some r else none)) ?_ (am_nil ⟨Nat.le_of_ble_eq_true rfl, k (.store q f (if 0 < d8 then some r else none)) _ trivial ((p7.next hm8).mono (by omega))⟩)))))⟩))))))))⟩))))))))))))))))
        by_cases h : 0 < d8
        · rw [if_pos h, decide_eq_true (by omega)]
          rfl
        · rw [if_neg h, decide_eq_false (by omega)]
          rfl
      · exact sms_cons (sm_if (tm_cmp (em_v4 (em_str (v2_eqS (asB (bif_FF (sms_nil (sms_cons (sm_if (tm_cmp (em_v4 (em_str (v2_eqS (asB (bif_FF (sms_nil (sms_cons (sm_if (tm_cmp (em_v4 (em_str (v2_eqS (asB (bif_TT (sms_cons (sm_ret (em_tup (am_cons (em_v4 (am_cons (em_v7 (am_cons (em_v8 (am_nil ⟨Nat.le_of_ble_eq_true rfl, fin (.move r q) trivial⟩)))))))))))))))))))))))))))))))))))
      · exact sms_cons (sm_if (tm_cmp (em_v4 (em_str (v2_eqS (asB (bif_FF (sms_nil (sms_cons (sm_if (tm_cmp (em_v4 (em_str (v2_eqS (asB (bif_FF (sms_nil (sms_cons (sm_if (tm_cmp (em_v4 (em_str (v2_eqS (asB (bif_FF (sms_nil (sms_cons (sm_if (tm_cmp (em_v4 (em_tup (am_cons (em_str (am_cons (em_str (am_nil ⟨Nat.le_of_ble_eq_true rfl, v2_inT rfl rfl (asB (bif_TT (sms_cons (sm_ret (em_tup (am_cons (em_v4 (am_cons (em_v7 (am_nil ⟨Nat.le_of_ble_eq_true rfl, fin (.clear r) trivial⟩))))))))))⟩))))))))))))))))))))))))))))))))))))
      · exact sms_cons (sm_if (tm_cmp (em_v4 (em_str (v2_eqS (asB (bif_FF (sms_nil (sms_cons (sm_if (tm_cmp (em_v4 (em_str (v2_eqS (asB (bif_FF (sms_nil (sms_cons (sm_if (tm_cmp (em_v4 (em_str (v2_eqS (asB (bif_FF (sms_nil (sms_cons (sm_if (tm_cmp (em_v4 (em_tup (am_cons (em_str (am_cons (em_str (am_nil ⟨Nat.le_of_ble_eq_true rfl, v2_inT rfl rfl (asB (bif_TT (sms_cons (sm_ret (em_tup (am_cons (em_v4 (am_cons (em_v7 (am_nil ⟨Nat.le_of_ble_eq_true rfl, fin (.new r) trivial⟩))))))))))⟩))))))))))))))))))))))))))))))))))))
      · obtain ⟨n1, n2, n3, n4⟩ := no W hW
        exact sms_cons (sm_if (tm_cmp (em_v4 (em_str (v2_eqS (asB (bif_eq n1 (bif_f (sms_nil (sms_cons (sm_if (tm_cmp (em_v4 (em_str (v2_eqS (asB (bif_eq n2 (bif_f (sms_nil (sms_cons (sm_if (tm_cmp (em_v4 (em_str (v2_eqS (asB (bif_eq n3 (bif_f (sms_nil (sms_cons (sm_if (tm_cmp (em_v4 (em_tup (am_cons (em_str (am_cons (em_str (am_nil ⟨Nat.le_of_ble_eq_true rfl, v2_inT rfl rfl (asB (bif_eq n4 (bif_f (sms_nil (sc2 W hW)))))⟩)))))))))))))))))))))))))))))))))))))))
    refine sms_cons (sm_if (tm_w (wm_and (tm_cmp (em_md 5 (room1 hr) (em_v2 ⟨c.q, _, .str m.ph.s, rfl, M1.q, rfl, em_str (v2_eqS (asB (bif_d (fun _ => ?_) fun _ => bif_f (sms_nil (rest s1 (p1.mono (by omega)))))))⟩))))))
    refine wm_and1 (tm_cmp (em_call GD hrd (am_cons (em_v0 (am_cons (em_int (am_nil ⟨j, N + 1, 8, rfl, p1.at_ hj, by omega, by decide, by decide, fun d2 m2 hd2 hm2 => em_int (v2_gt (asB ?_))⟩)))))))
    have p2 : PenS s j (s1.set j m2) (N + 2) := p1.next hm2
    generalize s1.set j m2 = s2 at p2
    refine bif_d (fun _ => ?_) fun _ => sms_nil (rest s2 p2)
    exact sms_cons (sm_ret (em_tup (am_cons (em_str (am_nil ⟨Nat.le_of_ble_eq_true rfl, k .start s2 trivial (p2.mono (by omega))⟩)))))
end Sg
end T_Q17

section T_Q18
set_option autoImplicit true
set_option maxRecDepth 100000
set_option maxHeartbeats 4000000
namespace Sg
open PySem L2 Mp
variable {P : Program} {w : World} {K : PySem.W.Frag} {mg : Str → Option Value} {base : Heap}
abbrev lShadesR : Stmt := top 97
abbrev lScanR : Stmt := top 98
def shadesL : List Mp.D := [.str "white", .str "grey", .str "black"]
theorem idx_ok (c : Col) : ∃ z, shadesL[c.rank]? = some z ∧ eqD z (colD c) = true ∧ ∀ (n : Nat) (z' : Mp.D), n < c.rank → shadesL[n]? = some z' → eqD z' (colD c) = false := by
  cases c with
  | w => exact ⟨_, rfl, by decide +kernel, fun n z' h => absurd h (Nat.not_lt_zero _)⟩
  | g =>
    refine ⟨_, rfl, by decide +kernel, fun n z' h e => ?_⟩
    have h : n < 1 := h
    match n, h, e with
    | 0, _, e => cases e; decide +kernel
  | b =>
    refine ⟨_, rfl, by decide +kernel, fun n z' h e => ?_⟩
    have h : n < 2 := h
    match n, h, e with
    | 0, _, e => cases e; decide +kernel
    | 1, _, e => cases e; decide +kernel
section
variable {X : Cx} {ρ : Slo} {s : Sto} {Φ : Mp.D → Sto → Prop} {pos p : Pos} {o e : Expr} {apos : Pos}
theorem em_rank {cpos : Pos} (h : EM X ρ s o fun x s1 => x = .lst shadesL ∧ EM X ρ s1 e fun y s2 => ∃ c : Col, y = colD c ∧ Φ (.int (c.rank : Nat)) s2)
    (hbase : attributeBase o "index" X.env (eval o X.env) = eval o X.env := by rfl)
    (hfew : ((backTo cpos (starEach [e] X.env)).all (fun x => !x.1) && (backToKw cpos (keywordEach [] X.env)).all (fun x => x.1.isSome)
      && decide (([e] : List Expr).length + ([] : List Keyword).length + (if ([] : List Keyword).isEmpty then 0 else 1) < 30)) = true := by rfl)
    (hline : (apos.endLine == cpos.line) = true := by rfl) (hs : starEach [e] X.env = (false, eval e X.env) :: starEach [] X.env := by rfl) : EM X ρ s (.Call (.Attribute o "index" apos) [e] [] cpos) Φ :=
  em_index (em_mono h fun x s1 ⟨e1, h1⟩ => ⟨shadesL, e1, em_mono h1 fun y s2 ⟨c, e2, q⟩ => by
    obtain ⟨z, z1, z2, z3⟩ := idx_ok c
    subst e2
    exact ⟨c.rank, z, rfl, rfl, z1, z2, z3, q⟩⟩) hbase hfew hline hs
theorem v2_ninE {e : Ent} {l : List Ent} (hu : X.A.units + 65 < cLine) (h : Φ (.bl (!decide (e ∈ l))) s) : V2 X (compareOp .NotIn) (entD e) (entsD l) s Φ :=
  v2_ninP hu (toP_ent e) (toPs_ents l) (shaped_ent e) (shaped_ents l) (any_ent l e) h
end
def wShadesR : Wt := fun ds s Φ => ∃ (l : List Ent) (cf : Col) (b : Bool) (wd : Nat) (m : Mo) (a : Act) (m' : Mo), ds = [ruleD l cf b, stateD wd m, actD a, stateD wd m'] ∧ m.paint.length ≤ m'.paint.length ∧ m.paint.length ≤ 1000 ∧ ShadeOk l a m m' ∧ Φ (.bl true) s
theorem g_lshadesr (T : Tx K mg) (Df : DefG K mg "_law_shades_right" lShadesR) : GFn P w K mg base "_law_shades_right" 1 wShadesR := by
  refine mkG (N := ["_law_rule_here", "_law_before", "_law_act_here", "_law_after", "_law_shades", "_law_x"]) (ps := ["_law_rule_here", "_law_before", "_law_act_here", "_law_after"]) Df ⟨rfl, rfl, rfl, by decide +kernel, rfl, by decide +kernel, by decide +kernel⟩ (fun _ _ _ _ _ _ us hl => match us, hl with | [_, _, _, _], _ => rfl) (fun ds s Φ h => ?_) fun fa cdv A outer sh H E hr ds s Φ h => ?_
  · obtain ⟨_, _, _, _, _, _, _, rfl, _⟩ := h
    rfl
  · obtain ⟨l, cf, b, wd, m, a, m', rfl, hl, hl2, ok, k⟩ := h
    have nd : (["_law_rule_here", "_law_before", "_law_act_here", "_law_after", "_law_shades", "_law_x"] : List Str).Nodup := by decide +kernel
    have s2 : ∀ {m : Mo}, atI [heapD wd m.rows, rowD m.held, paintD m.paint, seenD m.seen] 2 = some (paintD m.paint) := fun {m} => rfl
    have s1 : ∀ {m : Mo}, atI [heapD wd m.rows, rowD m.held, paintD m.paint, seenD m.seen] 1 = some (rowD m.held) := fun {m} => rfl
    refine sms_cons (sm_set 4 nd (em_lst (am_cons (em_str (am_cons (em_str (am_cons (em_str (am_nil ⟨Nat.le_of_ble_eq_true rfl, ?_⟩)))))))))
    refine sms_cut (fun ρ' s' => s' = s ∧ ∃ z, ρ' = [some (ruleD l cf b), some (stateD wd m), some (actD a), some (stateD wd m'), some (.lst shadesL), z]) (sm_forR (x := "range") T.range (em_callB (id := "len") T.len (am_cons (em_ix (em_v1 (em_int (vi_tup s2 (am_nil (vc_lenT (ds := m.paint.map colD) ⟨m.paint.length, by rw [List.length_map], hl2, fun i ρ' s' => s' = s ∧ ∃ z, ρ' = [some (ruleD l cf b), some (stateD wd m), some (actD a), some (stateD wd m'), some (.lst shadesL), z], ⟨rfl, none, rfl⟩, ?_, ?_⟩)))))))))  ?_
    · rintro i ρ' s' hi ⟨rfl, z, rfl⟩
      refine gm_name 5 nd ?_
      have e1 : m.paint[i]? = some m.paint[i] := List.getElem?_eq_getElem hi
      have e2 : m'.paint[i]? = some (m'.paint[i]'(Nat.lt_of_lt_of_le hi hl)) := List.getElem?_eq_getElem _
      generalize m.paint[i] = c1 at e1
      generalize m'.paint[i]'(Nat.lt_of_lt_of_le hi hl) = c2 at e2
      refine sms_cons (sm_if (tm_cmp (em_rank (em_v4 ⟨rfl, em_ix (em_ix (em_v3 (em_int (vi_tup s2 (em_v5 (vi_tup (paint_at e2) ⟨c2, rfl, em_rank (em_v4 ⟨rfl, em_ix (em_ix (em_v1 (em_int (vi_tup s2 (em_v5 (vi_tup (paint_at e1) ⟨c1, rfl, v2_lt (asB ?_)⟩))))))⟩)⟩))))))⟩))))
      refine bif_d (fun hlt => ?_) fun _ => sms_nil (sms_nil ⟨rfl, _, rfl⟩)
      obtain ⟨x', f, y, rfl, hh, hm⟩ := ok i c1 c2 e1 e2 (Int.ofNat_lt.mp hlt)
      refine sms_cons (sm_if (tm_w (wm_or (tm_cmp (em_ix (em_v2 (em_int (vi_tup (ds := .str "store" :: [natD x', natD f, oD y]) (d := .str "store") atI_0 (em_str (v2_neS (asB (bif_FF (wm_or (tm_cmp (em_ix (em_ix (em_v1 (em_int (vi_tup s1 (em_ix (em_v2 (em_int (vi_tup (ds := [.str "store", natD x', natD f, oD y]) (d := natD x') rfl (vi_tup (row_at hh) (em_v5 (v2_neI (asB (bif_nd (fun z => absurd rfl z) fun _ => wm_or1 (tm_cmp (em_tup (am_cons (em_str (am_cons (em_ix (em_ix (em_v1 (em_int (vi_tup s2 (em_v5 (vi_tup (paint_at e1) (am_nil ⟨Nat.le_of_ble_eq_true rfl, em_ix (em_v0 (em_int (vi_tup atI_0 (v2_ninE (e := (.source, c1)) (l := l) (room65 hr) (asB ?_)))))⟩)))))))))))))))))))))))))))))))))))))))))
      exact bif_nd (fun z => absurd hm z) fun _ => sms_nil (sms_nil (sms_nil ⟨rfl, _, rfl⟩))
    · rintro ρ' s' ⟨rfl, z, rfl⟩
      exact ⟨rfl, _, rfl⟩
    · rintro ρ' s' ⟨rfl, z, rfl⟩
      exact sms_cons (sm_ret (em_bl k))
/-! scans -/
def wScanR : Wt := fun ds s Φ => ∃ (wd : Nat) (m : Mo) (a : Act), ds = [actD a, stateD wd m] ∧ ScanOk m a ∧ Φ (.bl true) s
theorem g_lscanr (T : Tx K mg) (Df : DefG K mg "_law_scan_right" lScanR) : GFn P w K mg base "_law_scan_right" 1 wScanR := by
  refine mkG (N := ["_law_act_here", "_law_after", "_law_row", "_law_some", "_law_x"]) (ps := ["_law_act_here", "_law_after"]) Df ⟨rfl, rfl, rfl, by decide +kernel, rfl, by decide +kernel, by decide +kernel⟩ (fun _ _ _ _ _ _ us hl => match us, hl with | [_, _], _ => rfl) (fun ds s Φ h => ?_) fun fa cdv A outer sh H E hr ds s Φ h => ?_
  · obtain ⟨_, _, _, rfl, _⟩ := h
    rfl
  · obtain ⟨wd, m, a, rfl, ok, k⟩ := h
    have nd : (["_law_act_here", "_law_after", "_law_row", "_law_some", "_law_x"] : List Str).Nodup := by decide +kernel
    have s0 : atI [heapD wd m.rows, rowD m.held, paintD m.paint, seenD m.seen] 0 = some (heapD wd m.rows) := rfl
    have s2 : atI [heapD wd m.rows, rowD m.held, paintD m.paint, seenD m.seen] 2 = some (paintD m.paint) := rfl
    have h1 : atI [.int wd, rowsD m.rows] 1 = some (rowsD m.rows) := rfl
    refine sms_cons (sm_if (tm_cmp (em_ix (em_v0 (em_int (vi_tup (ds := .str a.word :: a.rest) (d := .str a.word) atI_0 (em_str (v2_neS (asB (bif_nd (fun _ => sms_cons (sm_ret (em_bl k))) fun e => sms_nil ?_))))))))))
    obtain ⟨x, hs⟩ := word_scan e
    have hx1 : atI (.str a.word :: a.rest) 1 = some (natD x) := by
      rcases hs with rfl | ⟨f, rfl⟩ <;> rfl
    obtain ⟨row, hrow⟩ : ∃ row, m.rows[x]? = some row := by
      rcases hs with rfl | ⟨f, rfl⟩
      · obtain ⟨row, e, _⟩ := ok; exact ⟨row, e⟩
      · obtain ⟨row, _, e, _⟩ := ok; exact ⟨row, e⟩
    refine sms_cons (sm_set 2 nd (em_ix (em_ix (em_ix (em_v1 (em_int (vi_tup s0 (em_int (vi_tup h1 (em_ix (em_v0 (em_int (vi_tup hx1 (vi_tup (rows_at hrow) ?_))))))))))))))
    have tail : ∀ sel : Row, Dark m sel → sel.length ≤ 100 → SMs (cxOf CX0 P w K mg base ["_law_act_here", "_law_after", "_law_row", "_law_some", "_law_x"] "_law_scan_right" (defScope lScanR) fa cdv A outer sh H E).nox [some (actD a), some (stateD wd m), some (rowD row), some (.lst (((sel.map oD).filter fun d => !Mp.isNon d).map fun d => d)), none] s ((defBody lScanR).drop 3) { nx := fun _ s' => Φ .non s', rt := Φ } := by
      intro sel dk hl
      refine sms_cons (sm_ret (em_cmp (em_lcP (own := [("_law_x", 4)]) (.one 4) nd (blk_ok rfl) (im_lst (em_v3 ⟨_, .lst _, fun _ => false, fun _ => .non, fun _ => .lst _, by
        have := List.length_filter_le (fun d => !Mp.isNon d) (sel.map oD)
        rw [List.length_map] at this ⊢
        omega, ?_, fun _ _ z => Bool.noConfusion z, ?_⟩)) (tg_one 4 nd))))
      · intro d hd
        obtain ⟨y, hy, hny, rfl⟩ := mem_filter_map hd
        obtain ⟨o, ho, rfl⟩ := List.mem_map.mp hy
        cases o with
        | none => cases hny
        | some i =>
          obtain ⟨cc, hc, hw⟩ := dk _ ho i rfl
          refine ⟨_, rfl, fun s' mm es sh' H' C' cl fp => tm_cmp (em_ix (em_ix (em_v1 (em_int (vi_tup s2 (em_v4 (vi_tup (paint_at hc) (em_str (v2_eqS (asB ⟨?_, es ▸ rfl, fun z => ?_⟩))))))))))⟩
          · rw [show decide (cc.s = "white") = decide (cc = .w) from col_dec cc .w, decide_eq_false hw]
          · rw [show decide (cc.s = "white") = decide (cc = .w) from col_dec cc .w, decide_eq_false hw] at z
            cases z
      · rw [filterF]
        exact em_lst (am_nil ⟨Nat.le_of_ble_eq_true rfl, v2_eqP (p := .list []) (q := .list []) (room64 hr) rfl rfl shaped_nil shaped_nil (k := true) rfl k⟩)
    have body : ∀ (sel : Row) (d : Mp.D), d ∈ sel.map oD → ∃ o ∈ sel, d = oD o := fun sel d hd => by
      obtain ⟨o, ho, e⟩ := List.mem_map.mp hd
      exact ⟨o, ho, e.symm⟩
    refine sms_cons (sm_lcP (own := [("_law_x", 4)]) 3 (.one 4) nd (blk_ok rfl) (im_lst (em_if (tm_cmp (em_callB (id := "len") T.len (am_cons (em_v0 (am_nil (vc_lenT (ds := .str a.word :: a.rest) (em_int (v2_eqI (asB ?_))))))))))) (tg_one 4 nd))
    rw [List.length_cons]
    rcases hs with rfl | ⟨f, rfl⟩
    · obtain ⟨row', e1, hl, dk⟩ := ok
      rw [hrow] at e1
      cases e1
      refine bif_TT (em_callTy (T := "list") T.list (am_cons (em_v2 (am_nil (vc_list (.tup _) ⟨row.map oD, .lst _, fun d => !Mp.isNon d, fun d => d, fun _ => .lst _, by rw [List.length_map]; omega, fun d hd => ?_, fun d hd _ => bd_oD _ hd, tail row dk hl⟩)))))
      obtain ⟨o, ho, rfl⟩ := body _ _ hd
      exact ⟨_, rfl, fun s' mm es sh' H' C' cl fp => tm_cmp (em_v4 (em_non (v2_notN (asB ⟨rfl, rfl, fun _ sh2 H2 C2 cl2 fp2 => em_v4 ⟨rfl, rfl⟩⟩))))⟩
    · obtain ⟨row', o, e1, ho, dk⟩ := ok
      rw [hrow] at e1
      cases e1
      refine bif_FF (em_lst (am_cons (em_ix (em_v2 (em_ix (em_v0 (em_int (vi_tup (ds := [.str "scan", natD x, natD f]) (d := natD f) rfl (vi_tup (row_at ho) (am_nil ⟨Nat.le_of_ble_eq_true rfl, [o].map oD, .lst _, fun d => !Mp.isNon d, fun d => d, fun _ => .lst _, Nat.le_of_ble_eq_true rfl, fun d hd => ?_, fun d hd _ => bd_oD _ hd, tail [o] dk (Nat.le_of_ble_eq_true rfl)⟩))))))))))
      obtain ⟨o, ho, rfl⟩ := body _ _ hd
      exact ⟨_, rfl, fun s' mm es sh' H' C' cl fp => tm_cmp (em_v4 (em_non (v2_notN (asB ⟨rfl, rfl, fun _ sh2 H2 C2 cl2 fp2 => em_v4 ⟨rfl, rfl⟩⟩))))⟩
end Sg
end T_Q18

section T_Q19
set_option autoImplicit true
set_option maxRecDepth 100000
set_option maxHeartbeats 4000000
namespace Sg
open PySem L2 Mp
variable {P : Program} {w : World} {K : PySem.W.Frag} {mg : Str → Option Value} {base : Heap}
abbrev lBegun : Stmt := top 99
def wBegun (CW CF CM : Addr) : Wt := fun ds s Φ => ∃ (wd : Nat) (rows : List Row) (held : Row) (fl : Bool) (tab : Mp.D), ds = [heapD wd rows, rowD held, .str (modeS fl), tab] ∧ Mp.isNon tab = false ∧ NetOk wd rows ∧ 1 ≤ held.length ∧ held.length ≤ 4 ∧ (fl = true → held.length ≤ 2) ∧ (∀ o ∈ held, ∀ i, o = some i → i < rows.length) ∧
  ∀ first : List Nat, (∀ x, x ∈ first ↔ Reaches rows (held.filterMap id) x) → first.length ≤ 40 → Φ (.ref s.length) (s ++ [cyc (if fl then CF else CW) wd rows.length first tab [.tup [.non, moD CM (firstMo rows held)]]])
theorem g_lbegun {CW CF CM : Addr} (T : Tx K mg) (MW : MkCK P w K mg base "Cycle" CW ["table"] 5 (wCinit CW CM)) (MF : MkCK P w K mg base "FieldCycle" CF ["table"] 5 (wCinit CF CM)) (Df : DefG K mg "_law_begun" lBegun) : GFn P w K mg base "_law_begun" 7 (wBegun CW CF CM) := by
  refine mkG (N := ["_law_net_here", "_law_cells", "_law_mode", "_law_book_here", "_law_a", "_law_b", "_law_c"]) (ps := ["_law_net_here", "_law_cells", "_law_mode", "_law_book_here"]) Df ⟨rfl, rfl, rfl, by decide +kernel, rfl, by decide +kernel, by decide +kernel⟩ (fun _ _ _ _ _ _ us hl => match us, hl with | [_, _, _, _], _ => rfl) (fun ds s Φ h => ?_) fun fa cdv A outer sh H E hr ds s Φ h => ?_
  · obtain ⟨_, _, _, _, _, rfl, _⟩ := h
    rfl
  · obtain ⟨wd, rows, held, fl, tab, rfl, ht, ok, h1, h4, h2, hh, k⟩ := h
    have nd : (["_law_net_here", "_law_cells", "_law_mode", "_law_book_here", "_law_a", "_law_b", "_law_c"] : List Str).Nodup := by decide +kernel
    have fin : ∀ C, C = (if fl then CF else CW) → [tab].length = ["table"].length ∧ MkQ (wCinit C CM) C (heapD wd rows :: held.map oD) [tab] s Φ := fun C hC => ⟨rfl, s.length, wd, rows, held, tab, rfl, rfl, ht, ok, h1, by omega, hh, get_last _ _, fun first hf hl => ⟨rfl, by rw [set_last, hC]; exact k first hf hl⟩⟩
    have ln : ∀ {a : Option Nat} {l : Row}, ((List.map oD (a :: l)).length : Int) = (l.length + 1 : Nat) := fun {a l} => by rw [List.length_map]; rfl
    refine sms_cons (sm_if (tm_cmp (em_v2 (em_str (v2_eqS (asB ?_))))))
    match held, h1, h4, h2, fin with
    | [a], _, _, _, fin =>
      cases fl with
      | false =>
        refine bif_TT (sms_cons (sm_if (tm_cmp (em_callB (id := "len") T.len (am_cons (em_v1 (am_nil (vc_lenT (ds := [a].map oD) (em_int (v2_eqI (asB (bif_TT ?_))))))))))))
        exact sms_cons (sm_ret (em_makeK (.inl rfl) MW hr (am_cons (em_v0 (am_cons (em_ix (em_v1 (em_int (vi_tup (ds := [oD a]) (d := oD a) rfl (am_nil (km_cons (em_v3 (km_nil (fin CW rfl))))))))))))))
      | true =>
        refine bif_FF (sms_nil (sms_cons (sm_if (tm_cmp (em_callB (id := "len") T.len (am_cons (em_v1 (am_nil (vc_lenT (ds := [a].map oD) (em_int (v2_eqI (asB (bif_TT ?_)))))))))))))
        exact sms_cons (sm_ret (em_makeK (.inl rfl) MF hr (am_cons (em_v0 (am_cons (em_ix (em_v1 (em_int (vi_tup (ds := [oD a]) (d := oD a) rfl (am_nil (km_cons (em_v3 (km_nil (fin CF rfl))))))))))))))
    | [a, b], _, _, _, fin =>
      cases fl with
      | false =>
        refine bif_TT (sms_cons (sm_if (tm_cmp (em_callB (id := "len") T.len (am_cons (em_v1 (am_nil (vc_lenT (ds := [a, b].map oD) (em_int (v2_eqI (asB (bif_FF (sms_nil ?_)))))))))))))
        refine sms_cons (sm_if (tm_cmp (em_callB (id := "len") T.len (am_cons (em_v1 (am_nil (vc_lenT (ds := [a, b].map oD) (em_int (v2_eqI (asB (bif_TT ?_)))))))))))
        exact sms_cons (sm_ret (em_makeK (.inl rfl) MW hr (am_cons (em_v0 (am_cons (em_ix (em_v1 (em_int (vi_tup (ds := [oD a, oD b]) (d := oD a) rfl (am_cons (em_ix (em_v1 (em_int (vi_tup (ds := [oD a, oD b]) (d := oD b) rfl (am_nil (km_cons (em_v3 (km_nil (fin CW rfl)))))))))))))))))))
      | true =>
        refine bif_FF (sms_nil (sms_cons (sm_if (tm_cmp (em_callB (id := "len") T.len (am_cons (em_v1 (am_nil (vc_lenT (ds := [a, b].map oD) (em_int (v2_eqI (asB (bif_FF (sms_nil ?_))))))))))))))
        exact sms_cons (sm_ret (em_makeK (.inl rfl) MF hr (am_cons (em_v0 (am_cons (em_ix (em_v1 (em_int (vi_tup (ds := [oD a, oD b]) (d := oD a) rfl (am_cons (em_ix (em_v1 (em_int (vi_tup (ds := [oD a, oD b]) (d := oD b) rfl (am_nil (km_cons (em_v3 (km_nil (fin CF rfl)))))))))))))))))))
    | [a, b, c], _, _, h2, fin =>
      cases fl with
      | true => exact absurd (h2 rfl) (Nat.not_le_of_lt (Nat.lt_of_lt_of_le (Nat.lt_succ_self 2) (Nat.le_refl 3)))
      | false =>
        refine bif_TT (sms_cons (sm_if (tm_cmp (em_callB (id := "len") T.len (am_cons (em_v1 (am_nil (vc_lenT (ds := [a, b, c].map oD) (em_int (v2_eqI (asB (bif_FF (sms_nil ?_)))))))))))))
        refine sms_cons (sm_if (tm_cmp (em_callB (id := "len") T.len (am_cons (em_v1 (am_nil (vc_lenT (ds := [a, b, c].map oD) (em_int (v2_eqI (asB (bif_FF (sms_nil ?_))))))))))))
        refine sms_cons (sm_asg (em_slice (em_v1 (om_none (om_some (em_int ⟨_, rfl, vsl_tup ?_⟩))))))
        rw [show cutD ([a, b, c].map oD) none (some 3) = [oD a, oD b, oD c] from cut_pre _ 3 (Nat.le_refl 3)]
        refine gm_tup (gms_cons (gm_name 4 nd (gms_cons (gm_name 5 nd (gms_cons (gm_name 6 nd (gms_nil ?_))))))) rfl
        refine sms_cons (sm_if (tm_cmp (em_callB (id := "len") T.len (am_cons (em_v1 (am_nil (vc_lenT (ds := [a, b, c].map oD) (em_int (v2_eqI (asB (bif_TT ?_)))))))))))
        exact sms_cons (sm_ret (em_makeK (.inl rfl) MW hr (am_cons (em_v0 (am_cons (em_v4 (am_cons (em_v5 (am_cons (em_v6 (am_nil (km_cons (em_v3 (km_nil (fin CW rfl)))))))))))))))
    | [a, b, c, d], _, _, h2, fin =>
      cases fl with
      | true => exact absurd (h2 rfl) (Nat.not_le_of_lt (Nat.lt_of_lt_of_le (Nat.lt_succ_self 2) (Nat.le_succ 3)))
      | false =>
        refine bif_TT (sms_cons (sm_if (tm_cmp (em_callB (id := "len") T.len (am_cons (em_v1 (am_nil (vc_lenT (ds := [a, b, c, d].map oD) (em_int (v2_eqI (asB (bif_FF (sms_nil ?_)))))))))))))
        refine sms_cons (sm_if (tm_cmp (em_callB (id := "len") T.len (am_cons (em_v1 (am_nil (vc_lenT (ds := [a, b, c, d].map oD) (em_int (v2_eqI (asB (bif_FF (sms_nil ?_))))))))))))
        refine sms_cons (sm_asg (em_slice (em_v1 (om_none (om_some (em_int ⟨_, rfl, vsl_tup ?_⟩))))))
        rw [show cutD ([a, b, c, d].map oD) none (some 3) = [oD a, oD b, oD c] from cut_pre _ 3 (Nat.le_succ 3)]
        refine gm_tup (gms_cons (gm_name 4 nd (gms_cons (gm_name 5 nd (gms_cons (gm_name 6 nd (gms_nil ?_))))))) rfl
        refine sms_cons (sm_if (tm_cmp (em_callB (id := "len") T.len (am_cons (em_v1 (am_nil (vc_lenT (ds := [a, b, c, d].map oD) (em_int (v2_eqI (asB (bif_FF (sms_nil ?_))))))))))))
        exact sms_cons (sm_ret (em_makeK (.inl rfl) MW hr (am_cons (em_v0 (am_cons (em_v4 (am_cons (em_v5 (am_cons (em_v6 (am_cons (em_ix (em_v1 (em_int (vi_tup (ds := [oD a, oD b, oD c, oD d]) (d := oD d) rfl (am_nil (km_cons (em_v3 (km_nil (fin CW rfl))))))))))))))))))))
end Sg
end T_Q19

section T_Q20
set_option autoImplicit true
set_option maxRecDepth 100000
set_option maxHeartbeats 4000000
namespace Sg
open PySem L2 Mp
variable {P : Program} {w : World} {K : PySem.W.Frag} {mg : Str → Option Value} {base : Heap}
abbrev lLaw : Stmt := top 100
def wReachP (C CM : Addr) : Wt := fun ds s Φ => ∃ j wd n f t m, ds = [.ref j] ∧ CycAt C CM s j wd n f t m ∧ FldOk m.rows ∧ m.rows.length ≤ 40 ∧ m.held.length ≤ 50 ∧ (∀ o ∈ m.held, ∀ i, o = some i → i < m.rows.length) ∧
      ∀ l : List Nat, (∀ x, x ∈ l ↔ Reaches m.rows (m.held.filterMap id) x) → l.length ≤ 40 → Φ (natsD l) s
/-- what the law asks of a class of cycles -/
structure CycAll (P : Program) (w : World) (K : PySem.W.Frag) (mg : Str → Option Value) (base : Heap) (b : Bool) (C CM CT : Addr) : Prop where
  cc : CycC K C b
  old : PFn P w K mg base C "old" 1 (wCyc C CM fun _ _ f _ _ => natsD f)
  state : PFn P w K mg base C "state" 2 (wCyc C CM fun wd _ _ _ m => stateD wd m)
  reach : PFn P w K mg base C "reachable" 5 (wReachP C CM)
  step : MFnK P w K mg base C "step" [] 9 (wStep b C CM CT)
theorem PenAt.mono {s : Sto} {j N N' : Nat} (h : PenAt s j N) (hN : N ≤ N') : PenAt s j N' := by
  obtain ⟨m, e, q⟩ := h
  exact ⟨m, e, q.mono hN⟩
theorem PenAt.of_eq {s s' : Sto} {j N : Nat} (h : PenAt s j N) (e : s'[j]? = s[j]?) : PenAt s' j N := by
  obtain ⟨m, e1, q⟩ := h
  exact ⟨m, by rw [e]; exact e1, q⟩
theorem ModelAt.other {s : Sto} {c : Ids} {wd : Nat} {m : Mo} (M : ModelAt s c wd m) {j : Nat} {x : MO} (hj : j ∉ c.all) : ModelAt (s.set j x) c wd m := by
  have ne : ∀ i ∈ c.all, (s.set j x)[i]? = s[i]? := fun i hi => gsn fun e => hj (e ▸ hi)
  exact ⟨by rw [ne _ c.mq]; exact M.q, by rw [ne _ c.ma]; exact M.a, by rw [ne _ c.mh]; exact M.h, by rw [ne _ c.mp]; exact M.p, by rw [ne _ c.me]; exact M.e, M.len, fun i r row h1 h2 => by rw [ne _ (Ids.mr h1)]; exact M.rs i r row h1 h2, M.nd⟩
theorem newIds_ge {n k : Nat} : ∀ i ∈ (newIds n k).all, n ≤ i := by
  intro i hi
  rcases List.mem_cons.mp hi with rfl | hi
  · exact Nat.le_refl _
  rcases List.mem_cons.mp hi with rfl | hi
  · exact Nat.le_succ _
  rcases List.mem_cons.mp hi with rfl | hi
  · show n ≤ n + 2 + k; omega
  rcases List.mem_cons.mp hi with rfl | hi
  · show n ≤ n + 3 + k; omega
  rcases List.mem_cons.mp hi with rfl | hi
  · show n ≤ n + 4 + k; omega
  · obtain ⟨a, _, rfl⟩ := List.mem_map.mp hi
    omega
theorem cut_take (xs : List Mp.D) (i : Nat) : cutD xs none (some (i : Int)) = xs.take i := by
  by_cases h : i ≤ xs.length
  · exact cut_pre xs i h
  · have e : xs.take i = xs := List.take_of_length_le (by omega)
    rw [e]
    unfold cutD
    rw [HT.sIx_none, HT.sIx_nat, Nat.min_eq_right (by omega)]
    simp
theorem eqv_end (a : Act) : (a = .fin ∧ PyData.eqv (actP a) (.tuple [.str "end"]) = true) ∨ PyData.eqv (actP a) (.tuple [.str "end"]) = false := by
  have h0 : ∀ (W : Str) (l : List PyData), (W == ("end" : Str)) = false → PyData.eqv (.tuple (.str W :: l)) (.tuple [.str "end"]) = false := fun W l h => by
    show ((W == ("end" : Str)) && PyData.eqvAll l []) = false
    rw [h]
    rfl
  cases a with
  | fin => exact .inl ⟨rfl, by decide +kernel⟩
  | start => exact .inr (h0 "start" _ (by decide +kernel))
  | look => exact .inr (h0 "look" _ (by decide +kernel))
  | load r s f => exact .inr (h0 "load" _ (by decide +kernel))
  | store r s f => exact .inr (h0 "store" _ (by decide +kernel))
  | move r s => exact .inr (h0 "move" _ (by decide +kernel))
  | clear r => exact .inr (h0 "clear" _ (by decide +kernel))
  | new r => exact .inr (h0 "new" _ (by decide +kernel))
  | scan r => exact .inr (h0 "scan" _ (by decide +kernel))
  | scanF r f => exact .inr (h0 "scan" _ (by decide +kernel))
theorem shaped_end : SeqAt.shaped (.tuple [.str "end"]) = true := by decide +kernel
end Sg
end T_Q20

section T_Q21
set_option autoImplicit false
set_option maxRecDepth 100000
set_option maxHeartbeats 4000000
namespace Sg
open PySem L2 Mp
variable {P : Program} {w : World} {K : PySem.W.Frag} {mg : Str → Option Value} {base : Heap}
abbrev lawN : List Str := ["_law_script", "_law_pen_here", "_law_turn", "_law_rule_here", "_law_mode", "_law_net_here", "_law_cells", "_law_cycle", "_law_model_here", "_law_size", "_law_apart", "_law_again", "_law_act_here", "_law_before", "_law_told", "_law_after", "_law_near", "_law_x"]
/-- between two turns of the outer loop -/
def OutI (S : Mp.D) (N : Nat) (ρ' : Slo) (s' : Sto) : Prop := PenAt s' 0 N ∧ ∃ z2 z3 z4 z5 z6 z7 z8 z9 z10 z11 z12 z13 z14 z15 z16 z17, ρ' = [some S, some (.ref 0), z2, z3, z4, z5, z6, z7, z8, z9, z10, z11, z12, z13, z14, z15, z16, z17]
/-- what an outer turn fixes -/
structure Par where
  l : List Ent
  cf : Col
  b : Bool
  fl : Bool
  wd : Nat
  rows : List Row
  held : Row
  first : List Nat
  ap : List Nat
  j : Nat
  cq : Nat
  N0 : Nat
/-- between two turns of the inner loop -/
def InI (S : Mp.D) (turn : Option Mp.D) (C CM CT : Addr) (p : Par) (q : Nat) (ρ' : Slo) (s' : Sto) : Prop := PenAt s' 0 (p.N0 + 20 * q) ∧ ∃ (c : Ids) (m : Mo), c.q = p.cq ∧ ModelAt s' c p.wd m ∧ m.Ok p.wd ∧ SeenOk m ∧ 0 ∉ c.all ∧ p.j ∉ c.all ∧
  CycL C CM s' p.j p.wd p.rows.length p.first (tabD CT (tabOf p.l p.cf p.b)) m q ∧ Apart (· ∈ p.ap) p.rows.length m ∧ ∃ z11 z12 z13 z14 z15 z16 z17,
  ρ' = [some S, some (.ref 0), turn, some (ruleD p.l p.cf p.b), some (.str (modeS p.fl)), some (heapD p.wd p.rows), some (rowD p.held), some (.ref p.j), some (.ref p.cq), some (.int p.rows.length), some (.lst (p.ap.map natD)), z11, z12, z13, z14, z15, z16, z17]
structure ParOk (p : Par) : Prop where
  lt : ∀ x ∈ p.first, x < p.rows.length
  n40 : p.rows.length ≤ 40
  ap : p.ap.length ≤ 40
  f40 : p.first.length ≤ 40
  n : p.N0 ≤ 60000
  j0 : p.j ≠ 0
abbrev lawBody : List Stmt := match (defBody lLaw).getD 1 (.Pass ⟨0, 0, 0, 0⟩) with | .For _ _ b _ _ => b | _ => []
abbrev lawInner : List Stmt := match lawBody.getD 9 (.Pass ⟨0, 0, 0, 0⟩) with | .For _ _ b _ _ => b | _ => []
theorem law_inner {C CM CT : Addr} {p : Par} (T : Tx K mg) (GA : GFn P w K mg base "_law_act" 3 wAct16) (GW : GFn P w K mg base "_law_why" 3 wWhyL) (GD : GFn P w K mg base "_law_do" 3 wDo) (GS : GFn P w K mg base "_law_shades_right" 1 wShadesR) (GC : GFn P w K mg base "_law_scan_right" 1 wScanR)
    (HC : CycAll P w K mg base p.fl C CM CT) (po : ParOk p) {fa : Addr} {cdv : Value} {A : Around} {outer : List PySem.Env} {sh : Shared} {H : Hp} {E : XK} (hr : Room 9 (A.deeper (PyProof.Rows.envOfC "law" (defScope lLaw) sh.heap.objs.size fa cdv)))
    {S : Mp.D} {turn : Option Mp.D} {N : En} {q : Nat} (hq : q < 60) {ρ' : Slo} {s' : Sto} (h : InI S turn C CM CT p q ρ' s') (x11 : Option Mp.D) (hN : N.nx = InI S turn C CM CT p (q + 1)) :
    SMs (cxOf CX0 P w K mg base lawN "law" (defScope lLaw) fa cdv A outer sh H E).nox (ρ'.set 11 x11) s' lawInner N := by
  obtain ⟨pa, c, m, hcq, M, ok, so, c0, cj, CL, ap, z11, z12, z13, z14, z15, z16, z17, rfl⟩ := h
  have nd : lawN.Nodup := by decide +kernel
  have hn := po.n
  have N1 : ∀ {ρ s}, InI S turn C CM CT p (q + 1) ρ s → N.nx ρ s := fun h => by rw [hN]; exact h
  refine sms_cons (sm_set 12 nd (em_call GA (hr.mono (by decide)) (am_cons (em_v1 (am_cons (em_v4 (am_cons (em_v8 (am_nil ⟨0, p.N0 + 20 * q, p.fl, c, p.wd, m, by rw [hcq], pa, by omega, M, ok, c0, fun a s1 hf ps => ?_⟩)))))))))
  have j0 : (0 : Nat) < s'.length := pa.lt
  have jl : p.j < s'.length := by
    obtain ⟨_, _, e, _⟩ := CL
    exact get_lt e
  have pa1 : PenAt s1 0 (p.N0 + 20 * (q + 1)) := (ps.at_ j0).mono (by omega)
  have M1 := ps.model M c0
  have CL1 : CycL C CM s1 p.j p.wd p.rows.length p.first (tabD CT (tabOf p.l p.cf p.b)) m q := by
    obtain ⟨l0, x0, e, hl⟩ := CL
    obtain ⟨m1, rfl, _⟩ := ps
    exact ⟨l0, x0, by rw [gsn (Ne.symm po.j0)]; exact e, hl⟩
  have l1 : s1.length = s'.length := ps.len
  clear CL M pa ps
  have skip : ∀ ρ'', ρ'' = [some S, some (.ref 0), turn, some (ruleD p.l p.cf p.b), some (.str (modeS p.fl)), some (heapD p.wd p.rows), some (rowD p.held), some (.ref p.j), some (.ref p.cq), some (.int p.rows.length), some (.lst (p.ap.map natD)), x11, some (actD a), z13, z14, z15, z16, z17] → N.nx ρ'' s1 := fun ρ'' e => by
    obtain ⟨l0, x0, e0, hl⟩ := CL1
    exact N1 ⟨pa1, c, m, hcq, M1, ok, so, c0, cj, ⟨l0, x0, e0, Nat.le_succ_of_le hl⟩, ap, _, _, _, _, _, _, _, e⟩
  refine sms_cons (sm_if (tm_cmp (em_call GW (hr.mono (by decide)) (am_cons (em_v3 (am_cons (em_v4 (am_cons (em_v8 (am_cons (em_v12 (am_nil ⟨p.l, p.cf, p.b, c, p.wd, m, p.fl, a, by rw [hcq], M1, ok, hf, fun x => em_non (v2_isN (asB (bif_FF (sms_nil (sms_nil (skip _ rfl)))))), fun g => em_non (v2_isN (asB (bif_TT ?_)))⟩))))))))))))
  clear skip
  obtain ⟨l0, x0, e0, hl0⟩ := id CL1
  have at1 := CL1.at_ (by omega)
  refine sms_cons (sm_set 13 nd (em_prop HC.state (hr.mono (by decide)) (em_v7 ⟨_, _, .ref e0, p.j, p.wd, p.rows.length, p.first, _, m, rfl, at1, ?_⟩)))
  refine sms_cons (sm_set 14 nd (em_methR HC.step hr (em_v7 ⟨_, _, .ref e0, by decide +kernel, am_cons (em_v12 (am_nil ⟨p.j, p.wd, p.rows.length, p.first, tabOf p.l p.cf p.b, m, a, q, rfl, rfl, CL1, by omega, g, ok, so, fun gr l' x' hl' => ?_⟩))⟩)))
  have ok' := (step_ok (t := tabOf p.l p.cf p.b) ok so g).1
  have so' := (step_ok (t := tabOf p.l p.cf p.b) ok so g).2
  have ap' := step_apart (t := tabOf p.l p.cf p.b) ap ok g
  have shd := step_shadeok (l := p.l) (cf := p.cf) g
  have scn := step_scanok (t := tabOf p.l p.cf p.b) ok g
  have ln := step_len (tabOf p.l p.cf p.b) p.wd m a
  have fin' : a = .fin → (stepMo (tabOf p.l p.cf p.b) p.wd m a).paint = m.paint ∧ Col.g ∉ m.paint := fun e => by
    subst e
    exact ⟨rfl, g.2.1⟩
  have pl : m.paint.length ≤ 1000 := by have := ok.few; rw [ok.paint]; omega
  generalize hm' : stepMo (tabOf p.l p.cf p.b) p.wd m a = m' at ok' so' ap' shd scn ln fin'
  have e2 := set_get (n := cyc C p.wd p.rows.length p.first (tabD CT (tabOf p.l p.cf p.b)) (l' ++ [.tup [x', moD CM m']])) e0
  have M2 := M1.other (x := cyc C p.wd p.rows.length p.first (tabD CT (tabOf p.l p.cf p.b)) (l' ++ [.tup [x', moD CM m']])) cj
  have pa2 : PenAt (s1.set p.j (cyc C p.wd p.rows.length p.first (tabD CT (tabOf p.l p.cf p.b)) (l' ++ [.tup [x', moD CM m']]))) 0 (p.N0 + 20 * (q + 1)) := pa1.of_eq (gsn po.j0)
  generalize s1.set p.j (cyc C p.wd p.rows.length p.first (tabD CT (tabOf p.l p.cf p.b)) (l' ++ [.tup [x', moD CM m']])) = s2 at e2 M2 pa2
  have CL2 : CycL C CM s2 p.j p.wd p.rows.length p.first (tabD CT (tabOf p.l p.cf p.b)) m' (q + 1) := ⟨l', x', e2, hl'⟩
  clear CL1 at1 e0 M1 pa1
  refine sms_cons (sm_set 15 nd (em_prop HC.state (hr.mono (by decide)) (em_v7 ⟨_, _, .ref e2, p.j, p.wd, p.rows.length, p.first, _, m', rfl, CL2.at_ (by omega), ?_⟩)))
  refine sms_cons (sm_expr (em_call GD (hr.mono (by decide)) (am_cons (em_v3 (am_cons (em_v8 (am_cons (em_v12 (am_nil ⟨p.l, p.cf, p.b, c, p.wd, m, p.fl, a, by rw [hcq], M2, ok, so, g, fun s3 c' M3 F3 hc' hq' => ?_⟩)))))))))
  rw [hm'] at M3
  have e3 : s3[p.j]? = some (cyc C p.wd p.rows.length p.first (tabD CT (tabOf p.l p.cf p.b)) (l' ++ [.tup [x', moD CM m']])) := by rw [F3.2 p.j (get_lt e2) cj]; exact e2
  have CL3 : CycL C CM s3 p.j p.wd p.rows.length p.first (tabD CT (tabOf p.l p.cf p.b)) m' (q + 1) := ⟨l', x', e3, hl'⟩
  have at3 := CL3.at_ (by omega)
  have pa3 := pa2.of_eq (F3.2 0 pa2.lt c0)
  have c0' : 0 ∉ c'.all := fun z => (hc' 0 z).elim c0 fun h => by have := pa2.lt; omega
  have cj' : p.j ∉ c'.all := fun z => (hc' p.j z).elim cj fun h => by have := get_lt e2; omega
  have hcq' : c'.q = p.cq := by rw [hq', hcq]
  have fin : ∀ ρ'' z13 z14 z15 z16, ρ'' = [some S, some (.ref 0), turn, some (ruleD p.l p.cf p.b), some (.str (modeS p.fl)), some (heapD p.wd p.rows), some (rowD p.held), some (.ref p.j), some (.ref p.cq), some (.int p.rows.length), some (.lst (p.ap.map natD)), x11, some (actD a), z13, z14, z15, z16, z17] → N.nx ρ'' s3 := fun ρ'' _ _ _ _ e =>
    N1 ⟨pa3, c', m', hcq', M3, ok', so', c0', cj', CL3, ap', _, _, _, _, _, _, _, e⟩
  clear pa2 e2 M2 CL2
  have s2' : atI [heapD p.wd m'.rows, rowD m'.held, paintD m'.paint, seenD m'.seen] 2 = some (paintD m'.paint) := rfl
  refine sms_cons (sm_if (tm_w (wm_or (tm_not (tm_val (em_call GS (hr.mono (by decide)) (am_cons (em_v3 (am_cons (em_v13 (am_cons (em_v12 (am_cons (em_v15 (am_nil ⟨p.l, p.cf, p.b, p.wd, m, a, m', rfl, ln, pl, shd, asB (bif_FF (wm_or1 ?_))⟩)))))))))))))))
  refine tm_not (tm_val (em_call GC (hr.mono (by decide)) (am_cons (em_v12 (am_cons (em_v15 (am_nil ⟨p.wd, m', a, rfl, scn, asB (bif_FF (sms_nil ?_))⟩)))))))
  refine sms_cons (sm_set 16 nd (em_prop HC.reach (hr.mono (by decide)) (em_v7 ⟨_, _, .ref e3, p.j, p.wd, p.rows.length, p.first, _, m', rfl, at3, ok'.fld, ok'.few, by have := ok'.h6; omega, ok'.held, fun near hnear hnl => ?_⟩)))
  refine sms_cons (sm_if (tm_cmp (em_lcP (own := [("_law_x", 17)]) (.one 17) nd (blk_ok rfl) (im_lst (em_v10 ⟨p.ap.map natD, .lst _, fun _ => false, fun _ => .non, fun _ => .lst _, by rw [List.length_map]; have := po.ap; omega, ?_, fun _ _ z => Bool.noConfusion z, ?_⟩)) (tg_one 17 nd))))
  · intro d hd
    obtain ⟨u, hu, rfl⟩ := List.mem_map.mp hd
    have hin : inD (natD u) (near.map natD) = false := by
      rw [inD_nats]
      exact decide_eq_false fun z => ap'.reach ((hnear u).mp z) hu
    refine ⟨_, rfl, fun s' mm es sh' H' C' cl fp => ?_⟩
    refine tm_w (wm_or (tm_cmp (em_ix (em_ix (em_v15 (em_int (vi_tup s2' (em_v17 (vi_tup (paint_at (ap'.white u hu)) (em_str (v2_neS (asB (bif_FF (wm_or1 (tm_cmp (em_v17 (em_v16 (v2_inT (x := natD u) (ds := near.map natD) rfl (fl_nats _) (asB ?_)))))))))))))))))))
    rw [hin]
    exact ⟨rfl, rfl, fun z => Bool.noConfusion z⟩
  rw [filterF]
  refine em_lst (am_nil ⟨Nat.le_of_ble_eq_true rfl, v2_neN (l := []) (room64 hr) (asB (bif_FF (sms_nil ?_)))⟩)
  refine sms_cons (sm_if (tm_w (wm_or (tm_cmp (em_lcP (own := [("_law_x", 17)]) (.one 17) nd (blk_ok rfl) (im_tup (em_prop HC.old (hr.mono (by decide)) (em_v7 ⟨_, _, .ref e3, p.j, p.wd, p.rows.length, p.first, _, m', rfl, at3, p.first.map natD, rfl, fun _ => false, fun _ => .non, fun _ => trivial, by rw [List.length_map]; have := po.f40; omega, ?_, fun _ _ z => Bool.noConfusion z, ?_⟩))) (tg_one 17 nd))))))
  · intro d hd
    obtain ⟨u, hu, rfl⟩ := List.mem_map.mp hd
    have hlt := po.lt u hu
    refine ⟨_, rfl, fun s' mm es sh' H' C' cl fp => tm_cmp (em_v17 (em_v9 (v2_ge (asB ?_))))⟩
    rw [decide_eq_false (by omega)]
    exact ⟨rfl, rfl, fun z => Bool.noConfusion z⟩
  rw [filterF]
  refine em_lst (am_nil ⟨Nat.le_of_ble_eq_true rfl, v2_neN (l := []) (room64 hr) (asB (bif_FF (wm_or1 (tm_cmp (em_callB (id := "len") T.len (am_cons (em_v14 (am_nil (vc_lenT (ds := [natsD gr]) (em_int (v2_neI (asB (bif_FF (sms_nil ?_))))))))))))))⟩)
  refine sms_cons (sm_if (tm_w (wm_and (tm_cmp (em_v12 (em_tup (am_cons (em_str (am_nil ⟨Nat.le_of_ble_eq_true rfl, v2_eqP (q := .tuple [.str "end"]) (room64 hr) (toP_act a) rfl (shaped_act a) shaped_end rfl (asB ?_)⟩)))))))))
  rcases eqv_end a with ⟨e, ee⟩ | ee
  · rw [ee]
    refine bif_t (wm_and1 (tm_cmp (em_str (em_ix (em_v15 (em_int (vi_tup s2' (v2_inT (x := colD .g) (ds := m'.paint.map colD) rfl (fl_paintD _) (asB ?_)))))))))
    rw [in_paint, (fin' e).1, decide_eq_false (fin' e).2]
    exact bif_f (sms_nil (sms_nil (sms_nil (fin _ _ _ _ _ rfl))))
  · rw [ee]
    exact bif_f (bif_f (sms_nil (sms_nil (sms_nil (fin _ _ _ _ _ rfl)))))
end Sg
end T_Q21

section T_Q22
set_option autoImplicit false
set_option maxRecDepth 100000
set_option maxHeartbeats 4000000
namespace Sg
open PySem L2 Mp
variable {P : Program} {w : World} {K : PySem.W.Frag} {mg : Str → Option Value} {base : Heap}
/-- what the law's outer loop calls -/
structure LawC (P : Program) (w : World) (K : PySem.W.Frag) (mg : Str → Option Value) (base : Heap) (CW CF CM CT : Addr) : Prop where
  pen : GFn P w K mg base "_law_pen" 1 fun ds s Φ => ∃ ns : List Int, ds = [.fro (ns.map .int)] ∧ ∀ m, PenM m 0 → Φ (.ref s.length) (s ++ [m])
  draw : GDraw P w K mg base
  rule : GFn P w K mg base "_law_rule" 2 fun ds s Φ => ∃ j N, ds = [.ref j] ∧ PenAt s j N ∧ N < 90000 ∧ ∀ (l : List Ent) (c : Col) (b : Bool) (s' : Sto), l.length ≤ 12 → PenS s j s' (N + 20) → Φ (ruleD l c b) s'
  net : GFn P w K mg base "_law_net" 2 wNet
  holders : GFn P w K mg base "_law_holders" 2 wHolders
  book : GFn P w K mg base "_law_book" 8 fun ds s Φ => ∃ l c b, ds = [ruleD l c b] ∧ l.length ≤ 12 ∧ Φ (tabV CT (listedOf l) c b) s
  begun : GFn P w K mg base "_law_begun" 7 (wBegun CW CF CM)
  model : GFn P w K mg base "_law_model" 1 fun ds s Φ => ∃ (wd : Nat) (rows : List Row) (held : Row), ds = [heapD wd rows, rowD held] ∧ rows.length ≤ 40 ∧ Φ (.ref s.length) (s ++ newCells s.length wd rows held)
  act : GFn P w K mg base "_law_act" 3 wAct16
  why : GFn P w K mg base "_law_why" 3 wWhyL
  do_ : GFn P w K mg base "_law_do" 3 wDo
  shades : GFn P w K mg base "_law_shades_right" 1 wShadesR
  scan : GFn P w K mg base "_law_scan_right" 1 wScanR
  cw : CycAll P w K mg base false CW CM CT
  cf : CycAll P w K mg base true CF CM CT
theorem first_ok {wd : Nat} {rows : List Row} {held : Row} (ok : NetOk wd rows) (h1 : 1 ≤ held.length) (h6 : held.length ≤ 6) (hb : ∀ o ∈ held, ∀ i, o = some i → i < rows.length) : (firstMo rows held).Ok wd ∧ SeenOk (firstMo rows held) :=
  ⟨⟨List.length_replicate, List.length_replicate, ok.wide, ok.fld, hb, ok.few, ok.w4, ok.w1, h1, h6, fun l hl => by
    rw [List.eq_of_mem_replicate hl]
    exact ⟨List.nodup_nil, nofun⟩⟩, fun l hl => by
    rw [List.eq_of_mem_replicate hl]
    exact List.Pairwise.nil⟩
def wLaw : Wt := fun ds s Φ => ∃ ns : List Int, ds = [.fro (ns.map .int)] ∧ s = [] ∧ Φ (.bl true) []
theorem g_law {CW CF CM CT : Addr} (T : Tx K mg) (L : LawC P w K mg base CW CF CM CT) {fa : Addr} {fd : FuncData} (F : FunD K "law" "law" (defArgs lLaw) (defBody lLaw) (defScope lLaw) [] [] fa fd) : FnOk P w K mg base CX0 10 fa fd ["_law_script"] (spM K wLaw) := by
  refine def_okD (N := lawN) F ⟨rfl, rfl, rfl, by decide +kernel, rfl, by decide +kernel, by decide +kernel⟩ (fun ds s Φ h => ?_) fun cdv A outer sh H E hr ds s Φ h => ?_
  · obtain ⟨_, rfl, _⟩ := h
    rfl
  · obtain ⟨ns, rfl, rfl, k⟩ := h
    have nd : lawN.Nodup := by decide +kernel
    have a1 : ∀ {x y : Mp.D}, atI [x, y] 1 = some y := fun {x y} => rfl
    refine sms_cons (sm_set 1 nd (em_call L.pen (hr.mono (by decide)) (am_cons (em_v0 (am_nil ⟨ns, rfl, fun m0 hm0 => ?_⟩)))))
    generalize Mp.D.fro (ns.map .int) = S
    refine sms_cut (OutI S 4800) (sm_for (im_range T.range (em_int ⟨4, rfl, by decide, fun i => OutI S (1200 * i), ⟨⟨m0, rfl, hm0⟩, none, none, none, none, none, none, none, none, none, none, none, none, none, none, none, none, rfl⟩, ?_, ?_⟩))) ?_
    · rintro i x ρ' s' hi ⟨pa, z2, z3, z4, z5, z6, z7, z8, z9, z10, z11, z12, z13, z14, z15, z16, z17, rfl⟩
      have hi4 : i < 4 := by
        have := get_lt hi
        rwa [intsD_len] at this
      rw [intsD_at hi4] at hi
      cases hi
      refine ⟨trivial, gm_name 2 nd ?_⟩
      have hj := pa.lt
      refine sms_cons (sm_set 3 nd (em_call L.rule (hr.mono (by decide)) (am_cons (em_v1 (am_nil ⟨0, 1200 * i, rfl, pa, by omega, fun l cf b s1 hl p1 => ?_⟩)))))
      refine sms_cons (sm_set 4 nd (em_ix (em_lst (am_cons (em_str (am_cons (em_str (am_nil ⟨Nat.le_of_ble_eq_true rfl, em_call L.draw (hr.mono (by decide)) (am_cons (em_v1 (am_cons (em_int (am_nil ⟨0, 1200 * i + 20, 2, rfl, p1.at_ hj, by omega, by decide, by decide, fun d m1 hd hm1 => ?_⟩)))))⟩))))))))
      have hd' : d < ([Mp.D.str "whole", .str "fields"] : List Mp.D).length := hd
      refine vi_lst (pick hd') ?_
      have e4 : ([Mp.D.str "whole", .str "fields"] : List Mp.D)[d] = .str (modeS (decide (d = 1))) := by
        match d, hd with
        | 0, _ => rfl
        | 1, _ => rfl
      rw [e4]
      generalize decide (d = 1) = fl
      have p2 : PenS s' 0 (s1.set 0 m1) (1200 * i + 21) := p1.next hm1
      generalize s1.set 0 m1 = s2 at p2
      refine sms_cons (sm_set 5 nd (em_call L.net (hr.mono (by decide)) (am_cons (em_v1 (am_cons (em_int (am_nil ⟨0, 1200 * i + 21, rfl, p2.at_ hj, by omega, fun wd rows s3 ok h7 p3' => ?_⟩)))))))
      have p3 : PenS s' 0 s3 (1200 * i + 91) := p2.trans p3'
      refine sms_cons (sm_set 6 nd (em_call L.holders (hr.mono (by decide)) (am_cons (em_v1 (am_cons (em_v5 (am_cons (em_int (am_nil ⟨0, 1200 * i + 91, wd, rows, rfl, h7, p3.at_ hj, by omega, fun held0 s4 h1 h4 hb p4' => ?_⟩)))))))))
      have p4 : PenS s' 0 s4 (1200 * i + 100) := p3.trans p4'
      have l4 : s4.length = s'.length := p4.len
      have pa4 := p4.at_ hj
      clear p1 p2 p3 p3' p4' p4
      have rest : ∀ (held : Row), 1 ≤ held.length → held.length ≤ 4 → (fl = true → held.length ≤ 2) → (∀ o ∈ held, ∀ i, o = some i → i < rows.length) → SMs (cxOf CX0 P w K mg base lawN "law" (defScope lLaw) fa cdv A outer sh H E).nox [some S, some (.ref 0), some (.int (i : Nat)), some (ruleD l cf b), some (.str (modeS fl)), some (heapD wd rows), some (rowD held), z7, z8, z9, z10, z11, z12, z13, z14, z15, z16, z17] s4 (lawBody.drop 5) { nx := OutI S (1200 * (i + 1)), rt := Drp [] Φ, bk := OutI S 4800, ct := OutI S (1200 * (i + 1)) } := by
        intro held h1 h4 h2 hb
        refine sms_cons (sm_set 7 nd (em_call L.begun (hr.mono (by decide)) (am_cons (em_v5 (am_cons (em_v6 (am_cons (em_v4 (am_cons (em_call L.book (hr.mono (by decide)) (am_cons (em_v3 (am_nil ⟨l, cf, b, rfl, hl, am_nil ⟨wd, rows, held, fl, tabV CT (listedOf l) cf b, rfl, rfl, ok, h1, h4, h2, hb, fun first hf hfl => ?_⟩⟩)))))))))))))
        have HC : CycAll P w K mg base fl (if fl then CF else CW) CM CT := by
          cases fl
          · exact L.cw
          · exact L.cf
        generalize (if fl then CF else CW) = C at HC
        have e5 := get_last s4 (cyc C wd rows.length first (tabV CT (listedOf l) cf b) [.tup [.non, moD CM (firstMo rows held)]])
        have l5 : (s4 ++ [cyc C wd rows.length first (tabV CT (listedOf l) cf b) [.tup [.non, moD CM (firstMo rows held)]]]).length = s4.length + 1 := List.length_append
        have pa5 : PenAt (s4 ++ [cyc C wd rows.length first (tabV CT (listedOf l) cf b) [.tup [.non, moD CM (firstMo rows held)]]]) 0 (1200 * i + 100) := pa4.app
        generalize s4 ++ [cyc C wd rows.length first (tabV CT (listedOf l) cf b) [.tup [.non, moD CM (firstMo rows held)]]] = s5 at e5 l5 pa5
        refine sms_cons (sm_set 8 nd (em_call L.model (hr.mono (by decide)) (am_cons (em_v5 (am_cons (em_v6 (am_nil ⟨wd, rows, held, rfl, ok.few, ?_⟩)))))))
        have M6 := model_new s5 wd rows held
        have e6 : (s5 ++ newCells s5.length wd rows held)[s4.length]? = some (cyc C wd rows.length first (tabV CT (listedOf l) cf b) [.tup [.non, moD CM (firstMo rows held)]]) := get_app_l e5
        have pa6 : PenAt (s5 ++ newCells s5.length wd rows held) 0 (1200 * i + 100) := pa5.app
        generalize s5 ++ newCells s5.length wd rows held = s6 at M6 e6 pa6
        refine sms_cons (sm_set 9 nd (em_callB (id := "len") T.len (am_cons (em_ix (em_v5 (em_int (vi_tup a1 (am_nil (vc_lenT (ds := rows.map rowD) ?_)))))))))
        rw [List.length_map]
        have at6 : CycAt C CM s6 s4.length wd rows.length first (tabV CT (listedOf l) cf b) (firstMo rows held) := ⟨[], .non, e6, Nat.zero_le _⟩
        have few := ok.few
        refine sms_cons (sm_lcP (own := [("_law_x", 17)]) 10 (.one 17) nd (blk_ok rfl) (im_range T.range (em_v9 ⟨rows.length, rfl, by omega, fun d => !decide (natOf d ∈ first), fun d => d, fun _ => trivial, by rw [intsD_len]; omega, ?_, ?_, ?_⟩)) (tg_one 17 nd))
        · intro d hd
          obtain ⟨u, hu, rfl⟩ := List.mem_map.mp hd
          refine ⟨_, rfl, fun sx mm es sh' H' C' cl fp => ?_⟩
          subst es
          have atx : CycAt C CM (s6 ++ [mm]) s4.length wd rows.length first (tabV CT (listedOf l) cf b) (firstMo rows held) := ⟨[], .non, get_app_l e6, Nat.zero_le _⟩
          refine tm_cmp (em_v17 (em_prop HC.old (hr.mono (by decide)) (em_v7 ⟨_, _, .ref (get_app_l e6), s4.length, wd, rows.length, first, _, _, rfl, atx, v2_ninT (x := natD u) (ds := first.map natD) rfl (fl_nats _) (asB ?_)⟩)))
          rw [inD_nats]
          exact ⟨rfl, rfl, fun _ sh2 H2 C2 cl2 fp2 => em_v17 ⟨rfl, rfl⟩⟩
        · intro d hd _
          obtain ⟨u, hu, rfl⟩ := List.mem_map.mp hd
          trivial
        have eap : ((intsD rows.length).filter fun d => !decide (natOf d ∈ first)).map (fun d => d) = ((List.range rows.length).filter fun u => !decide (u ∈ first)).map natD := filt_nats (fun u => !decide (u ∈ first)) (List.range rows.length)
        rw [eap]
        have hap : ∀ u, u ∈ (List.range rows.length).filter (fun u => !decide (u ∈ first)) ↔ u < rows.length ∧ ¬ Reaches rows (held.filterMap id) u := fun u => by
          rw [List.mem_filter, List.mem_range, ← hf u]
          simp
        have lap : ((List.range rows.length).filter fun u => !decide (u ∈ first)).length ≤ 40 := by
          have := List.length_filter_le (fun u => !decide (u ∈ first)) (List.range rows.length)
          rw [List.length_range] at this
          omega
        generalize (List.range rows.length).filter (fun u => !decide (u ∈ first)) = ap at hap lap
        obtain ⟨okf, sof⟩ := first_ok ok h1 (by omega) hb
        have apf := apart_first (· ∈ ap) hap ok.fld hb
        have c0 : 0 ∉ (newIds s5.length rows.length).all := fun z => by have := newIds_ge _ z; omega
        have cj : s4.length ∉ (newIds s5.length rows.length).all := fun z => by have := newIds_ge _ z; omega
        have po : ParOk ⟨l, cf, b, fl, wd, rows, held, first, ap, s4.length, s5.length, 1200 * i + 100⟩ := ⟨fun x hx => by
          refine ((hf x).mp hx).sub (R := (· < rows.length)) (fun y hy => ?_) fun y z _ hz => FldOk.at_ ok.fld hz
          obtain ⟨o, ho, e⟩ := List.mem_filterMap.mp hy
          exact hb o ho y e, few, lap, hfl, by show 1200 * i + 100 ≤ 60000; omega, by show s4.length ≠ 0; omega⟩
        have i13 : ((13 : Int) + 12 * (i : Nat)) = ((13 + 12 * i : Nat) : Int) := by omega
        refine sms_cons (sm_for (im_range T.range (em_bin (em_int (em_bin (em_int (em_v2 (v2_mulI (.inl (by decide)) (v2_addI ⟨13 + 12 * i, congrArg Mp.D.int i13, by omega, InI S (some (.int (i : Nat))) C CM CT ⟨l, cf, b, fl, wd, rows, held, first, ap, s4.length, s5.length, 1200 * i + 100⟩, ?_, ?_, ?_⟩)))))))))
        · exact ⟨pa6, newIds s5.length rows.length, firstMo rows held, rfl, M6, okf, sof, c0, cj, ⟨[], .non, e6, Nat.le_refl _⟩, apf, _, _, _, _, _, _, _, rfl⟩
        · intro q x ρ' sx hq hI
          have hq' : q < 13 + 12 * i := by
            have := get_lt hq
            rwa [intsD_len] at this
          refine ⟨trivial, gm_name 11 nd ?_⟩
          exact law_inner T L.act L.why L.do_ L.shades L.scan HC po hr (by omega) hI _ rfl
        · rintro ρ' sx ⟨pax, c, m, _, _, _, _, _, _, _, _, z11, z12, z13, z14, z15, z16, z17, rfl⟩
          rw [intsD_len] at pax
          exact ⟨trivial, sms_nil ⟨pax.mono (by show 1200 * i + 100 + 20 * (13 + 12 * i) ≤ 1200 * (i + 1); omega), _, _, _, _, _, _, _, _, _, _, _, _, _, _, _, _, rfl⟩⟩
      refine sms_cons (sm_set 6 nd (em_if (tm_cmp (em_v4 (em_str (v2_eqS (asB ?_)))))))
      cases fl with
      | false => exact bif_FF (em_v6 (rest held0 h1 h4 nofun hb))
      | true =>
        refine bif_TT (em_slice (em_v6 (om_none (om_some (em_int ⟨_, rfl, vsl_tup ?_⟩)))))
        have e2 : cutD (held0.map oD) none (some 2) = (held0.take 2).map oD := by rw [List.map_take]; exact cut_take _ 2
        rw [e2]
        have lt2 : (held0.take 2).length ≤ 2 := by rw [List.length_take]; omega
        exact rest (held0.take 2) (by rw [List.length_take]; omega) (by omega) (fun _ => lt2) fun o ho => hb o (List.mem_of_mem_take ho)
    · rintro ρ' s' ⟨pa, z2, z3, z4, z5, z6, z7, z8, z9, z10, z11, z12, z13, z14, z15, z16, z17, rfl⟩
      rw [intsD_len] at pa
      exact ⟨trivial, pa, _, _, _, _, _, _, _, _, _, _, _, _, _, _, _, _, rfl⟩
    · rintro ρ' s' ⟨pa, z2, z3, z4, z5, z6, z7, z8, z9, z10, z11, z12, z13, z14, z15, z16, z17, rfl⟩
      exact sms_cons (sm_ret (em_bl ⟨[], s', rfl, rfl, trivial, fun h => h, k⟩))
end Sg
end T_Q22

section T_P20
set_option autoImplicit false
set_option maxRecDepth 100000
set_option maxHeartbeats 4000000
namespace Sg
open PySem L2 Mp
variable {P : Program} {w : World} {K : PySem.W.Frag} {mg : Str → Option Value} {base : Heap}
abbrev sWhyScanF : Stmt := cls 75 1
abbrev wsN : List Str := ["self", "step", "here", "__class__", "reason"]
/-- the def of the class below, with the class that it closes over -/
structure SupF (P : Program) (K : PySem.W.Frag) (C f f2 cc : Addr) : Prop where
  lk : ∃ (oc : Value) (od : Option Addr) (dV kV doc pm : Value) (an : Option Addr) (cda : Addr) (ct : Value) (osl : Array (Option Value)), K.lookup f = some ⟨oc, od, .func (PySem.W.fnX "why_scan" "FieldCycle.why_scan" (defArgs sWhyScanF) (defBody sWhyScanF) (defScope sWhyScanF) [("__class__", cc)] dV kV doc pm an (.ref cda) ct), osl⟩ ∧
    PySem.W.codeIn K (.ref cda) "FieldCycle.why_scan" = true ∧ DflV K dV [] ∧ ∃ (ocl : Value) (odl : Option Addr) (vs : Array Value) (osl2 : Array (Option Value)) (file : Str) (tf : Tok), K.lookup cda = some ⟨ocl, odl, .fields vs, osl2⟩ ∧ vs[2]? = some (.str file tf) ∧ ((P.main.file : Str) == file) = true
  cell : ∃ (oc : Value) (od : Option Addr) (osl : Array (Option Value)), K.lookup cc = some ⟨oc, od, .cell (some (.ref C)), osl⟩
  cl : Cls K C
  mt : Meth K C "why_scan" f
  up : PySem.W.ks_superIn K C C "why_scan" = some (some (.ref f2))
  fn2 : PySem.W.typeIn K (.ref f2) = some (.type "function")
  fi2 : PySem.W.fnIn K f2 = true
  mro : PySem.W.mroIn K C (.ref C) = some true
  opq : PySem.W.nsIn K PySem.cStatics "thirdparty.any" = some none
  top : (P.main.scope.names.lookup ("super" : Str)).isSome = false
theorem wsScope : NdefX.NScope wsN ["self", "step", "here"] ["__class__"] (defScope sWhyScanF) := NdefX.nscope_by (by decide +kernel)
theorem m_whyscanF {C CW CM f f2 cc : Addr} (T : Tx K mg) (M : MomC K CM) (S : SupF P K C f f2 cc) (hm2 : Meth K CW "why_scan" f2) (MS : MFn P w K mg base CW "why_scan" 1 (wWhyScan CM)) : MFn P w K mg base C "why_scan" 6 (wWhyScanB true C CM) := by
  obtain ⟨oc, od, dV, kV, doc, pm, an, cda, ct, osl, lk, hcd, hdV, ocl, odl, vsc, osl2, file, tf, hcda, hv2, hfile⟩ := S.lk
  have hd0 : dV = .none := by
    rcases hdV with ⟨_, h⟩ | ⟨h, _⟩
    · exact h
    · exact absurd rfl h
  subst hd0
  refine ⟨S.cl, f, _, ["self", "step", "here"], S.mt, ⟨fun vs H Q E h => ?_, fun A outer s H args us vs Q E hr e0 hb r hsp => ?_⟩, Binds.all (fd := PySem.W.fnX "why_scan" "FieldCycle.why_scan" (defArgs sWhyScanF) (defBody sWhyScanF) (defScope sWhyScanF) [("__class__", cc)] .none kV doc pm an (.ref cda) ct) fun us hl => match us, hl with | [_, _, _], _ => rfl⟩
  · obtain ⟨α, s0, ds, Φ, _, dl, ⟨_, _, _, _, _, _, rfl, _⟩, _⟩ := h
    exact dl.length.symm
  · obtain ⟨α, s0, ds, Φ, so, dl, ⟨j, a, x, m, wd, ag, rfl, ⟨iks, ifs, hj⟩, hs, hp, g, ok, k_⟩, kk⟩ := hsp
    have KB : K.In base := e0.mod.kin
    have KX : K.In s.heap := KB.keeps fun b o e => (e0.bs b o e).1
    have lim : s.heap.NoLimit := e0.mod.nolimit.keeps fun b o e => (e0.bs b o e).1
    obtain ⟨oc3, od3, osl3, hcell⟩ := S.cell
    have cellS : s.heap.IsCell cc (some (.ref C)) := ⟨_, KX _ _ hcell, rfl⟩
    have cellN : H cc = none := (e0.bs _ _ (KB _ _ hcell)).2
    have hl : vs.length = 3 := dl.length.symm
    let F : NdefX.NF := ⟨"why_scan", "FieldCycle.why_scan", defArgs sWhyScanF, defBody sWhyScanF, defScope sWhyScanF, [("__class__", cc)], cda⟩
    have el : ∀ y c, F.cl.lookup y = some c → y = "__class__" ∧ c = cc := fun y c e => by
      have e : (match y == "__class__" with | true => some cc | false => none) = some c := e
      cases h : y == ("__class__" : Str) with
      | false => rw [h] at e; cases e
      | true => rw [h] at e; exact ⟨eq_of_beq h, (Option.some.inj e).symm⟩
    have CA : NdefX.CellsAt F.cl ["__class__"] [none] s.heap H := by
      refine ⟨rfl, fun y c e => ?_, fun x y c h1 h2 => (el x c h1).1.trans (el y c h2).1.symm, fun i y e => ?_⟩
      · obtain ⟨_, rfl⟩ := el y c e
        exact ⟨cellN, _, cellS⟩
      · match i, e with
        | 0, e =>
          obtain rfl : "__class__" = y := Option.some.inj e
          exact ⟨cc, rfl, nofun⟩
        | i + 1, e => cases e
    obtain ⟨cdC, hcC, hal⟩ : ∃ cd, PySem.W.clsIn K C = some cd ∧ PySem.W.alongIn K "why_scan" ((cd.mro.dropWhile (· != .ref C)).drop 1) = some (some (.ref f2)) := by
      have h := S.up
      unfold PySem.W.ks_superIn at h
      obtain ⟨cd, h1, h2⟩ := Option.bind_eq_some_iff.mp h
      exact ⟨cd, h1, h2⟩
    have hlu : us.length = 3 := by rw [← r.length]; exact hl
    refine PySem.ks_codeAny_call_defAt hr.depth (KX _ _ lk) rfl lim (PySem.W.codeRec_of KX hcd) rfl hb wsScope.nocell (fun y hy => wsScope.par y.1 (List.of_mem_zip hy).1) (fun h0 hns hk0 => ?_)
    have I := NdefX.inv_startN (CX := CX0) (E := E) (N := wsN) (ps := ["self", "step", "here"]) (fr := ["__class__"]) (F := F) (f := f) (ws := [none]) (tk := s.toks + (List.zip (["self", "step", "here"] : List Str) us).length) wsScope hr.hd e0 hl r CA hns hk0
    have hr5 : Room 5 (NdefX.ncx CX0 P w K mg base wsN F f A outer s H E).A := hr.deeper _
    have so1 := so
    have dl1 := dl
    obtain ⟨v0, _, rfl, ⟨b0, hb0, rfl⟩, v1, _, rfl, dv1, v2, _, rfl, dv2, rfl⟩ := dl1
    obtain ⟨dxx, fsx, eIns, _, _⟩ := so.cel j b0 _ hb0 hj
    have K1x : K.In h0 := KX.keeps hk0
    have hu0 : (List.zip (["self", "step", "here"] : List Str) us).reverse.lookup ("self" : Str) = some (.ref b0) := by
      match us, r with
      | u0 :: u1 :: u2 :: [], .cons a (.cons b (.cons c .nil)) =>
        obtain rfl : u0 = Value.ref b0 := a
        rfl
    have body : PySem.wpAt (model P w) (A.deeper (NdefX.envF F f s.heap.objs.size)) (.func (defBody sWhyScanF) (NdefX.envF F f s.heap.objs.size)) (execs (defBody sWhyScanF) (NdefX.envF F f s.heap.objs.size)) (SP (NdefX.ncx CX0 P w K mg base wsN F f A outer s H E) [] { nx := fun _ H' => Q .non H', rt := Q }) (NdefX.ncx CX0 P w K mg base wsN F f A outer s H E).xe { s with heap := h0, toks := s.toks + (List.zip (["self", "step", "here"] : List Str) us).length } := by
      refine PySem.ks_wpAt_execs_cons (rest := (defBody sWhyScanF).drop 1) ?_
      refine PySem.ks_wpAt_Assign_Name ?_
      refine PySem.ks_wpAt_MethodCall ?_
      refine PySem.ks_wpAt_super_base (f := f) (cc := cda) rfl rfl rfl rfl (K1x _ _ lk) rfl rfl rfl (K1x _ _ hcda) rfl hv2 hfile S.top ?_
      obtain ⟨mb, hm1, hm2'⟩ := I.mod.blt
      refine PySem.W.ks_loadName_global rfl rfl (Calls.loadGlobal_builtin (I.mod.glob.keeps I.bk) T.super (hm1.keeps I.bk) ((hm2' _ (by decide +kernel)).trans rfl) ⟨rfl, ?_⟩)
      refine wpAny_loadName_free rfl rfl rfl ⟨_, K1x _ _ hcell, rfl⟩ ?_
      refine wpAny_loadName_local rfl rfl hns hu0 ?_
      obtain ⟨oD, hD1, hD2⟩ : ∃ oD, h0.get? C = some oD ∧ oD.data = .cls cdC := by
        have hD := hcC
        unfold PySem.W.clsIn at hD
        split at hD
        · rename_i c d cd' sl ho
          cases hD
          exact ⟨_, K1x _ _ ho, rfl⟩
        · cases hD
      obtain ⟨mA, O, _, _, _, _⟩ := ins_get I.hok eIns
      obtain ⟨od1, IA, _⟩ := O.look
      refine PySem.ks_wpAny_isType_cls hD1 hD2 ⟨rfl, ?_⟩
      refine PySem.ks_wpAny_call_super hD1 hD2 IA.at_ IA.cls (fun c e => ?_) (PySem.W.looks_mroIn K1x S.mro) fun h' e k => ?_
      · have := IA.no
        unfold PySem.W.notCls at this
        rw [e] at this
        exact Bool.noConfusion this
      have I1 := ClX.pin_new (t' := s.toks + (List.zip (["self", "step", "here"] : List Str) us).length) I k (Nat.le_refl _) e nofun
      have K2x : K.In h' := K1x.keeps k
      obtain ⟨of, hof, hofc⟩ : ∃ of, h'.get? f2 = some of ∧ of.cls = .type "function" := by
        have ht' : (K.lookup f2).map (·.cls) = some (.type "function") := S.fn2
        cases z : K.lookup f2 with
        | none => rw [z] at ht'; cases ht'
        | some of => rw [z] at ht'; exact ⟨of, K2x _ _ z, Option.some.inj ht'⟩
      refine PySem.ks_wpAny_getMethod_super e (PySem.W.looks_opaque K2x S.opq) (l₀ := cdC.mro) ?_ rfl K2x hal hof hofc (PySem.W.ks_ne K1x IA hcC) (by decide +kernel) ?_
      · exact fun A Q E s k q => wpAny_bind ((PySem.W.looks_clsIn K2x hcC) A _ E s k (wpAny_pure q))
      have I2 := ClX.met_new (g := f2) (C := b0) I1
      have eQ : (h'.push (PySem.W.methodObj (.ref f2) (.ref b0))) = (h'.push (PySem.W.methodObj (.ref f2) (.ref b0))) := rfl
      refine ClX.callwith_cm I2 (ClX.base_none I1 (Nat.le_refl _)) S.fi2 (thn ((pa_cons (pe_var (i := 1) rfl (.inl rfl)) (pa_cons (pe_var (i := 2) rfl (.inl rfl)) pa_nil)).run _ _ _ _ H (fun vs H1 => vs = [v1, v2] ∧ H1 = H) I2 ⟨v1, rfl, v2, rfl, rfl, rfl⟩) fun us s3 ⟨vs, H2, I3, rv, q1, q2⟩ => ⟨⟨ClX.pin_at I3, I3.kIn⟩, ?_⟩) rfl rfl
      subst q1 q2
      obtain ⟨fM, fdM, psM, hmM, FM, bM⟩ := MS.ex
      have ef : fM = f2 := by
        have h1 := hmM.at_
        rw [hm2.at_] at h1
        cases h1
        rfl
      subst ef
      have FR : FnR P w K mg base CX0 1 fM (spM K (wWhyScan CM)) := (FM.raw bM .nil).imp fun vs H Q E h => by rw [List.append_nil]; exact h
      refine thn (ClX.run_cm (X := NdefX.ncx CX0 P w K mg base wsN F f A outer s H2 E) (E := E) (Q := fun v H' => v = V.non ∧ ∃ γ, Wl K α H2 γ s0 H') FR (hr5.mono (by decide)) pass0 I3 rv ⟨α, s0, _, fun d s' => d = .non ∧ s' = s0, so, dl, ⟨j, a, x, m, rfl, hs, hp, rfl, rfl⟩, fun γ s' d v H1 w da h => ?_⟩) fun u s4 ⟨v, H4, I4, r4, ev, γ, wl⟩ => ?_
      · obtain ⟨rfl, rfl⟩ := h
        exact ⟨da, γ, w⟩
      · subst ev
        refine store_ok (ClX.unpin I4) wsScope.nd (i := 4) rfl (.inl rfl) (v := .non) r4 (fun s5 I5 => ?_) (.inr rfl)
        have hsm : SMs (NdefX.ncx CX0 P w K mg base wsN F f A outer s H2 E) [some (.ref j), some (actD a), some (moD CM m), none, some .non] s0 ((defBody sWhyScanF).drop 1) { nx := fun _ s' => Φ .non s', rt := Φ } := by
          refine sms_cons (sm_if (tm_w (wm_and (tm_cmp (em_v4 (em_non (v2_isN (asB ?_))))))))
          rcases hs with rfl | ⟨fl, rfl⟩
          · exact absurd g.1 (by decide)
          · have hxl : x < m.seen.length := by
              rw [ok.seen, ← ok.paint]
              exact get_lt hp
            refine bif_eq (c := true) rfl (bif_t (wm_and1 (tm_cmp (em_ix (em_v1 (em_int (vi_tup (ds := [.str "scan", natD x, natD fl]) (d := natD fl) rfl (em_ix (at_seen M (em_v2 ⟨_, _, _, _, _, rfl, em_ix (em_v1 (em_int (vi_tup (ds := [.str "scan", natD x, natD fl]) (d := natD x) rfl (vi_tup (seen_at (seen_of hxl)) (v2_inT rfl (fl_nats _) (asB ?_))))))⟩))))))))))
            rw [inD_nats, decide_eq_false g.2.2.2.2]
            exact bif_f (sms_nil (sms_cons (sm_ret (em_v4 k_))))
        have kk1 := kk.step so wl
        refine PySem.wpAt_of_wpAny ((hsm (α ++ γ) [some (V.ref b0), some v1, some v2, none, some V.non] H4 { nx := fun _ H' => Q .non H', rt := Q } wl.ok ⟨rfl, fun i d h => ?_⟩ ⟨fun δ s' ρ' σ' H1 w1 re1 qq => kk1 δ s' .non .non H1 w1 rfl qq, fun _ _ _ _ _ _ _ z => z.elim, fun _ _ _ _ _ _ _ z => z.elim, kk1⟩).go [] s5 I5)
        match i, h with
        | 0, h => cases h; exact ⟨_, rfl, wl.da ⟨b0, hb0, rfl⟩⟩
        | 1, h => cases h; exact ⟨_, rfl, wl.da dv1⟩
        | 2, h => cases h; exact ⟨_, rfl, wl.da dv2⟩
        | 3, h => cases h
        | 4, h => cases h; exact ⟨_, rfl, rfl⟩
    refine PySem.ks_wpAt_mono body (fun fl s' hs => ?_) fun _ _ y => y
    have fin : ∀ {σ' : L2.St} {H' : Hp} {v : V} {u : Value}, Inv (NdefX.ncx CX0 P w K mg base wsN F f A outer s H E) [] σ' H' s' → L2.RelV v u → Q v H' → CE outer P w H s Q u s' :=
      fun {σ' H' v u} J rv q => ⟨v, H', J.os, J.bare, J.base, J.hok, rv, q⟩
    cases fl with
    | ret u =>
      obtain ⟨v, σ', H', J, rv, q⟩ := hs
      exact fin J rv q
    | next =>
      obtain ⟨σ', H', J, q⟩ := hs
      exact fin (v := V.non) (u := Value.none) J rfl q
    | brk =>
      obtain ⟨_, _, _, q⟩ := hs
      exact False.elim q
    | cont =>
      obtain ⟨_, _, _, q⟩ := hs
      exact False.elim q
end Sg
end T_P20

section T_Z0
set_option autoImplicit false
set_option maxRecDepth 100000
set_option maxHeartbeats 4000000
/-! facts of a part of the heap, by addresses -/
namespace Hd
open PySem L2 Mp Sg
theorem lookN_eq {a : Addr} : ∀ K : Fg, lookN a K = K.lookup a
  | [] => rfl
  | (b, o) :: r => by
    have ih := lookN_eq (a := a) r
    have hb : (a == b) = Nat.beq a b := by
      cases h : Nat.beq a b with
      | true => rw [Nat.eq_of_beq_eq_true h]; exact beq_self_eq_true b
      | false => exact beq_eq_false_iff_ne.mpr (Nat.ne_of_beq_eq_false h)
    rw [List.lookup_cons, ← ih, hb]
    show Bool.rec (motive := fun _ => Option Obj) (lookN a r) (some o) (Nat.beq a b) = _
    cases Nat.beq a b <;> rfl
theorem codeB_eq {K : Fg} {v : Value} {q : Str} : codeB K v q = PySem.W.codeIn K v q := by
  unfold codeB PySem.W.codeIn
  cases v with
  | ref c =>
    dsimp only
    rw [lookN_eq]
    cases K.lookup c with
    | none => rfl
    | some o =>
      obtain ⟨_, _, dt, _⟩ := o
      cases dt with
      | fields vs =>
        dsimp only
        cases vs.toList with
        | nil => rfl
        | cons x l =>
          cases l with
          | nil => rfl
          | cons y l => cases y <;> rfl
      | _ => rfl
  | _ => rfl
theorem refB_ok {r : Option (Option Value)} {a : Addr} (h : refB r a = true) : r = some (some (.ref a)) := by
  cases r with
  | none => cases h
  | some r =>
    cases r with
    | none => cases h
    | some v =>
      cases v with
      | ref b => rw [show b = a from Nat.eq_of_beq_eq_true h]
      | _ => cases h
theorem noB_ok {r : Option (Option Value)} (h : noB r = true) : r = some none := by
  cases r with
  | none => cases h
  | some r =>
    cases r with
    | none => rfl
    | some v => cases h
theorem bltB_ok {r : Option (Option Value)} {n : String} (h : bltB r n = true) : r = some (some (.builtin n)) := by
  cases r with
  | none => cases h
  | some r =>
    cases r with
    | none => cases h
    | some v =>
      cases v with
      | builtin b => rw [show b = n from of_decide_eq_true h]
      | _ => cases h
theorem b2 {a b : Bool} (h : (a && b) = true) : a = true ∧ b = true := Bool.and_eq_true_iff.mp h
/-! constants -/
mutual
theorem conD_ok {K : Fg} : ∀ (d : D) (u : Value), conD K d u = true → ∃ v, RelV v u ∧ ∀ α H, Da K α H d v
  | .non, .none, _ => ⟨.non, rfl, fun _ _ => rfl⟩
  | .bl b, .bool c, h => ⟨.bl c, rfl, fun _ _ => by rw [show b = c from eq_of_beq h]; rfl⟩
  | .int i, .int j t, h => ⟨.int j, ⟨t, rfl⟩, fun _ _ => by rw [show i = j from of_decide_eq_true h]; rfl⟩
  | .str x, .str y t, h => ⟨.str y, ⟨t, rfl⟩, fun _ _ => by rw [show x = y from of_decide_eq_true h]; rfl⟩
  | .adr a, .ref b, h => ⟨.ref b, rfl, fun _ _ => by rw [show a = b from Nat.eq_of_beq_eq_true h]; rfl⟩
  | .tup ds, .ref a, h => by
    have h1 : (match K.lookup a with
      | some ⟨.type c, _, .seq its _, _⟩ => decide (c = "tuple") && (decide (its.size ≤ sizeLine) && conDL K ds its.toList)
      | _ => false) = true := h
    cases q : K.lookup a with
    | none => rw [q] at h1; cases h1
    | some o =>
      obtain ⟨oc, od, dt, osl⟩ := o
      rw [q] at h1
      cases oc with
      | type c =>
        cases dt with
        | seq its n =>
          obtain ⟨z1, z2⟩ := b2 (show (decide (c = "tuple") && (decide (its.size ≤ sizeLine) && conDL K ds its.toList)) = true from h1)
          obtain ⟨z3, z4⟩ := b2 z2
          obtain ⟨vs, r, l⟩ := conDL_ok ds its.toList z4
          refine ⟨.ref a, rfl, fun α H => ⟨a, vs, rfl, .inr ⟨_, its, n, q, congrArg Value.type (of_decide_eq_true z1), rfl, of_decide_eq_true z3, r⟩, l α H⟩⟩
        | _ => cases h1
      | _ => cases dt <;> cases h1
theorem conDL_ok {K : Fg} : ∀ (ds : List D) (us : List Value), conDL K ds us = true → ∃ vs, Vals vs us ∧ ∀ α H, DaL K α H ds vs
  | [], [], _ => ⟨[], .nil, fun _ _ => rfl⟩
  | d :: ds, u :: us, h => by
    obtain ⟨z1, z2⟩ := b2 (show (conD K d u && conDL K ds us) = true from h)
    obtain ⟨v, r, l⟩ := conD_ok d u z1
    obtain ⟨vs, r2, l2⟩ := conDL_ok ds us z2
    exact ⟨v :: vs, .cons r r2, fun α H => ⟨v, vs, rfl, l α H, l2 α H⟩⟩
end
/-! facts -/
section
variable {K : Fg} {h : Heap} {mg : Str → Option Value}
theorem glo_ok (X : K.In h) (G : h.Ns mainGlobals mg) {x : Str} {a : Addr} (c : (Fc.glo x a).ok K = true) : mg x = some (.ref a) := PySem.W.mg_of X G (refB_ok c)
theorem free_ok (X : K.In h) (G : h.Ns mainGlobals mg) {x : Str} (c : (Fc.free x).ok K = true) : mg x = none := PySem.W.mg_none_of X G (noB_ok c)
theorem val_ok (X : K.In h) (G : h.Ns mainGlobals mg) {x : Str} {d : D} (c : (Fc.val x d).ok K = true) : GCon K mg x d := by
  have c2 : (match PySem.W.nsIn K mainGlobals x with
    | some (some u) => conD K d u
    | _ => false) = true := c
  cases e : PySem.W.nsIn K mainGlobals x with
  | none => rw [e] at c2; cases c2
  | some r =>
    cases r with
    | none => rw [e] at c2; cases c2
    | some u =>
      rw [e] at c2
      obtain ⟨v, r, l⟩ := conD_ok d u c2
      exact ⟨u, v, PySem.W.mg_of X G e, r, l⟩
theorem cls_ok {C : Addr} (c : (Fc.cls C).ok K = true) : Cls K C := by
  obtain ⟨c1, c⟩ := b2 c
  obtain ⟨c2, c⟩ := b2 c
  obtain ⟨c3, c4⟩ := b2 c
  exact ⟨c1, c2, c3, bltB_ok c4⟩
theorem noat_ok {C : Addr} {f : Str} (c : (Fc.noat C f).ok K = true) : NoAttr K C f := noB_ok c
theorem fnT_ok {f : Addr} (c : fnTB K f = true) : PySem.W.isFn K (.ref f) = true ∧ PySem.W.keepIn K (.ref f) = true ∧ PySem.W.fnIn K f = true ∧ PySem.W.typeIn K (.ref f) = some (.type "function") := by
  unfold fnTB at c
  rw [lookN_eq] at c
  cases q : K.lookup f with
  | none => rw [q] at c; cases c
  | some o =>
    obtain ⟨oc, od, dt, osl⟩ := o
    rw [q] at c
    cases oc with
    | type n =>
      cases dt with
      | func fd =>
        have e : n = "function" := of_decide_eq_true c
        subst e
        have t : PySem.W.typeIn K (.ref f) = some (.type "function") := by
          show (K.lookup f).map (·.cls) = _
          rw [q]
          rfl
        refine ⟨?_, ?_, ?_, t⟩
        · unfold PySem.W.isFn
          rw [t]
          decide
        · unfold PySem.W.keepIn
          dsimp only
          rw [q]
        · unfold PySem.W.fnIn
          rw [q]
      | _ => cases c
    | _ => cases dt <;> cases c
theorem meth_ok {C f : Addr} {m : Str} (c : (Fc.meth C m f).ok K = true) : Meth K C m f := by
  obtain ⟨c1, c2⟩ := b2 c
  obtain ⟨f1, f2, _⟩ := fnT_ok c2
  exact ⟨refB_ok c1, f1, f2⟩
theorem fn_get : PySem.W.findIn K (.type "function") "__get__" = some (some (.builtin "function.__get__")) := by kernel_rfl
theorem fn_set : PySem.W.findIn K (.type "function") "__set__" = some none := by kernel_rfl
theorem fn_del : PySem.W.findIn K (.type "function") "__delete__" = some none := by kernel_rfl
theorem pr_get : PySem.W.findIn K (.type "property") "__get__" = some (some (.builtin "property.__get__")) := by kernel_rfl
theorem pr_set : ∃ v, PySem.W.findIn K (.type "property") "__set__" = some (some v) := ⟨.builtin "property.__set__", by kernel_rfl⟩
theorem bmeth_ok {C f : Addr} {m : Str} (c : (Fc.meth C m f).ok K = true) (hc : PySem.W.copiedNames.contains m = false) : BMeth K C m f := by
  have mt := meth_ok c
  obtain ⟨c1, c2⟩ := b2 c
  obtain ⟨f1, f2, f3, t⟩ := fnT_ok c2
  refine ⟨mt, ?_, ?_, hc, f3⟩
  · unfold PySem.W.specialIn
    rw [t]
    exact fn_get (K := K)
  · unfold PySem.W.takesIn PySem.W.specialIn
    rw [t]
    show (match PySem.W.findIn K (.type "function") "__set__" with
      | some (some _) => some true
      | some none => (PySem.W.findIn K (.type "function") "__delete__").map (·.isSome)
      | none => none) = some false
    rw [fn_set (K := K), fn_del (K := K)]
    rfl
theorem mkr_ok {C f : Addr} (c : (Fc.mkr C f).ok K = true) : Mk K C f := by
  obtain ⟨c1, c⟩ := b2 c
  obtain ⟨c2, c⟩ := b2 c
  obtain ⟨c3, c4⟩ := b2 c
  exact ⟨c1, refB_ok c2, (fnT_ok c3).1, c4⟩
theorem prop_ok {C p g : Addr} {m : Str} (c : (Fc.prop C m p g).ok K = true) : PropOf K C m p g := by
  obtain ⟨c1, c2⟩ := b2 c
  unfold propB at c2
  rw [lookN_eq] at c2
  cases q : K.lookup p with
  | none => rw [q] at c2; cases c2
  | some o =>
    obtain ⟨oc, od, dt, osl⟩ := o
    rw [q] at c2
    cases oc with
    | type n =>
      cases dt with
      | fields vs =>
        obtain ⟨z1, z2⟩ := b2 c2
        have e : n = "property" := of_decide_eq_true z1
        subst e
        have t : PySem.W.typeIn K (.ref p) = some (.type "property") := by
          show (K.lookup p).map (·.cls) = _
          rw [q]
          rfl
        refine ⟨refB_ok c1, ?_, ?_, ?_⟩
        · unfold PySem.W.specialIn
          rw [t]
          exact pr_get (K := K)
        · unfold PySem.W.takesIn PySem.W.specialIn
          rw [t]
          obtain ⟨v, e⟩ := pr_set (K := K)
          show (match PySem.W.findIn K (.type "property") "__set__" with
            | some (some _) => some true
            | some none => (PySem.W.findIn K (.type "property") "__delete__").map (·.isSome)
            | none => none) = some true
          rw [e]
        · unfold PySem.W.recIn
          rw [q]
          cases ev : vs.toList with
          | nil => rw [ev] at z2; cases z2
          | cons v rest =>
            rw [ev] at z2
            cases v with
            | ref b =>
              refine ⟨rest, ?_⟩
              rw [← show b = g from Nat.eq_of_beq_eq_true z2]
              show (if (("property" : String) == "property") = true then some vs.toList else none) = _
              rw [if_pos (by decide), ev]
            | _ => cases z2
      | _ => cases c2
    | _ => cases dt <;> cases c2
theorem con_ok {C : Addr} {f : Str} {d : D} (c : (Fc.con C f d).ok K = true) (hc : PySem.W.copiedNames.contains f = false) : ConD K C f d := by
  have c2 : (match PySem.W.findIn K (.ref C) f with
    | some (some u) => conD K d u && noB (PySem.W.specialIn K u "__get__")
    | _ => false) = true := c
  cases e : PySem.W.findIn K (.ref C) f with
  | none => rw [e] at c2; cases c2
  | some r =>
    cases r with
    | none => rw [e] at c2; cases c2
    | some u =>
      rw [e] at c2
      obtain ⟨z1, z2⟩ := b2 c2
      obtain ⟨v, r, l⟩ := conD_ok d u z1
      exact ⟨v, u, ⟨e, r, noB_ok z2, hc⟩, l⟩
end
/-! defs -/
theorem DefA.lk {K : Fg} {d : DefA} (e : fnA K d.a = d.val) (c : d.ok K = true) : ∃ (oc : Value) (od : Option Addr) (dV kV doc pm : Value) (an : Option Addr) (cdv ct : Value) (osl : Array (Option Value)),
    K.lookup d.a = some ⟨oc, od, .func (PySem.W.fnX d.name d.qual (defArgs d.st) (defBody d.st) (defScope d.st) d.clo dV kV doc pm an cdv ct), osl⟩ ∧ PySem.W.codeIn K cdv d.qual = true ∧ DflV K dV [] ∧ KwdV K kV d.kwd := by
  obtain ⟨_, c2⟩ := b2 c
  unfold fnA at e
  rw [lookN_eq] at e c2
  cases q : K.lookup d.a with
  | none => rw [q] at c2; cases c2
  | some o =>
    obtain ⟨oc, od, dt, osl⟩ := o
    rw [q] at c2 e
    cases dt with
    | func fd =>
      obtain ⟨n1, n2, n3, n4, n5, n6, n7, n8, n9, n10, n11, n12, n13, n14, n15⟩ := fd
      have e2 : (some (n1, n2, n3, n4, n5, n6, n7, n15) : He.FnW) = some (d.name, d.qual, defArgs d.st, .stmts (defBody d.st), defScope d.st, mainGlobals, d.clo, builtinsNs) := e
      simp only [Option.some.injEq, Prod.mk.injEq] at e2
      obtain ⟨h1, h2, h3, h4, h5, h6, h7, h8⟩ := e2
      subst h1 h2 h3 h4 h5 h6 h7 h8
      obtain ⟨k1, k2⟩ := b2 (show (codeB K n13 d.qual && (He.dflB K n8 [] && He.kwdB K n9 d.kwd)) = true from c2)
      obtain ⟨k3, k4⟩ := b2 k2
      rw [codeB_eq] at k1
      exact ⟨oc, od, n8, n9, n10, n11, n12, n13, n14, osl, rfl, k1, He.dflB_ok k3, He.kwdB_ok k4⟩
    | _ => cases c2
theorem DefA.funD {K : Fg} {d : DefA} (e : fnA K d.a = d.val) (c : d.ok K = true) (h0 : d.clo = []) : ∃ fd, FunD K d.name d.qual (defArgs d.st) (defBody d.st) (defScope d.st) [] d.kwd d.a fd := by
  obtain ⟨oc, od, dV, kV, doc, pm, an, cdv, ct, osl, lk, k1, k2, k3⟩ := DefA.lk e c
  obtain ⟨c1, _⟩ := b2 c
  rw [h0] at lk
  exact ⟨_, ⟨oc, od, dV, kV, doc, pm, an, cdv, ct, osl, rfl, lk, k1, k2, k3⟩, (fnT_ok c1).2.1⟩
/-! the Hook -/
noncomputable def hookA (as : List Addr) (fa : List Fc) (fn : List DefA) : PySem.W.Hook where
  α := Al
  obs := fun s => obsA fa fn (He.frG s.heap.get? as)
  val := fun _ => valA fn
  says := fun _ h => ∃ K : Fg, K.In h ∧ SaysA fa fn K
  of := fun _ _ e => ⟨_, He.frG_in, e⟩
  keeps := fun _ _ _ ⟨K, hK, c⟩ k => ⟨K, PySem.W.Frag.In.keeps hK k, c⟩
theorem obsA_eq {as : List Addr} {fa : List Fc} {fn : List DefA} {g : Addr → Option Obj} {s : Shared} (h : ∀ a, g a = s.heap.get? a) : obsA fa fn (He.frG g as) = (hookA as fa fn).obs s := by
  have e : g = s.heap.get? := funext h
  rw [e] <;> rfl
section
variable {fa : List Fc} {fn : List DefA} {K : Fg}
theorem SaysA.fact (c : SaysA fa fn K) {f : Fc} (h : f ∈ fa) : f.ok K = true :=
  List.all_eq_true.mp (b2 (show ((fa.all fun f => f.ok K) && fn.all fun d => d.ok K) = true from congrArg (fun z : Al => z.1) c)).1 f h
theorem SaysA.def_ (c : SaysA fa fn K) (i : Nat) {d : DefA} (h : fn[i]? = some d := by rfl) : fnA K d.a = d.val ∧ d.ok K = true := by
  have c2 := (b2 (show ((fa.all fun f => f.ok K) && fn.all fun d => d.ok K) = true from congrArg (fun z : Al => z.1) c)).2
  have e : fn.map (fun d => fnA K d.a) = fn.map DefA.val := congrArg (fun z : Al => z.2) c
  have e2 : (fn.map fun d => fnA K d.a)[i]? = (fn.map DefA.val)[i]? := by rw [e]
  rw [List.getElem?_map, List.getElem?_map, h] at e2
  exact ⟨Option.some.inj e2, List.all_eq_true.mp c2 d (List.mem_of_getElem? h)⟩
theorem SaysA.at_ (c : SaysA fa fn K) (i : Nat) {f : Fc} (h : fa[i]? = some f := by rfl) : f.ok K = true := c.fact (List.mem_of_getElem? h)
end
/-! a dict of ints -/
theorem intsB_ok (x : Str) : ∀ (t : List (Str × Int)) (l : List DictEntry), intsB t l = true → l.any (·.refKey) = false ∧ match t.lookup x with
    | some i => ∃ e, l.find? (·.key.isStr x) = some e ∧ RelV (.int i) e.val
    | none => l.find? (·.key.isStr x) = none
  | [], [], _ => ⟨rfl, rfl⟩
  | (k, i) :: t, e :: l, h => by
    obtain ⟨h1, h2⟩ := b2 h
    obtain ⟨h3, h4⟩ := b2 h2
    obtain ⟨ih1, ih2⟩ := intsB_ok x t l h4
    obtain ⟨eh, ek, ev⟩ := e
    cases ek with
    | str y tk =>
      obtain rfl : y = k := eq_of_beq h1
      cases ev with
      | int j tj =>
        obtain rfl : i = j := of_decide_eq_true h3
        refine ⟨ih1, ?_⟩
        have es : (Value.str y tk).isStr x = (x == y) := by
          show (y == x) = (x == y)
          exact Bool.beq_comm
        rw [List.find?_cons, List.lookup_cons]
        show (match (match x == y with | true => some i | false => t.lookup x) with
          | some i => ∃ e, (match (Value.str y tk).isStr x with | true => some _ | false => l.find? _) = some e ∧ RelV (.int i) e.val
          | none => (match (Value.str y tk).isStr x with | true => some _ | false => l.find? _) = none)
        rw [es]
        cases x == y with
        | true => exact ⟨_, rfl, tj, rfl⟩
        | false => exact ih2
      | _ => cases h3
    | _ => cases h1
theorem rawInts_ok {K : Fg} {d : Addr} {t : List (Str × Int)} {w : World} {ks : List Str} (h : rawInts d t K = true) (hd : He.dicW K d = some (He.keysIn w.params ks)) : KInts K w d t := by
  obtain ⟨es, n, D⟩ := He.dicW_ok hd
  refine ⟨es, n, D, fun x => ?_⟩
  unfold rawInts at h
  rw [D.at_] at h
  obtain ⟨h1, h2⟩ := intsB_ok x t es.toList h
  unfold PySem.W.nsIn
  rw [D.at_]
  dsimp only
  cases e : t.lookup x with
  | some i =>
    rw [e] at h2
    obtain ⟨en, h3, h4⟩ := h2
    rw [h3]
    exact ⟨_, rfl, _, rfl, h4⟩
  | none =>
    rw [e] at h2
    have h2 : es.toList.find? (·.key.isStr x) = none := h2
    rw [h2]
    refine ⟨none, ?_, rfl⟩
    dsimp only
    rw [h1]
    rfl
end Hd
end T_Z0

section T_Z3
set_option autoImplicit false
set_option maxRecDepth 100000
set_option maxHeartbeats 4000000
namespace Hd
open PySem L2 Mp Sg
section
variable {K : Fg} {h : Heap} {mg : Str → Option Value} (S : SaysA fa fn K) (X : K.In h) (G : h.Ns mainGlobals mg)
include S
theorem dM (i c j : Nat) {C f : Addr} {m q : Str} {st : Stmt} (h1 : fa[i]? = some (.meth C m f) := by rfl) (hc : fa[c]? = some (.cls C) := by rfl) (h2 : fn[j]? = some ⟨f, m, q, st, [], []⟩ := by rfl) : DefM K C m q st := by
  obtain ⟨e, d⟩ := S.def_ j h2
  obtain ⟨fd, F⟩ := DefA.funD e d rfl
  exact ⟨f, fd, meth_ok (S.at_ i h1), cls_ok (S.at_ c hc), F⟩
theorem dB (i c j : Nat) {C f : Addr} {m q : Str} {st : Stmt} (h1 : fa[i]? = some (.meth C m f) := by rfl) (hc : fa[c]? = some (.cls C) := by rfl) (h2 : fn[j]? = some ⟨f, m, q, st, [], []⟩ := by rfl) (hm : PySem.W.copiedNames.contains m = false := by decide +kernel) : DefB K C m q st := by
  obtain ⟨e, d⟩ := S.def_ j h2
  obtain ⟨fd, F⟩ := DefA.funD e d rfl
  exact ⟨f, fd, bmeth_ok (S.at_ i h1) hm, cls_ok (S.at_ c hc), F⟩
theorem dP (i c j : Nat) {C p f : Addr} {m q : Str} {st : Stmt} (h1 : fa[i]? = some (.prop C m p f) := by rfl) (hc : fa[c]? = some (.cls C) := by rfl) (h2 : fn[j]? = some ⟨f, m, q, st, [], []⟩ := by rfl) : DefP K C m q st := by
  obtain ⟨e, d⟩ := S.def_ j h2
  obtain ⟨fd, F⟩ := DefA.funD e d rfl
  exact ⟨p, f, fd, prop_ok (S.at_ i h1), cls_ok (S.at_ c hc), F⟩
include X G
theorem dGK (i j : Nat) {x q : Str} {a : Addr} {st : Stmt} {kw : List (Str × V)} (h1 : fa[i]? = some (.glo x a) := by rfl) (h2 : fn[j]? = some ⟨a, q, q, st, kw, []⟩ := by rfl) : ∃ f fd, mg x = some (.ref f) ∧ FunD K q q (defArgs st) (defBody st) (defScope st) [] kw f fd := by
  obtain ⟨e, c⟩ := S.def_ j h2
  obtain ⟨fd, F⟩ := DefA.funD e c rfl
  exact ⟨a, fd, glo_ok X G (S.at_ i h1), F⟩
theorem dG (i j : Nat) {x : Str} {a : Addr} {st : Stmt} (h1 : fa[i]? = some (.glo x a) := by rfl) (h2 : fn[j]? = some ⟨a, x, x, st, [], []⟩ := by rfl) : DefG K mg x st := dGK S X G i j h1 h2
theorem dK (i c j : Nat) {C f : Addr} {x q : Str} {st : Stmt} {kw : List (Str × V)} (h1 : fa[i]? = some (.glo x C) := by rfl) (hc : fa[c]? = some (.mkr C f) := by rfl) (h2 : fn[j]? = some ⟨f, "__init__", q, st, kw, []⟩ := by rfl) : ∃ f fd, mg x = some (.ref C) ∧ Mk K C f ∧ FunD K "__init__" q (defArgs st) (defBody st) (defScope st) [] kw f fd := by
  obtain ⟨e, d⟩ := S.def_ j h2
  obtain ⟨fd, F⟩ := DefA.funD e d rfl
  exact ⟨f, fd, glo_ok X G (S.at_ i h1), mkr_ok (S.at_ c hc), F⟩

theorem tx : Tx K mg := ⟨free_ok X G (S.at_ 48), free_ok X G (S.at_ 49), free_ok X G (S.at_ 50), free_ok X G (S.at_ 51), free_ok X G (S.at_ 52), free_ok X G (S.at_ 53), free_ok X G (S.at_ 54), free_ok X G (S.at_ 55), free_ok X G (S.at_ 56), free_ok X G (S.at_ 57), free_ok X G (S.at_ 58), free_ok X G (S.at_ 59), free_ok X G (S.at_ 60), free_ok X G (S.at_ 61), free_ok X G (S.at_ 62), free_ok X G (S.at_ 63), free_ok X G (S.at_ 64), free_ok X G (S.at_ 65), val_ok X G (S.at_ 66), val_ok X G (S.at_ 67), val_ok X G (S.at_ 68), val_ok X G (S.at_ 69), val_ok X G (S.at_ 70), val_ok X G (S.at_ 71), val_ok X G (S.at_ 72), val_ok X G (S.at_ 73), val_ok X G (S.at_ 74), val_ok X G (S.at_ 75)⟩
omit X G
theorem momC : MomC K 305 := ⟨cls_ok (S.at_ 79), noat_ok (S.at_ 84), noat_ok (S.at_ 85), noat_ok (S.at_ 86), noat_ok (S.at_ 87), noat_ok (S.at_ 88)⟩
theorem trC : TrC K 700 := ⟨cls_ok (S.at_ 81), noat_ok (S.at_ 92), noat_ok (S.at_ 93), noat_ok (S.at_ 94)⟩
theorem cycW : CycC K 1025 false := ⟨cls_ok (S.at_ 82), noat_ok (S.at_ 95), noat_ok (S.at_ 96), noat_ok (S.at_ 97), noat_ok (S.at_ 98), noat_ok (S.at_ 99), con_ok (S.at_ 105) (by decide +kernel), con_ok (S.at_ 106) (by decide +kernel), con_ok (S.at_ 107) (by decide +kernel)⟩
theorem cycF : CycC K 1076 true := ⟨cls_ok (S.at_ 83), noat_ok (S.at_ 100), noat_ok (S.at_ 101), noat_ok (S.at_ 102), noat_ok (S.at_ 103), noat_ok (S.at_ 104), con_ok (S.at_ 108) (by decide +kernel), con_ok (S.at_ 109) (by decide +kernel), con_ok (S.at_ 110) (by decide +kernel)⟩
theorem tabRaw : rawTable K = true := S.at_ 168 (f := .raw rawTable)
theorem supRaw : rawSuper K = true := S.at_ 169 (f := .raw rawSuper)
theorem intRaw : rawInts 334 sizesT K = true := S.at_ 170 (f := .raw (rawInts 334 tabS))
theorem tabC : TabC K 665 := ⟨cls_ok (S.at_ 80), noat_ok (S.at_ 89), noat_ok (S.at_ 90), noat_ok (S.at_ 91), con_ok (S.at_ 111) (by decide +kernel), (b2 (tabRaw S)).1⟩
theorem tabEmpty : ∃ mc p g fd, ClX.CRead K 665 mc ∧ ClX.CMet K 665 mc "empty" p g ∧ FunD K "empty" "Table.empty" (defArgs sTempty) (defBody sTempty) (defScope sTempty) [] [("fresh", .str "black"), ("roots", .str "once")] g fd := by
  obtain ⟨_, h1⟩ := b2 (tabRaw S)
  obtain ⟨h2, h1⟩ := b2 h1
  obtain ⟨h3, h1⟩ := b2 h1
  obtain ⟨h4, h1⟩ := b2 h1
  obtain ⟨h5, h6⟩ := b2 h1
  obtain ⟨e, d⟩ := S.def_ 54 (d := ⟨521, "empty", "Table.empty", sTempty, [("fresh", .str "black"), ("roots", .str "once")], []⟩)
  obtain ⟨fd, F⟩ := DefA.funD e d rfl
  refine ⟨.type "type", 523, 521, fd, ⟨h2, bltB_ok h3⟩, ⟨?_, ?_, (fnT_ok h6).2.2.1⟩, F⟩
  · cases q : PySem.W.findCls K (.ref 665) (.type "type") "empty" with
    | none => rw [q] at h4; cases h4
    | some z =>
      rw [q] at h4
      revert h4
      split
      · rename_i b p c he
        intro h4
        obtain ⟨e1, e2⟩ := b2 h4
        obtain ⟨e2, e3⟩ := b2 e2
        rw [of_decide_eq_true e1, Nat.eq_of_beq_eq_true e2, Nat.eq_of_beq_eq_true e3] at he
        exact he
      · intro h4; cases h4
  · cases q : PySem.W.recIn K 523 "classmethod" with
    | none => rw [q] at h5; cases h5
    | some z =>
      rw [q] at h5
      revert h5
      split
      · rename_i g r he
        intro h5
        rw [Nat.eq_of_beq_eq_true h5] at he
        exact ⟨r, he⟩
      · intro h5; cases h5
omit S
theorem cdv_ok {v : Value} {a : Addr} (h : (match v with
  | .ref c => Nat.beq c a
  | _ => false) = true) : v = .ref a := by
  cases v with
  | ref c => rw [show c = a from Nat.eq_of_beq_eq_true h]
  | _ => cases h
include S
theorem supF {P : Program} (hP1 : (P.main.file : Str) = "/claim/cut.py") (hP2 : (P.main.scope.names.lookup ("super" : Str)).isSome = false) : SupF P K 1076 1045 881 1033 := by
  obtain ⟨e, d⟩ := S.def_ 80 (d := ⟨1045, "why_scan", "FieldCycle.why_scan", sWhyScanF, [], [("__class__", 1033)]⟩)
  obtain ⟨oc, od, dV, kV, doc, pm, an, cdv, ct, osl, lk, k1, k2, k3⟩ := DefA.lk e d
  have f2 := fnT_ok (b2 (S.def_ 72 (d := ⟨881, "why_scan", "Cycle.why_scan", sWhyScan, [], []⟩)).2).1
  obtain ⟨s1, r⟩ := b2 (supRaw S)
  obtain ⟨s2, r⟩ := b2 r
  obtain ⟨r, s5⟩ := b2 r
  obtain ⟨s3, s4⟩ := b2 r
  have hcell : ∃ oc od osl, K.lookup 1033 = some ⟨oc, od, .cell (some (.ref 1076)), osl⟩ := by
    cases q : K.lookup 1033 with
    | none => rw [q] at s1; cases s1
    | some o =>
      obtain ⟨oc, od, dt, osl⟩ := o
      rw [q] at s1
      cases dt with
      | cell v =>
        cases v with
        | none => cases s1
        | some v => cases v with
          | ref D => rw [show D = 1076 from Nat.eq_of_beq_eq_true s1]; exact ⟨_, _, _, rfl⟩
          | _ => cases s1
      | _ => cases s1
  have lk2 : K.lookup 1045 = some ⟨oc, od, .func (PySem.W.fnX "why_scan" "FieldCycle.why_scan" (defArgs sWhyScanF) (defBody sWhyScanF) (defScope sWhyScanF) [("__class__", 1033)] dV kV doc pm an cdv ct), osl⟩ := lk
  have hc : cdv = .ref 1044 := by
    rw [lk2] at s5
    exact cdv_ok s5
  subst hc
  have hcode : ∃ ocl odl vs osl2 file tf, K.lookup 1044 = some ⟨ocl, odl, .fields vs, osl2⟩ ∧ vs[2]? = some (.str file tf) ∧ ((P.main.file : Str) == file) = true := by
    cases q : K.lookup 1044 with
    | none => rw [q] at s4; cases s4
    | some o =>
      obtain ⟨ocl, odl, dt, osl2⟩ := o
      rw [q] at s4
      cases dt with
      | fields vs =>
        have s6 : (match (vs[2]? : Option Value) with
          | some (.str f _) => decide (f = "/claim/cut.py")
          | _ => false) = true := s4
        cases e2 : (vs[2]? : Option Value) with
        | none => rw [e2] at s6; cases s6
        | some v =>
          rw [e2] at s6
          cases v with
          | str f tf =>
            have e3 : f = "/claim/cut.py" := of_decide_eq_true s6
            exact ⟨_, _, _, _, f, tf, rfl, e2, by rw [hP1, e3]; exact beq_self_eq_true _⟩
          | _ => cases s6
      | _ => cases s4
  have hr := (b2 (b2 (tabRaw S)).2).1
  simp only [PySem.W.readsIn, Bool.and_eq_true, beq_iff_eq] at hr
  exact ⟨⟨oc, od, dV, kV, doc, pm, an, 1044, ct, osl, lk2, k1, k2, hcode⟩, hcell, cls_ok (S.at_ 83), meth_ok (S.at_ 160), refB_ok s2, f2.2.2.2, f2.2.2.1, of_decide_eq_true s3, hr.1.1.1.1, hP2⟩
omit S
theorem mfn_mono {P : Program} {w : World} {K : Fg} {mg : Str → Option Value} {base : Heap} {C : Addr} {m : Str} {j k : Nat} {W : Wt} (M : MFn P w K mg base C m j W) (h : j ≤ k) : MFn P w K mg base C m k W := by
  obtain ⟨f, fd, ps, a, b, c⟩ := M.ex
  exact ⟨M.cl, f, fd, ps, a, b.mono h, c⟩
theorem law_all {P : Program} {w : World} {base : Heap} (X : K.In h) (G : h.Ns mainGlobals mg) (c : obs2 K = val2 w) (hP1 : (P.main.file : Str) = "/claim/cut.py") (hP2 : (P.main.scope.names.lookup ("super" : Str)).isSome = false) {fa1 : Addr} {fd : FuncData} (F : FunD K "law" "law" (defArgs lLaw) (defBody lLaw) (defScope lLaw) [] [] fa1 fd) : FnOk P w K mg base CX0 10 fa1 fd ["_law_script"] (spM K wLaw) := by
  have S : SaysA fa fn K := congrArg (fun z : Al2 => z.1) c
  have T := tx S X G
  have M := momC S
  have TR := trC S
  have TC := tabC S
  have put := g_put (P := P) (w := w) (mg := mg) (base := base) (dG S X G 0 0)
  have momI := mk_mom (P := P) (w := w) (mg := mg) (base := base) M (dK S X G 42 112 41)
  have inPhase := m_inphase (P := P) (w := w) (mg := mg) (base := base) M momI (dM S 117 79 42)
  have holding := m_holding (P := P) (w := w) (mg := mg) (base := base) M momI put (dM S 120 79 45)
  have shaded := m_shaded (P := P) (w := w) (mg := mg) (base := base) T M momI put (dB S 118 79 43)
  have reopened := m_reopened (P := P) (w := w) (mg := mg) (base := base) T M momI put (dM S 119 79 44)
  have stored := m_stored (P := P) (w := w) (mg := mg) (base := base) T M momI put (dM S 121 79 46)
  have grown := m_grown (P := P) (w := w) (mg := mg) (base := base) T M momI put (dM S 122 79 47)
  have visited := m_visited (P := P) (w := w) (mg := mg) (base := base) T M momI put (dM S 123 79 48)
  have have_ := m_have (P := P) (w := w) (mg := mg) (base := base) T M (dM S 124 79 49)
  have first := g_first (P := P) (w := w) (mg := mg) (base := base) T momI (dG S X G 4 4)
  have greyed_ := g_greyed (P := P) (w := w) (mg := mg) (base := base) T M (dG S X G 5 5)
  have between := g_between (P := P) (w := w) (mg := mg) (base := base) T (dG S X G 1 1)
  have held := g_held (P := P) (w := w) (mg := mg) (base := base) T between (dG S X G 2 2)
  have heap := g_heap (P := P) (w := w) (mg := mg) (base := base) T between held (dG S X G 3 3)
  have reachf := g_reach (P := P) (w := w) (mg := mg) (base := base) T (dG S X G 6 6)
  have reaching := g_reachable (P := P) (w := w) (mg := mg) (base := base) T reachf (y := "reachable_reaching") (dGK S X G 41 7)
  have index := g_index (P := P) (w := w) (mg := mg) (base := base) T (x := "is_index") rfl (dG S X G 8 8)
  have size := g_size (P := P) (w := w) (mg := mg) (base := base) T (dS := 334) ⟨_, .ref 334, glo_ok X G (S.at_ 47 (f := .glo "SIZES" 334)), rfl, fun _ _ => rfl⟩ (rawInts_ok (ks := keysS) (intRaw S) (congrArg (fun z : Al2 => z.2) c)) (dG S X G 9 9)
  have step := g_step (P := P) (w := w) (mg := mg) (base := base) T index size (kws := [("scanning", .str "whole")]) nofun (dGK S X G 10 10)
  have named := g_named (P := P) (w := w) (mg := mg) (base := base) T (dG S X G 11 11)
  have heldOf := g_heldOf (P := P) (w := w) (mg := mg) (base := base) T named (dG S X G 12 12)
  have field := g_field (P := P) (w := w) (mg := mg) (base := base) T (dG S X G 13 13)
  have isColor := g_isColor (P := P) (w := w) (mg := mg) (base := base) T (val_ok X G (S.at_ 76)) (dG S X G 14 14)
  have isEntry := g_isEntry (P := P) (w := w) (mg := mg) (base := base) T (val_ok X G (S.at_ 77)) isColor (dG S X G 15 15)
  have listed_ := g_listed (P := P) (w := w) (mg := mg) (base := base) T (val_ok X G (S.at_ 78)) (dG S X G 16 16)
  have sorted_ := g_sorted (P := P) (w := w) (mg := mg) (base := base) T isEntry listed_ (dG S X G 17 17)
  have tabI := mk_tab (P := P) (w := w) (mg := mg) (base := base) T TC sorted_ isColor (kws := [("fresh", .str "black"), ("roots", .str "once")]) (dK S X G 43 113 53)
  have empty_ := c_empty (P := P) (w := w) (mg := mg) (base := base) TC tabI (kws := [("fresh", .str "black"), ("roots", .str "once")]) nofun (tabEmpty S)
  have fresh_ := p_fresh (P := P) (w := w) (mg := mg) (base := base) TC (dP S 127 80 55)
  have roots_ := p_roots (P := P) (w := w) (mg := mg) (base := base) TC (dP S 128 80 56)
  have with_ := m_with (P := P) (w := w) (mg := mg) (base := base) TC tabI (dM S 129 80 57)
  have beside := m_beside (P := P) (w := w) (mg := mg) (base := base) TC (dM S 130 80 58)
  have need := m_need (P := P) (w := w) (mg := mg) (base := base) TC beside (dM S 131 80 59)
  have or_ := m_or (P := P) (w := w) (mg := mg) (base := base) TC listed_ need with_ (dB S 132 80 60)
  have cont := m_cont (P := P) (w := w) (mg := mg) (base := base) TC isEntry (dB S 133 80 61)
  have MM : MomM P w K mg base 305 := ⟨M, shaded, inPhase, holding, stored, reopened, grown, visited⟩
  have CCW := cycW S
  have nowW := m_now (P := P) (w := w) (mg := mg) (base := base) (CM := 305) CCW (dM S 134 82 63)
  have pheapW := p_heap (P := P) (w := w) (mg := mg) (base := base) M CCW nowW (dP S 135 82 64)
  have pregsW := p_regs (P := P) (w := w) (mg := mg) (base := base) M CCW nowW (dP S 136 82 65)
  have pphaseW := p_phase (P := P) (w := w) (mg := mg) (base := base) M CCW nowW (dP S 138 82 67)
  have pstateW := p_state (P := P) (w := w) (mg := mg) (base := base) M CCW nowW (dP S 137 82 66)
  have poldW := p_old (P := P) (w := w) (mg := mg) (base := base) (CM := 305) CCW (dP S 139 82 68)
  have preachW := p_reach (P := P) (w := w) (mg := mg) (base := base) CCW pheapW pregsW reaching (dP S 140 82 69)
  have whyscanW : MFn P w K mg base 1025 "why_scan" 6 (wWhyScanB false 1025 305) := mfn_mono (m_whyscan (C := 1025) (W := wWhyScanB false 1025 305) T M (fun ds s Φ ⟨j, a, x, m, _, _, e, _, hs, hp, _, _, k⟩ => ⟨j, a, x, m, e, hs, hp, k⟩) (dM S 143 82 72)) (by decide)
  have whylastW := m_whylast (P := P) (w := w) (mg := mg) (base := base) T M CCW TC roots_ have_ (dM S 144 82 73)
  have whynamedW := m_whynamed (P := P) (w := w) (mg := mg) (base := base) (CT := 665) T M CCW named heldOf field whyscanW whylastW (dM S 142 82 71)
  have whyW := m_why (P := P) (w := w) (mg := mg) (base := base) T M CCW nowW step pphaseW whynamedW (dM S 141 82 70)
  have loadW := m_afterload (P := P) (w := w) (mg := mg) (base := base) (CT := 665) T MM CCW cont (dM S 146 82 75)
  have storeW := m_afterstore (P := P) (w := w) (mg := mg) (base := base) (CT := 665) T MM CCW cont (dM S 147 82 76)
  have scanW := m_afterscan (P := P) (w := w) (mg := mg) (base := base) (CT := 665) T MM CCW (dB S 148 82 77)
  have afterW := m_after (P := P) (w := w) (mg := mg) (base := base) T MM CCW fresh_ ⟨loadW, storeW, scanW⟩ (dM S 145 82 74)
  have enterW := m_enter (P := P) (w := w) (mg := mg) (base := base) TR CCW (dB S 125 81 51)
  have exitW := m_exit (P := P) (w := w) (mg := mg) (base := base) TR CCW (dB S 126 81 52)
  have trlW := mk_trl (P := P) (w := w) (mg := mg) (base := base) TR CCW (dK S X G 44 114 50)
  have trialW := m_trial (P := P) (w := w) (mg := mg) (base := base) CCW trlW (dM S 150 82 79)
  have stepW := m_step (P := P) (w := w) (mg := mg) (base := base) T M CCW TR nowW greyed_ trialW enterW exitW whyW afterW (dB S 149 82 78)
  have allW : CycAll P w K mg base false 1025 305 665 := ⟨CCW, poldW, pstateW, preachW, stepW⟩
  have mkW := mk_cyc (P := P) (w := w) (mg := mg) (base := base) (CM := 305) (x := "Cycle") T CCW heap index reaching first (kws := [("table", .non)]) (dK S X G 45 115 62)
  have CCF := cycF S
  have nowF := m_now (P := P) (w := w) (mg := mg) (base := base) (CM := 305) CCF (dM S 151 83 63)
  have pheapF := p_heap (P := P) (w := w) (mg := mg) (base := base) M CCF nowF (dP S 152 83 64)
  have pregsF := p_regs (P := P) (w := w) (mg := mg) (base := base) M CCF nowF (dP S 153 83 65)
  have pphaseF := p_phase (P := P) (w := w) (mg := mg) (base := base) M CCF nowF (dP S 155 83 67)
  have pstateF := p_state (P := P) (w := w) (mg := mg) (base := base) M CCF nowF (dP S 154 83 66)
  have poldF := p_old (P := P) (w := w) (mg := mg) (base := base) (CM := 305) CCF (dP S 156 83 68)
  have preachF := p_reach (P := P) (w := w) (mg := mg) (base := base) CCF pheapF pregsF reaching (dP S 157 83 69)
  have wsc := m_whyscan (P := P) (w := w) (mg := mg) (base := base) (C := 1025) T M (W := wWhyScan 305) (fun _ _ _ h => h) (dM S 143 82 72)
  have whyscanF := m_whyscanF (P := P) (w := w) (mg := mg) (base := base) T M (supF S hP1 hP2) (meth_ok (S.at_ 143)) wsc
  have whylastF := m_whylast (P := P) (w := w) (mg := mg) (base := base) T M CCF TC roots_ have_ (dM S 161 83 73)
  have whynamedF := m_whynamed (P := P) (w := w) (mg := mg) (base := base) (CT := 665) T M CCF named heldOf field whyscanF whylastF (dM S 159 83 71)
  have whyF := m_why (P := P) (w := w) (mg := mg) (base := base) T M CCF nowF step pphaseF whynamedF (dM S 158 83 70)
  have loadF := m_afterload (P := P) (w := w) (mg := mg) (base := base) (CT := 665) T MM CCF cont (dM S 163 83 75)
  have storeF := m_afterstore (P := P) (w := w) (mg := mg) (base := base) (CT := 665) T MM CCF cont (dM S 164 83 76)
  have scanF := m_afterscanF (P := P) (w := w) (mg := mg) (base := base) (CT := 665) T MM (dB S 165 83 81)
  have afterF := m_after (P := P) (w := w) (mg := mg) (base := base) T MM CCF fresh_ ⟨loadF, storeF, scanF⟩ (dM S 162 83 74)
  have enterF := m_enter (P := P) (w := w) (mg := mg) (base := base) TR CCF (dB S 125 81 51)
  have exitF := m_exit (P := P) (w := w) (mg := mg) (base := base) TR CCF (dB S 126 81 52)
  have trlF := mk_trl (P := P) (w := w) (mg := mg) (base := base) TR CCF (dK S X G 44 114 50)
  have trialF := m_trial (P := P) (w := w) (mg := mg) (base := base) CCF trlF (dM S 167 83 79)
  have stepF := m_step (P := P) (w := w) (mg := mg) (base := base) T M CCF TR nowF greyed_ trialF enterF exitF whyF afterF (dB S 166 83 78)
  have allF : CycAll P w K mg base true 1076 305 665 := ⟨CCF, poldF, pstateF, preachF, stepF⟩
  have mkF := mk_cyc (P := P) (w := w) (mg := mg) (base := base) (CM := 305) (x := "FieldCycle") T CCF heap index reaching first (kws := [("table", .non)]) (dK S X G 46 116 62)
  have pen := g_pen (P := P) (w := w) (mg := mg) (base := base) T (dG S X G 18 18)
  have draw := g_draw (P := P) (w := w) (mg := mg) (base := base) T (dG S X G 19 19)
  have rule := g_rule (P := P) (w := w) (mg := mg) (base := base) T draw (dG S X G 20 20)
  have book := g_book (P := P) (w := w) (mg := mg) (base := base) (C := 665) ⟨_, .ref 665, glo_ok X G (S.at_ 43 (f := .glo "Table" 665)), rfl, fun _ _ => rfl⟩ TC tabI empty_ or_ (dG S X G 21 21)
  have net := g_net (P := P) (w := w) (mg := mg) (base := base) T draw (dG S X G 22 22)
  have holders := g_holders (P := P) (w := w) (mg := mg) (base := base) T draw (dG S X G 23 23)
  have model := g_model (P := P) (w := w) (mg := mg) (base := base) T (dG S X G 24 24)
  have shade := g_shade (P := P) (w := w) (mg := mg) (base := base) T (dG S X G 25 25)
  have lstored := g_stored (P := P) (w := w) (mg := mg) (base := base) T shade (dG S X G 26 26)
  have lscanned := g_scanned (P := P) (w := w) (mg := mg) (base := base) T shade (dG S X G 27 27)
  have lmade := g_made (P := P) (w := w) (mg := mg) (base := base) T (dG S X G 28 28)
  have ldo := g_do (P := P) (w := w) (mg := mg) (base := base) T shade lstored lmade lscanned (dG S X G 29 29)
  have lindex := g_lindex (P := P) (w := w) (mg := mg) (base := base) T (dG S X G 30 30)
  have lisact := g_lisact (P := P) (w := w) (mg := mg) (base := base) T lindex (dG S X G 31 31)
  have lnamed := g_lnamed (P := P) (w := w) (mg := mg) (base := base) T (dG S X G 32 32)
  have lwhylast := g_lwhylast (P := P) (w := w) (mg := mg) (base := base) T (dG S X G 34 34)
  have lwhy := g_lwhy (P := P) (w := w) (mg := mg) (base := base) T lisact lnamed lwhylast (dG S X G 33 33)
  have lscanof := g_lscanof (P := P) (w := w) (mg := mg) (base := base) T draw (dG S X G 35 35)
  have lact := g_lact (P := P) (w := w) (mg := mg) (base := base) T draw lscanof (dG S X G 36 36)
  have lshadesr := g_lshadesr (P := P) (w := w) (mg := mg) (base := base) T (dG S X G 37 37)
  have lscanr := g_lscanr (P := P) (w := w) (mg := mg) (base := base) T (dG S X G 38 38)
  have lbegun := g_lbegun (P := P) (w := w) (mg := mg) (base := base) T mkW mkF (dG S X G 39 39)
  exact g_law T (CW := 1025) (CF := 1076) (CM := 305) (CT := 665) ⟨pen, draw, rule, net, holders, book, lbegun, model, lact, lwhy, ldo, lshadesr, lscanr, allW, allF⟩ F
theorem law_facts {P : Program} {w : World} {f : Addr} (X : K.In h) (G : h.Ns mainGlobals mg) (c : obs2 K = val2 w) (hP1 : (P.main.file : Str) = "/claim/cut.py") (hP2 : (P.main.scope.names.lookup ("super" : Str)).isSome = false) (hfa : mg ("law" : Str) = some (.ref f)) :
    ∃ fd : FuncData, (∀ (s : Shared) (u : Value), BindsTo s fd ⟨[u], []⟩ [("_law_script", u)]) ∧ ∀ base : Heap, FnOk P w K mg base CX0 10 f fd ["_law_script"] (spM K wLaw) := by
  have S : SaysA fa fn K := congrArg (fun z : Al2 => z.1) c
  obtain ⟨f1, fd, hm, F⟩ := (dG S X G 40 40)
  have e := hfa.symm.trans hm
  cases e
  have b := FunD.bindsA (ps := ["_law_script"]) F fun _ _ _ _ _ _ us hl => match us, hl with | [_], _ => rfl
  exact ⟨fd, fun s u => b s [u] rfl, fun base => law_all X G c hP1 hP2 F⟩
theorem dal_ints {α : List Addr} {H : Hp} : ∀ ns : List Int, DaL K α H (ns.map D.int) (ns.map V.int)
  | [] => rfl
  | n :: ns => ⟨_, _, rfl, rfl, dal_ints ns⟩
theorem law_sp {H : Hp} {a : Addr} {ns : List Int} (hS : SqL K H a (ns.map V.int)) : spM K wLaw [.ref a] H (fun v _ => v = .bl true) fun _ _ _ => False := by
  refine ⟨[], [], [.fro (ns.map .int)], fun d _ => d = .bl true, ⟨rfl, List.nodup_nil, fun i b m hb => by cases hb⟩, ⟨.ref a, [], rfl, ⟨a, ns.map V.int, rfl, ?_, dal_ints ns⟩, rfl⟩, ⟨ns, rfl, rfl, rfl⟩, fun γ s' d v H1 w da hd => ?_⟩
  · rcases hS with h | h
    · exact .inl ⟨h, nofun⟩
    · exact .inr h
  · subst hd
    exact da
end
end Hd
end T_Z3

section T_Z4
set_option autoImplicit false
set_option maxRecDepth 100000
set_option maxHeartbeats 0
namespace Hd
theorem prog_file : ((PySem.Challenge.rw_shadeguards_k20_whole_no_shade_is_lost.prog).main.file : PySem.Str) = "/claim/cut.py" := by decide +kernel
theorem prog_super : ((PySem.Challenge.rw_shadeguards_k20_whole_no_shade_is_lost.prog).main.scope.names.lookup ("super" : PySem.Str)).isSome = false := by decide +kernel
end Hd
open PySem PySem.W PySem.Calls PyProof.Rows
theorem PySem.Challenge.cw_shadeguards_k20_whole_no_shade_is_lost_holds : PySem.Challenge.rw_shadeguards_k20_whole_no_shade_is_lost.Holds := by
  w_on; o_law
  refine HandSHeadRun.head_any (r := OpenLaw.row PySem.Challenge.rw_shadeguards_k20_whole_no_shade_is_lost) (q := Hd.qv) (H := Hd.hk) (ob := Hd.ob) (M := 12000) (loose := Hd.loose) (d := HandSHeadRun.topDef (OpenLaw.row PySem.Challenge.rw_shadeguards_k20_whole_no_shade_is_lost).prog 100) (kwd := []) Hd.ob_eq
    (by kernel_rfl) (fun s => by kernel_rfl) Hd.run (by kernel_rfl) (by kernel_rfl) (by kernel_rfl) (by rfl) (by first | assumption | decide +kernel) (by decide +kernel) ⟨rfl, rfl, rfl, rfl, rfl, by decide +kernel⟩ ?hw ?hc
  case hw => w_witness2
  case hc =>
    refine L2.walk_ofE (l := PySem.Challenge.rw_shadeguards_k20_whole_no_shade_is_lost) (n := 63) (k := 10) (x := "_law_script") (CX := L2.CX0) rfl (by decide) (by kernel_rfl) ⟨rfl, by decide, by decide⟩ ?F (fun _ _ _ _ z => z)
    intro w mg fa h Y G hmg0
    obtain ⟨K, KX, c⟩ := Y
    have hmg : mg ("law" : PySem.Str) = some (.ref fa) := by
      have e : (HandSHeadRun.topDef (OpenLaw.row PySem.Challenge.rw_shadeguards_k20_whole_no_shade_is_lost).prog 100).name = ("law" : PySem.Str) := by kernel_rfl
      rw [← e]
      exact hmg0
    obtain ⟨fd, hb, hF⟩ := Hd.law_facts (P := (PySem.Challenge.rw_shadeguards_k20_whole_no_shade_is_lost).prog) (w := w) KX G c Hd.prog_file Hd.prog_super hmg
    exact ⟨K, fd, Mp.spM K Sg.wLaw, KX, hb, fun H a ns _ _ hS => Hd.law_sp hS, fun base _ _ => hF base⟩
end T_Z4
