import PyProof.Rows.All
import PySem.Challenge.RW_runsledon_k00_errors_apart
import Wide.All
import OpenK.AllK
import Wide.FinOn
import PyProof.EqAt
import PyProof.EqKinds
import PyProof.TupleCall
import PyProof.ReprRoads
import HandS.ForMost
import HandS.Exc
import HandS.ExcInit
import HandS.ExcOwn
import HandS.ExcValue
import HandS.TryOnly
import HandS.WordsExc
import HandS.Defaults
import HandS.More
import HandS.Flow
import HandS.Small
import HandS.TupMul
import HandS.Evl
import HandS.Head0
import HandS.Head1
import HandS.Head2
import HandS.HeadEnd
import HandS.HeadHook1
import HandS.HeadHook2
import KE.KExcSuper
import KE.KExcIs
import HandS.ExcBuiltin
import PyProof.ReprLen
import HandS.Style
import HandS.Iter
set_option Elab.async false
set_option linter.all false
set_option maxRecDepth 100000
set_option maxHeartbeats 40000000
namespace Rx
open PySem PySem.W PySem.Calls PyProof.Rows PySem.HandSPX
/-- the scope of such an __init__: self, its fields -/
def supSc (ps : List Str) : Scope := { kind := .function, names := (PySem.Str.ofString "self", .local) :: (ps.map (fun p => (p, .local)) ++ [(PySem.Str.ofString "__class__", .free), (PySem.Str.ofString "super", .globalImplicit)]), isGenerator := false, isCoroutine := false, more := [] }
end Rx
namespace Rx
open PySem PySem.Spec PyProof.Rows L2
open PySem.HandSPX (veTail refsVE)
/-- the rest of the mro of the class at C: R is the first class of the package -/
def bmOf (R C : Addr) : List Value := if C = R then veTail else .ref R :: veTail
def valB (a b : Value) : Bool := decide (a = b)
def errB (K : PySem.W.Frag) (R C : Addr) : Bool :=
  (match K.lookup C with
  | some ⟨.type t, _, .cls cd, ⟨[_, _, _, _, some (.builtin n), _]⟩⟩ => t == "type" && cd.hasDict && !cd.hasDel && n == "ValueError.__new__" && decide (cd.mro = .ref C :: bmOf R C)
  | _ => false) && (He.eqO (PySem.W.findIn K (.ref C) "__setattr__") (some (some (.builtin "object.__setattr__"))) && (He.eqO (PySem.W.findIn K (.ref C) "__getattribute__") (some (some (.builtin "BaseException.__getattribute__"))) &&
    (He.eqO (PySem.W.findIn K (.ref C) "__getattr__") (some none) && (He.eqO (PySem.W.findIn K (.ref C) "__class__") (some (some (.builtin "object.__class__"))) && PySem.W.keepIn K (.ref C)))))
end Rx
namespace Rh
open PySem PySem.Spec PyProof.Rows L2
/-- what an object leads to (a class to its names, a dict to its values, a def to its code, defaults, cells) -/
def kids (g : Addr → Option Obj) (a : Addr) : List Addr := match g a with
  | some o => (match o.data with
    | .cls cd => [cd.ns]
    | .dict es _ => es.toList.flatMap fun e => He.refV e.val
    | .func fd => He.refV fd.code ++ (He.refV fd.defaults ++ fd.closure.map (·.2))
    | _ => [])
  | none => []
def lev (g : Addr → Option Obj) : Nat → List Addr → List Addr
  | 0, l => l
  | n + 1, l => l ++ lev g n (l.flatMap (kids g))
abbrev FnS : Type := Option (Str × Arguments × FuncBody × Scope × Addr × Addr)
/-- the __init__ of the class x, as it is written -/
def fnS (K : PySem.W.Frag) (x : Str) : FnS := match K.lookup (He.ma K (He.ga K x) "__init__") with
  | some ⟨_, _, .func fd, _⟩ => some (fd.name, fd.params, fd.body, fd.scope, fd.globals, fd.builtins)
  | _ => none
/-- a class with its own __init__: its name, the def, the fields -/
structure SupD where
  name : Str
  st : Stmt
  ps : List Str
def SupD.val (d : SupD) : FnS := some ("__init__", defArgs d.st, .stmts (defBody d.st), Rx.supSc d.ps, mainGlobals, builtinsNs)
def noneB : Value → Bool | .none => true | _ => false
def cellB (K : PySem.W.Frag) (cl : List (Str × Addr)) (C : Addr) : Bool := match cl with
  | [(n, cc)] => decide (n = ("__class__" : Str)) && (match K.lookup cc with
    | some ⟨_, _, .cell (some (.ref D)), _⟩ => decide (D = C)
    | _ => false)
  | _ => false
def fileB (K : PySem.W.Frag) (cd : Value) (file : Str) : Bool := match cd with
  | .ref cda => (match K.lookup cda with
    | some ⟨_, _, .fields vs, _⟩ => (match (vs[2]? : Option Value) with
      | some (.str z _) => decide (z = file)
      | _ => false)
    | _ => false)
  | _ => false
def SupD.ok (file : Str) (K : PySem.W.Frag) (R : Addr) (d : SupD) : Bool :=
  Rx.errB K R (He.ga K d.name) && (d.ps.all fun p => He.eqO (PySem.W.findIn K (.ref (He.ga K d.name)) p) (some none)) &&
  He.eqO (PySem.W.ks_superIn K (He.ga K d.name) (He.ga K d.name) "__init__") (some (some (.builtin "ValueError.__init__"))) &&
  He.eqO (PySem.W.findIn K (.ref (He.ga K d.name)) "__init__") (some (some (.ref (He.ma K (He.ga K d.name) "__init__")))) &&
  decide (PySem.W.typeIn K (.ref (He.ma K (He.ga K d.name) "__init__")) = some (.type "function")) &&
  (match K.lookup (He.ma K (He.ga K d.name) "__init__") with
  | some ⟨_, _, .func fd, _⟩ => noneB fd.defaults && noneB fd.kwdefaults && PySem.W.codeIn K fd.code fd.qualname && cellB K fd.closure (He.ga K d.name) && fileB K fd.code file
  | _ => false)
structure Facts where
  file : Str
  free : List Str := []
  numb : List (Str × Int) := []
  errs : List Str := []
  plain : List Str := []
  sups : List SupD := []
  defs : List He.DefD := []
  more : PySem.W.Frag → Bool := fun _ => true
  ads : (Addr → Option Obj) → List Addr := fun g => lev g 4 [mainGlobals]
def freeB (K : PySem.W.Frag) (x : Str) : Bool := He.eqO (PySem.W.nsIn K mainGlobals x) (some none)
def gloB (K : PySem.W.Frag) (x : Str) : Bool := He.eqO (PySem.W.nsIn K mainGlobals x) (some (some (.ref (He.ga K x))))
end Rh
namespace Rk
open PySem PySem.W PySem.Calls PyProof.Rows HandSHeadRun
def prsL : List DictEntry → Option (List (PySem.Str × Value))
  | [] => some []
  | e :: r => match e.key with
    | .str x _ => (match prsL r with
      | some l => some ((x, e.val) :: l)
      | none => none)
    | _ => none
def prsO : Option Obj → Option (List (PySem.Str × Value))
  | some o => (match o.data with
    | .dict es _ => prsL es.toList
    | _ => none)
  | none => none
def fnG (g : Addr → Option Obj) (ps : List (PySem.Str × Value)) (x : PySem.Str) : Option (Addr × Obj × FuncData) := match ps.lookup x with
  | some (.ref a) => (match g a with
    | some o => (match o.data with
      | .func fd => some (a, o, fd)
      | _ => none)
    | none => none)
  | _ => none
def codeG (g : Addr → Option Obj) (cd : Value) (q : PySem.Str) : Bool := match cd with
  | .ref c => (match g c with
    | some o => (match o.data with
      | .fields vs => (match (vs[1]? : Option Value) with | some (Value.str n _) => n == q | _ => false)
      | _ => false)
    | none => false)
  | _ => false
def shapeG (g : Addr → Option Obj) (ps : List (PySem.Str × Value)) (x : PySem.Str) : Option FnShape :=
  (fnG g ps x).map fun x => ⟨x.2.2.name, x.2.2.qualname, x.2.2.params, x.2.2.body, x.2.2.scope, x.2.2.globals, x.2.2.closure, x.2.2.defaults, x.2.2.kwdefaults, x.2.2.annotations, x.2.2.closureTuple, x.2.2.builtins, codeG g x.2.2.code x.2.2.qualname⟩
def tab0G (g : Addr → Option Obj) (c : Addr) : Option Addr := match g c with
  | some ⟨.type n, _, .fields vs, _⟩ =>
    if n == "code" then
      match (vs[11]? : Option Value), (vs[18]? : Option Value), (vs[7]? : Option Value), (vs[9]? : Option Value), (vs[10]? : Option Value) with
      | some (.ref P), some (.str _ _), some (.int _ _), some (.bool _), some (.int _ _) =>
        (match g P with
        | some ⟨.none, none, .fields ps, sl⟩ => if ps.size == 0 && sl.size == 0 && c != P then some P else none
        | _ => none)
      | _, _, _, _, _ => none
    else none
  | _ => none
def tabG (g : Addr → Option Obj) (ps : List (PySem.Str × Value)) (x : PySem.Str) : Bool := match fnG g ps x with
  | some (_, _, fd) => (match fd.code with | .ref c => (tab0G g c).isSome | _ => false)
  | none => false
def bmainG (g : Addr → Option Obj) (ps : List (PySem.Str × Value)) : Bool := match ps.lookup (PySem.Str.ofString "__builtins__") with
  | some (.ref bm) => bm != builtinsNs && (match g bm with
    | some ⟨.type n, some d, .plain, _⟩ => n == "module" && d == builtinsNs
    | _ => false)
  | _ => false
def adL (F : Rh.Facts) (g : Addr → Option Obj) : List Addr := cStatics :: F.ads g
def partL (F : Rh.Facts) (g : Addr → Option Obj) : PySem.W.Frag := (adL F g).map fun a => (a, (g a).getD default)
end Rk
namespace K00
open PySem PySem.Spec PyProof.Rows L2
def top (i : Nat) : Stmt := PySem.Challenge.pw_runsledon_k00_errors_apart.main.body.getD i (.Pass ⟨0, 0, 0, 0⟩)
def dd (n : Str) (i : Nat) : He.DefD := ⟨(n, none), n, n, defArgs (top i), defBody (top i), defScope (top i), [], []⟩
def nErr0 : List PySem.Str := ["RunError", "BadArguments", "BadAsks", "BadBase", "BadBook", "BadBundle", "BadCase", "BadCellRow", "BadChanged", "BadChoices", "BadClause", "BadCode", "BadCodes", "BadCount", "BadDeal", "BadDeed", "BadEdit", "BadHeight", "BadInputs", "BadJournal", "BadKept", "BadKinds", "BadLine", "BadLink", "BadList", "BadLog", "BadMerge", "BadModules", "BadMoment", "BadName"]
def nErr1 : List PySem.Str := ["BadNames", "BadNumber", "BadObjects", "BadOrder", "BadPairs", "BadPieces", "BadPlace", "BadPlaces", "BadProgram", "BadRegister", "BadRows", "BadSheet", "BadShelf", "BadSigns", "BadStamp", "BadStamped", "BadStamps", "BadStates", "BadStore", "BadSummary", "BadText", "BadThing", "BadTrace", "BadValue", "BadWay", "BadWord", "CannotDeal", "CannotDo", "CannotMerge", "Clash"]
def nErr2 : List PySem.Str := ["Empty", "FirstStays", "IllTyped", "Large", "LineFull", "NoLine", "NoStamp", "NoSuch", "NotAsked", "NotBegin", "NotEven", "NotFree", "NotRenaming", "NotSayable", "NotThere", "NothingDone", "NothingUndone", "Refused", "TooGreat", "Twice", "Unfit", "Unjoined", "Unlike", "UnlikeData", "UnlikeReply", "UnlikeRow", "Unshelved", "Wanting"]
def nErr : List PySem.Str := nErr0 ++ nErr1 ++ nErr2
def nPlain0 : List PySem.Str := ["RunError", "BadArguments", "BadBase", "BadBook", "BadBundle", "BadCase", "BadCellRow", "BadChanged", "BadClause", "BadCode", "BadCodes", "BadCount", "BadDeal", "BadDeed", "BadEdit", "BadHeight", "BadInputs", "BadJournal", "BadKept", "BadKinds", "BadList", "BadMerge", "BadMoment", "BadName", "BadNames", "BadNumber", "BadObjects", "BadOrder", "BadPairs", "BadPieces"]
def nPlain1 : List PySem.Str := ["BadPlace", "BadPlaces", "BadProgram", "BadRegister", "BadSheet", "BadShelf", "BadStamp", "BadStamped", "BadStamps", "BadStates", "BadStore", "BadSummary", "BadThing", "BadTrace", "BadValue", "BadWay", "BadWord", "Empty", "FirstStays", "Large", "LineFull", "NoLine", "NotEven", "NotFree", "NothingDone", "NothingUndone", "TooGreat", "UnlikeData"]
def nPlain : List PySem.Str := nPlain0 ++ nPlain1
def lSup : List Rh.SupD := [⟨"BadAsks", inClass (top 3) 0, ["number"]⟩, ⟨"BadChoices", inClass (top 10) 0, ["number"]⟩, ⟨"BadLine", inClass (top 23) 0, ["number"]⟩, ⟨"BadLink", inClass (top 24) 0, ["fault"]⟩, ⟨"BadLog", inClass (top 26) 0, ["number"]⟩, ⟨"BadModules", inClass (top 28) 0, ["fault"]⟩, ⟨"BadRows", inClass (top 41) 0, ["number"]⟩, ⟨"BadSigns", inClass (top 44) 0, ["at"]⟩, ⟨"BadText", inClass (top 51) 0, ["at"]⟩, ⟨"CannotDeal", inClass (top 57) 0, ["word", "name"]⟩, ⟨"CannotDo", inClass (top 58) 0, ["word"]⟩, ⟨"CannotMerge", inClass (top 59) 0, ["word", "name"]⟩, ⟨"Clash", inClass (top 60) 0, ["name"]⟩, ⟨"IllTyped", inClass (top 63) 0, ["clash"]⟩, ⟨"NoStamp", inClass (top 67) 0, ["at"]⟩, ⟨"NoSuch", inClass (top 68) 0, ["name"]⟩, ⟨"NotAsked", inClass (top 69) 0, ["name"]⟩, ⟨"NotBegin", inClass (top 70) 0, ["first"]⟩, ⟨"NotRenaming", inClass (top 73) 0, ["fault"]⟩, ⟨"NotSayable", inClass (top 74) 0, ["name"]⟩, ⟨"NotThere", inClass (top 75) 0, ["at"]⟩, ⟨"Refused", inClass (top 78) 0, ["number", "at"]⟩, ⟨"Twice", inClass (top 80) 0, ["at"]⟩, ⟨"Unfit", inClass (top 81) 0, ["name"]⟩, ⟨"Unjoined", inClass (top 82) 0, ["name"]⟩, ⟨"Unlike", inClass (top 83) 0, ["place"]⟩, ⟨"UnlikeReply", inClass (top 85) 0, ["number"]⟩, ⟨"UnlikeRow", inClass (top 86) 0, ["number"]⟩, ⟨"Unshelved", inClass (top 87) 0, ["number"]⟩, ⟨"Wanting", inClass (top 88) 0, ["name"]⟩]
def lDef : List He.DefD := [dd "_law_begun" 90, dd "_law_blended" 91, dd "_law_draw" 92, dd "_law_pick" 93, dd "_law_k00_flags" 94, dd "law" 95]
def adC0 : List Addr := [24, 37, 58, 70, 82, 94, 106, 118, 130, 151, 163, 175, 187, 199, 211, 223, 235, 247, 259, 271, 283, 295, 316, 337, 349, 370, 382, 403, 415, 427, 439, 451, 463, 475, 487, 499, 511, 523, 535, 547, 568, 580, 592, 613]
def adC1 : List Addr := [625, 637, 649, 661, 673, 685, 706, 718, 730, 742, 754, 766, 787, 808, 829, 850, 862, 874, 895, 907, 919, 931, 952, 973, 994, 1015, 1027, 1039, 1060, 1081, 1102, 1114, 1126, 1147, 1159, 1180, 1201, 1222, 1243, 1255, 1276, 1297, 1318, 1339]
def adN0 : List Addr := [23, 36, 57, 69, 81, 93, 105, 117, 129, 150, 162, 174, 186, 198, 210, 222, 234, 246, 258, 270, 282, 294, 315, 336, 348, 369, 381, 402, 414, 426, 438, 450, 462, 474, 486, 498, 510, 522, 534, 546, 567, 579, 591, 612]
def adN1 : List Addr := [624, 636, 648, 660, 672, 684, 705, 717, 729, 741, 753, 765, 786, 807, 828, 849, 861, 873, 894, 906, 918, 930, 951, 972, 993, 1014, 1026, 1038, 1059, 1080, 1101, 1113, 1125, 1146, 1158, 1179, 1200, 1221, 1242, 1254, 1275, 1296, 1317, 1338]
def adR0 : List Addr := [55, 54, 43, 148, 147, 136, 313, 312, 301, 334, 333, 322, 367, 366, 355, 400, 399, 388, 565, 564, 553, 610, 609, 598, 703, 702, 691, 784, 783, 772, 805, 804, 793, 826, 825, 814, 847, 846, 835, 892]
def adR1 : List Addr := [891, 880, 949, 948, 937, 970, 969, 958, 991, 990, 979, 1012, 1011, 1000, 1057, 1056, 1045, 1078, 1077, 1066, 1099, 1098, 1087, 1144, 1143, 1132, 1177, 1176, 1165, 1198, 1197, 1186, 1219, 1218, 1207, 1240, 1239, 1228, 1273, 1272, 1261, 1294, 1293, 1282, 1315, 1314, 1303, 1336, 1335, 1324]
def ads (_ : Addr → Option Obj) : List Addr := mainGlobals :: (adC0 ++ (adC1 ++ ([1346, 1345, 1353, 1352, 1360, 1359, 1367, 1366, 1374, 1373, 1379, 1378] ++ (adN0 ++ (adN1 ++ (adR0 ++ adR1))))))
def fF : Rh.Facts := { file := "/claim/cut.py", free := ["ValueError", "abs", "enumerate", "int", "isinstance", "len", "min", "range", "repr", "super"], numb := [], errs := nErr, plain := nPlain, sups := lSup, defs := lDef, ads := ads }
def loose0 : List PySem.Str := ["RunError", "BadArguments", "BadAsks", "BadBase", "BadBook", "BadBundle", "BadCase", "BadCellRow", "BadChanged", "BadChoices", "BadClause", "BadCode", "BadCodes", "BadCount", "BadDeal", "BadDeed", "BadEdit", "BadHeight", "BadInputs", "BadJournal", "BadKept", "BadKinds", "BadLine", "BadLink", "BadList", "BadLog", "BadMerge", "BadModules", "BadMoment", "BadName"]
def loose1 : List PySem.Str := ["BadNames", "BadNumber", "BadObjects", "BadOrder", "BadPairs", "BadPieces", "BadPlace", "BadPlaces", "BadProgram", "BadRegister", "BadRows", "BadSheet", "BadShelf", "BadSigns", "BadStamp", "BadStamped", "BadStamps", "BadStates", "BadStore", "BadSummary", "BadText", "BadThing", "BadTrace", "BadValue", "BadWay", "BadWord", "CannotDeal", "CannotDo", "CannotMerge", "Clash"]
def loose2 : List PySem.Str := ["Empty", "FirstStays", "IllTyped", "Large", "LineFull", "NoLine", "NoStamp", "NoSuch", "NotAsked", "NotBegin", "NotEven", "NotFree", "NotRenaming", "NotSayable", "NotThere", "NothingDone", "NothingUndone", "Refused", "TooGreat", "Twice", "Unfit", "Unjoined", "Unlike", "UnlikeData", "UnlikeReply", "UnlikeRow", "Unshelved", "Wanting", "_law_begun", "_law_blended"]
def loose3 : List PySem.Str := ["_law_draw", "_law_pick", "_law_k00_flags"]
def loose : List PySem.Str := loose0 ++ loose1 ++ loose2 ++ loose3
abbrev rR : PySem.W.OpenRow := PySem.W.OpenLaw.row PySem.Challenge.rw_runsledon_k00_errors_apart
end K00
noncomputable section
namespace K00
open PySem PySem.W PySem.Calls PyProof.Rows HandSHeadRun
abbrev qV : Program := PySem.W.view rR.prog [95]
def ps0 (w : World) : List (PySem.Str × Value) := (Rk.prsO ((boot_heap w.params).get? mainGlobals)).getD []
def keysV (w : World) : List PySem.Str := (ps0 w).map (·.1) ++ (nErr ++ (["_law_begun", "_law_blended", "_law_draw", "_law_pick", "_law_k00_flags", "law"] : List PySem.Str))
abbrev En (w : World) (os : OsState) : Option SharedT := endF (stepQ (denQ tabQ) rR.prog w) 20500 rR.prog w os
def ob2 (s : SharedT) := (Rk.prsO (getT s builtinsNs)).map (fun ps => (ps.head?.map (·.1), ps.tail))
def ob1 (s : SharedT) := ((Rk.prsO (getT s mainGlobals)).map (fun ps => (ps.map (·.1), laidNames.map (fun x => ps.lookup x), Rk.shapeG (getT s) ps "law", Rk.tabG (getT s) ps "law", Rk.bmainG (getT s) ps)),
  Rk.prsO (getT s cStatics), (Rk.prsO (getT s sysModules)).map (fun ps => (ps.lookup (PySem.Str.ofString "_pylong")).isNone), s.abs.gens, ob2 s, (Rk.adL fF (getT s)).all (fun a => (getT s a).isSome),
  (let K := Rk.partL fF (getT s); (lDef.all (fun d => Rh.gloB K d.name && d.ok K), lDef.map (fun d => He.fnW K d.at_))))
def dLaw : DefRec := topDef rR.prog 95
theorem r1 (w : World) (os : OsState) : (En w os).map ob1 = some (some (keysV w, laidNames.map (fun x => (ps0 w).lookup x), some dLaw.shape, true, true), some [], some true, #[], some bltViewBooted, true, (true, lDef.map He.DefD.val)) := by
  kernel_rfl
theorem v2 (w : World) (os : OsState) : (En w os).map (fun s => (let K := Rk.partL fF (getT s); fF.free.all (Rh.freeB K) && (He.eqO (PySem.W.nsIn K cStatics "thirdparty.any") (some none) && ((nErr.take 44).take 22).all fun x => Rh.gloB K x && Rx.errB K (He.ga K "RunError") (He.ga K x)))) = some (true) := by
  kernel_rfl
theorem v2b (w : World) (os : OsState) : (En w os).map (fun s => (let K := Rk.partL fF (getT s); ((nErr.take 44).drop 22).all fun x => Rh.gloB K x && Rx.errB K (He.ga K "RunError") (He.ga K x))) = some (true) := by
  kernel_rfl
theorem v3 (w : World) (os : OsState) : (En w os).map (fun s => (let K := Rk.partL fF (getT s); ((nErr.drop 44).take 22).all fun x => Rh.gloB K x && Rx.errB K (He.ga K "RunError") (He.ga K x))) = some (true) := by
  kernel_rfl
theorem v3b (w : World) (os : OsState) : (En w os).map (fun s => (let K := Rk.partL fF (getT s); ((nErr.drop 44).drop 22).all fun x => Rh.gloB K x && Rx.errB K (He.ga K "RunError") (He.ga K x))) = some (true) := by
  kernel_rfl
theorem v4 (w : World) (os : OsState) : (En w os).map (fun s => (let K := Rk.partL fF (getT s); ((nPlain.take 30).all fun x => PySem.W.excIn K (He.ga K x) PySem.HandSPX.veTail "ValueError.__new__") && (nPlain.drop 30).all fun x => PySem.W.excIn K (He.ga K x) PySem.HandSPX.veTail "ValueError.__new__")) = some (true) := by
  kernel_rfl
theorem v5 (w : World) (os : OsState) : (En w os).map (fun s => (let K := Rk.partL fF (getT s); nErr.map (He.ga K))) = some (adC0 ++ adC1) := by
  kernel_rfl
theorem v6 (w : World) (os : OsState) : (En w os).map (fun s => (let K := Rk.partL fF (getT s); (lSup.take 9).all fun d => d.ok "/claim/cut.py" K (He.ga K "RunError"))) = some (true) := by
  kernel_rfl
theorem v7 (w : World) (os : OsState) : (En w os).map (fun s => (let K := Rk.partL fF (getT s); ((lSup.drop 9).take 9).all fun d => d.ok "/claim/cut.py" K (He.ga K "RunError"))) = some (true) := by
  kernel_rfl
theorem v7b (w : World) (os : OsState) : (En w os).map (fun s => (let K := Rk.partL fF (getT s); ((lSup.drop 9).drop 9).all fun d => d.ok "/claim/cut.py" K (He.ga K "RunError"))) = some (true) := by
  kernel_rfl
theorem v9 (w : World) (os : OsState) : (En w os).map (fun s => (let K := Rk.partL fF (getT s); (lSup.take 14).map fun d => Rh.fnS K d.name)) = some ((lSup.take 14).map Rh.SupD.val) := by
  kernel_rfl
theorem v9b (w : World) (os : OsState) : (En w os).map (fun s => (let K := Rk.partL fF (getT s); (lSup.drop 14).map fun d => Rh.fnS K d.name)) = some ((lSup.drop 14).map Rh.SupD.val) := by
  kernel_rfl
end K00
end
namespace Rg
open PySem PySem.Spec PyProof.Rows L2
/-- what a def promises where no text of an object is being made -/
structure FnG (P : Program) (w : World) (K : PySem.W.Frag) (mg : Str → Option Value) (base : Heap) (CX : CXT) (k : Nat) (f : Addr) (fd : FuncData) (ps : List Str) (sp : Sp) : Prop where
  len : ∀ vs H Q E, sp vs H Q E → vs.length = ps.length
  run : ∀ (A : Around) (outer : List Env) (s : Shared) (H : Hp) (args : Args) (us : List Value) (vs : List V) (Q : VK) (E : XK), A.guards = some [] → Room k A →
    Env0 P w K mg base A outer s H → BindsTo s fd args (ps.zip us) → Vals vs us → sp vs H Q E → codeAny (model P w) A (.call (.ref f) args) (CR CX outer P w H s Q E) s
section
variable {P : Program} {w : World} {K : PySem.W.Frag} {mg : Str → Option Value} {base : Heap} {CX : CXT} {k : Nat} {f : Addr} {fd : FuncData} {ps : List Str} {sp : Sp}
theorem FnG.of (F : FnOk P w K mg base CX k f fd ps sp) : FnG P w K mg base CX k f fd ps sp := ⟨F.len, fun A o s H a us vs Q E _ hr e b v z => F.run A o s H a us vs Q E hr e b v z⟩
end

section
variable {CX : CXT} {P : Program} {w : World} {K : PySem.W.Frag} {mg : Str → Option Value} {base : Heap} {k : Nat} {f : Addr} {name qual : Str} {params : Arguments} {body : List Stmt} {scope : Scope} {dV kV doc pm cdv ct oc : Value} {an od : Option Addr}
    {osl : Array (Option Value)} {N ps : List Str} {sp : Sp}
/-- a def by its body, guards known -/
theorem fnG_of (lk : K.lookup f = some ⟨oc, od, .func (PySem.W.fnOf name qual params body scope dV kV doc pm an cdv ct), osl⟩) (hcd : PySem.W.codeIn K cdv qual = true) (S : FnScope N ps scope)
    (len : ∀ vs H Q E, sp vs H Q E → vs.length = ps.length)
    (hbody : ∀ (A : Around) (outer : List Env) (s : Shared) (H : Hp) (vs : List V) (Q : VK) (E : XK), A.guards = some [] → Room k (A.deeper (envOfC qual scope s.heap.objs.size f cdv)) → sp vs H Q E →
      ∃ t, PSs (cxOf CX P w K mg base N qual scope f cdv A outer s H E) body t ∧ t { nx := fun _ H' => Q .non H', rt := Q } (start N vs) H) :
    FnG P w K mg base CX (k + 1) f (PySem.W.fnOf name qual params body scope dV kV doc pm an cdv ct) ps sp := by
  refine ⟨len, fun A outer s H args us vs Q E hgd hr e0 hb r hsp => ?_⟩
  obtain ⟨t, ht, hq⟩ := hbody A outer s H vs Q E hgd (hr.deeper _) hsp
  have hl := len _ _ _ _ hsp
  have up : ∀ b o, base.get? b = some o → s.heap.get? b = some o := fun b o e => (e0.bs b o e).1
  have KX : K.In s.heap := e0.mod.kin.keeps up
  have bound : ∀ y ∈ ps.zip us, scope.names.lookup y.1 = some .local ∨ (scope.names.lookup y.1 = some .cell ∧ ((cellsFrom (s.heap.objs.size + 1) scope.names []).lookup y.1).isSome = true) := by
    intro y hy
    have := S.par y.1 (List.of_mem_zip (b := y.2) hy).1
    exact this.imp id fun q => ⟨q, PySem.W.cellsFrom_some _ _ _ (.inl q)⟩
  refine codeAny_call_function hr.depth (KX _ _ lk) rfl S.co S.gen rfl (PySem.W.codeRec_of KX hcd) (hb _ _ _ _ (wpAny_newFunctionEnv_cells S.kind bound ?_))
  rintro env rfl s1 x
  refine ⟨(e0.mod.nolimit.keeps up).keeps x.toInCall.keep, codeAny_func ?_⟩
  refine wpAny_mono (ht.run [] s1 (start N vs) H _ (inv_start S hr.hd e0 hl r x) hq) ?_ fun _ _ z => z
  intro fl s' hs
  match fl, hs with
  | .ret u, ⟨v, σ', H', J, rv, q⟩ => exact ⟨v, H', J.os, J.bare, J.base, J.hok, rv, q⟩
  | .next, ⟨σ', H', J, q⟩ => exact ⟨.non, H', J.os, J.bare, J.base, J.hok, rfl, q⟩
  | .brk, ⟨_, _, _, q⟩ => exact q.elim
  | .cont, ⟨_, _, _, q⟩ => exact q.elim
end
/-- FunD's rule, guards known -/
theorem okG {P : Program} {w : World} {K : PySem.W.Frag} {mg : Str → Option Value} {base : Heap} {x qual : Str} {params : Arguments} {body : List Stmt} {scope : Scope} {dvs : List V} {kws : List (Str × V)} {f : Addr} {fd : FuncData} {CX : CXT} {N ps : List Str} {k : Nat} {sp : Sp}
    (F : FunD K x qual params body scope dvs kws f fd) (S : FnScope N ps scope) (len : ∀ vs H Q E, sp vs H Q E → vs.length = ps.length)
    (hbody : ∀ (cdv : Value) (A : Around) (outer : List Env) (s : Shared) (H : Hp) (vs : List V) (Q : VK) (E : XK), A.guards = some [] → Room k (A.deeper (envOfC qual scope s.heap.objs.size f cdv)) → sp vs H Q E →
      ∃ t, PSs (cxOf CX P w K mg base N qual scope f cdv A outer s H E) body t ∧ t { nx := fun _ H' => Q .non H', rt := Q } (start N vs) H) : FnG P w K mg base CX (k + 1) f fd ps sp := by
  obtain ⟨oc, od, dV, kV, doc, pm, an, cdv, ct, osl, rfl, lk, hcd, _⟩ := F.ex
  exact fnG_of lk hcd S len fun A outer s H vs Q E hg hr h => hbody cdv A outer s H vs Q E hg hr h
section
variable {X : Cx} {CX : CXT} {k : Nat} {f : Addr} {fd : FuncData} {ps : List Str} {sp : Sp} {dvs : List V} {ds : List Value} {E : XK} {x : Str} {p pos : Pos} {e : Expr} {es : List Expr} {t : TA}
/-- the callee runs -/
theorem run_fnG {pins : List (Addr × Obj)} {σ : L2.St} {H : Hp} {s : Shared} {Q : VK} {us : List Value} {vs : List V} (F : FnG X.prog X.w X.K X.mg X.base CX k f fd ps sp) (hgd : X.A.guards = some []) (hr : Room k X.A) (hb : Binds X.K fd ps ds) (hd : Vals dvs ds)
    (hx : Passes CX X E) (I : Inv X pins σ H s) (r : Vals vs us) (h : sp (vs ++ dvs) H Q E) : wpAny (model X.prog X.w) X.A (call (.ref f) us) (EP X pins σ Q) X.xe s := by
  have r2 := r.append hd
  have hl : (us ++ ds).length = ps.length := r2.length.symm.trans (F.len _ _ _ _ h)
  refine wpAny_call (codeAny_mono (F.run X.A X.stack s H ⟨us, []⟩ (us ++ ds) (vs ++ dvs) Q E hgd hr I.env0 (hb s us I.kIn hl) r2 h) ?_)
  intro r' s' hq
  match r', hq with
  | .error e, hq => exact hx pins σ H s e s' I hq
  | .ok (.ret u), hq => exact I.after hq
  | .ok .next, hq => exact hq.elim
  | .ok .brk, hq => exact hq.elim
  | .ok .cont, hq => exact hq.elim
theorem pe_callG (F : FnG X.prog X.w X.K X.mg X.base CX k f fd ps sp) (hgd : X.A.guards = some []) (hr : Room k X.A) (hg : Gl X x) (hm : X.mg x = some (.ref f)) (hk : PySem.W.keepIn X.K (.ref f) = true) (hb : Binds X.K fd ps ds) (hd : Vals dvs ds) (hx : Passes CX X E)
    (ha : PA X (e :: es) t) (hdb : (x == ("__debug__" : Str)) = false := by decide) (he : starEach (e :: es) X.env = (false, eval e X.env) :: starEach es X.env := by rfl) (hpl : (backTo pos (starEach es X.env)).any (·.1) = false := by rfl) :
    PE X (.Call (.Name x p) (e :: es) [] pos) (tCall sp dvs E t) :=
  ⟨fun pins s σ H _ I h => wpAny_Call_Name_kw (ld_glob I hg hm (PySem.W.callWith_K (h₀ := X.base) I.ok.mod.kin hk (thn (ha.run pos pins s σ H _ I h) fun _ _ ⟨_, _, I1, r, q⟩ => ⟨I1.kIn, run_fnG F hgd hr hb hd hx I1 r q⟩) he hpl) hdb)⟩
end
end Rg
namespace Rx
open PySem PySem.W PySem.Calls PyProof.Rows PySem.HandSPX
/-- super().__init__(txt) -/
def supSt (txt : Str) (j : Nat) (q0 q1 q2 q3 q4 q5 : Pos) : Stmt := .Expr (.Call (.Attribute (.Call (.Name "super" q0) [] [] q1) "__init__" q2) [.Constant (.str txt) j q3] [] q4) q5
/-- self.f = f -/
def fldSt (f : Str) (r0 r1 r2 r3 : Pos) : Stmt := .Assign [.Attribute (.Name "self" r0) f r1] (.Name f r2) r3
/-- what super() asks of the world around -/
structure SupG (prog : Program) (h : Heap) (mg mb : Str → Option Value) : Prop where
  g : h.Ns mainGlobals mg
  b : h.Ns builtinsNs mb
  sg : mg "super" = none
  sb : mb "super" = some (.type "super")
  top : (prog.main.scope.names.lookup ("super" : Str)).isSome = false
theorem SupG.keeps {prog : Program} {h h' : Heap} {mg mb : Str → Option Value} (G : SupG prog h mg mb) (k : ∀ b o, h.get? b = some o → h'.get? b = some o) : SupG prog h' mg mb := ⟨G.g.keeps k, G.b.keeps k, G.sg, G.sb, G.top⟩
/-- what the written part tells of the class at C and its __init__ at fI -/
structure SupC (prog : Program) (K : Frag) (C fI cda cc : Addr) (fd : FuncData) (ps : List Str) : Prop where
  cls : ∃ nm q N bs bm sn sub ab col dd k0 k1 k2 k3 k5, K.lookup C = some (excClassObj nm q C N bs bm true sn sub ab col dd k0 k1 k2 k3 k5 "ValueError.__new__") ∧ refsVE bm = true
  sup : ks_superIn K C C "__init__" = some (some (.builtin "ValueError.__init__"))
  opq : nsIn K cStatics "thirdparty.any" = some none
  fn : ∃ oc od osl, K.lookup fI = some ⟨oc, od, .func fd, osl⟩
  fdp : ∃ ar, (fd.params.posonlyargs ++ fd.params.args).head? = some ar ∧ ar.arg = "self"
  code : ∃ ccl cdd ccs vs file tf, K.lookup cda = some ⟨ccl, cdd, .fields vs, ccs⟩ ∧ vs[2]? = some (.str file tf) ∧ ((prog.main.file : Str) == file) = true
  cell : ∃ cl cld csl, K.lookup cc = some ⟨cl, cld, .cell (some (.ref C)), csl⟩
  ks : (supSc ps).names.lookup ("super" : Str) = some .globalImplicit
  kc : (supSc ps).names.lookup ("__class__" : Str) = some .free
  kS : (supSc ps).names.lookup ("self" : Str) = some .local
section
variable {prog : Program} {w : World} {A : Around} {E : Value → Shared → Prop} {K : Frag} {mg mb : Str → Option Value} {C fI cda cc x L : Addr} {fd : FuncData} {ps : List Str} {qual : Str} {m : Str → Option Value}
theorem sup_first {s : Shared} {body : List Stmt} {txt : Str} {j : Nat} {q0 q1 q2 q3 q4 q5 : Pos} {t0 : Addr} {Q : Flow → Shared → Prop} (T : SupC prog K C fI cda cc fd ps) (X : K.In s.heap) (G : SupG prog s.heap mg mb) (hns : s.heap.Ns L m) (hself : m "self" = some (.ref x))
    (hx : s.heap.get? x = some (excO C t0)) (hl : (q2.endLine == q4.line) = true)
    (hq : ∀ h' tk t1, (∀ b o, b ≠ x → s.heap.get? b = some o → h'.get? b = some o) → h'.get? x = some (excO C t1) → Q .next { s with heap := h', toks := tk }) :
    _root_.PySem.wpAt (model prog w) A (.func body (ksEnv qual (supSc ps) L fI (.ref cda) cc)) (exec (supSt txt j q0 q1 q2 q3 q4 q5) (ksEnv qual (supSc ps) L fI (.ref cda) cc)) Q E s := by
  obtain ⟨oc, od, osl, hf⟩ := T.fn
  obtain ⟨ar, hp, hn⟩ := T.fdp
  obtain ⟨ccl, cdd, ccs, vs, file, tf, hcode, hvs, hfile⟩ := T.code
  obtain ⟨cl, cld, csl, hcell⟩ := T.cell
  obtain ⟨nm, q, N, bs, bm, sn, sub, ab, col, dd, k0, k1, k2, k3, k5, hC, hbm⟩ := T.cls
  have hcd : clsIn K C = some { name := nm, bases := bs, mro := .ref C :: bm, ns := N, qualname := q, hasDict := true, slotNames := sn, subclasses := sub, abstract := ab, collection := col, hasDel := false } := by unfold clsIn; rw [hC] <;> rfl
  obtain ⟨hh, g, d, t, os⟩ := s
  have hCo := X _ _ hC
  refine ks_wpAt_Expr_any (env := ksEnv qual (supSc ps) L fI (.ref cda) cc) (e := .Call (.Attribute (.Call (.Name "super" q0) [] [] q1) "__init__" q2) [.Constant (.str txt) j q3] [] q4) (pos := q5) ?_ (by rfl) rfl
  have he : eval (.Call (.Attribute (.Call (.Name "super" q0) [] [] q1) "__init__" q2) [.Constant (.str txt) j q3] [] q4) (ksEnv qual (supSc ps) L fI (.ref cda) cc) = (do
      let ov ← attributeBase (.Call (.Name "super" q0) [] [] q1) "__init__" (ksEnv qual (supSc ps) L fI (.ref cda) cc) (eval (.Call (.Name "super" q0) [] [] q1) (ksEnv qual (supSc ps) L fI (.ref cda) cc))
      standAt q2.atName
      let (f, first) ← holding [ov] (getMethod ov "__init__" (do return (← importBound (.Call (.Name "super" q0) [] [] q1) (ksEnv qual (supSc ps) L fI (.ref cda) cc)).getD true))
      callWith q4 f first (backTo q4 (starEach [.Constant (.str txt) j q3] (ksEnv qual (supSc ps) L fI (.ref cda) cc))) []) := by
    show (do
      let ov ← attributeBase (.Call (.Name "super" q0) [] [] q1) "__init__" (ksEnv qual (supSc ps) L fI (.ref cda) cc) (eval (.Call (.Name "super" q0) [] [] q1) (ksEnv qual (supSc ps) L fI (.ref cda) cc))
      standAt q2.atName
      methodCall (.Call (.Name "super" q0) [] [] q1) "__init__" q2 q4 (ksEnv qual (supSc ps) L fI (.ref cda) cc) ov 1 (backTo q4 (starEach [.Constant (.str txt) j q3] (ksEnv qual (supSc ps) L fI (.ref cda) cc))) []) = _
    have hp : methodCallPos true (.Call (.Name "super" q0) [] [] q1) (ksEnv qual (supSc ps) L fI (.ref cda) cc) q2 q4 = pure q4 := by
      unfold methodCallPos
      rw [if_pos (by rw [hl]; rfl)]
    have hm : ∀ ov, methodCall (.Call (.Name "super" q0) [] [] q1) "__init__" q2 q4 (ksEnv qual (supSc ps) L fI (.ref cda) cc) ov 1 (backTo q4 (starEach [.Constant (.str txt) j q3] (ksEnv qual (supSc ps) L fI (.ref cda) cc))) [] = (do
        let (f, first) ← holding [ov] (calleeOf true (.Call (.Name "super" q0) [] [] q1) (ksEnv qual (supSc ps) L fI (.ref cda) cc) ov "__init__")
        let callPos ← methodCallPos true (.Call (.Name "super" q0) [] [] q1) (ksEnv qual (supSc ps) L fI (.ref cda) cc) q2 q4
        callWith callPos f first (backTo q4 (starEach [.Constant (.str txt) j q3] (ksEnv qual (supSc ps) L fI (.ref cda) cc))) []) := fun _ => rfl
    simp only [hm, hp, pure_bind]
    rfl
  refine ks_wpAt_MethodCall ?_ he
  refine ks_wpAt_super_base (env := ksEnv qual (supSc ps) L fI (.ref cda) cc) T.ks T.kc rfl rfl (X _ _ hf) rfl hp rfl (X _ _ hcode) rfl hvs hfile G.top ?_
  refine ks_loadName_global rfl T.ks (loadGlobal_builtin (env := ksEnv qual (supSc ps) L fI (.ref cda) cc) G.g G.sg G.b G.sb ⟨rfl, ?_⟩)
  refine wpAny_loadName_free rfl T.kc rfl ⟨_, X _ _ hcell, rfl⟩ ?_
  rw [hn]
  refine wpAny_loadName_local rfl T.kS hns hself ?_
  refine ks_wpAny_isType_cls hCo rfl ⟨rfl, ?_⟩
  have subCC : Looks (model prog w) hh (isSubtype (.ref C) (.ref C)) true := looks_subIn X (show mroIn K C (.ref C) = some true by unfold mroIn; rw [hcd, Option.bind_some]; simp)
  refine ks_wpAny_call_super hCo rfl hx rfl (fun c e => nomatch e) subCC fun h1 hso k1 => ?_
  -- .__init__ of it
  have X1 : K.In h1 := X.keeps k1
  have hx1 := k1 _ _ hx
  have hxC : x ≠ C := by
    rintro rfl
    rw [hCo] at hx
    exact nomatch (Option.some.inj hx)
  have I1 : InstAt h1 x (excO C t0) C none := ⟨hx1, rfl, rfl, trivial⟩
  have hB : Looks (model prog w) h1 (isInstance (.ref x) (.type "ValueError")) true := I1.type.andThen (looks_mroIn X1 (by
    unfold mroIn
    rw [hcd, Option.bind_some, if_neg (show ¬ (List.isEmpty (Value.ref C :: bm) = true) from Bool.false_ne_true)]
    show some ((Value.ref C :: bm).contains (.type "ValueError")) = some true
    rw [List.contains_cons, refsVE_contains "ValueError" bm hbm, show veTail.contains (.type "ValueError") = true by decide +kernel, Bool.or_true]))
  have hm : alongIn K "__init__" (((Value.ref C :: bm).dropWhile (· != .ref C)).drop 1) = some (some (.builtin "ValueError.__init__")) := by
    have q := T.sup
    unfold ks_superIn at q
    rw [hcd] at q
    exact q
  refine kxs_getMethod kxs_ValueError hso (looks_opaque X1 T.opq) (l₀ := .ref C :: bm) (fun A' Q' E' s' k' q' => wpAny_bind ((looks_clsIn X1 hcd) A' _ E' s' k' (wpAny_pure q'))) rfl X1 hm hB hxC rfl ?_
  -- the call
  refine kxs_callWith (i := "ValueError.__init__") (x := x) (by rfl) (evalArgs_plain ?_)
  show wpAny _ _ (spliced ((false, eval (.Constant (.str txt) j q3) (ksEnv qual (supSc ps) L fI (.ref cda) cc)) :: backTo q4 (starEach [] (ksEnv qual (supSc ps) L fI (.ref cda) cc)))) _ _ _
  refine Calls.spliced_cons (Calls.Constant_str ?_)
  refine Calls.spliced_nil ⟨Heap.get?_push_size _ rfl, ?_⟩
  have up : ∀ b o, hh.get? b = some o → (h1.push (kxs_mw "ValueError.__init__" x)).get? b = some o := fun b o e => Heap.get?_push_of_some _ (k1 _ _ e)
  have hu : (h1.push (kxs_mw "ValueError.__init__" x)).get? h1.objs.size = some (kxs_mw "ValueError.__init__" x) := Heap.get?_push_size _ rfl
  show wpAny _ _ (call (.ref h1.objs.size) [.str txt _]) _ _ _
  refine wpAny_call (codeAny_of_tree ?_)
  show wpAny _ A.in1 (callAny (.ref h1.objs.size) ⟨[.str txt _], []⟩) _ _ _
  simp only [callAny]
  refine wpAny_bind (wpAny_load hu ?_)
  simp only [kxs_mw, show (Value.type "method-wrapper" == Value.type "method" || Value.type "method-wrapper" == Value.type "builtin_function_or_method" || Value.type "method-wrapper" == Value.type "method-wrapper") = true by decide, if_true]
  refine KFB.if_so (by decide) ?_
  refine wpAny_bind (check_bound_init F.excBase_ValueError.toExcCallFacts (up _ _ hCo) (up _ _ hx) rfl ?_)
  refine wpAny_bind (wpAny_pure (wpAny_pure ?_))
  refine ⟨plainId_quiet F.excBase_ValueError.init.plain _, codeAny_builtin F.excBase_ValueError.initEntry ?_⟩
  refine exc_init_tree (cls := .ref C) (t0 := t0) (dv := none) (c2 := .none) (c3 := .none) (b4 := .bool false) (up _ _ hx) (by show 1 ≤ sizeLine; rw [sizeLine_eq]; omega) fun h' k' e' t' => ?_
  exact hq h' _ _ (fun b o hb e => k' b o hb (up b o e)) e'
end
end Rx
namespace Rx
open PySem PySem.W PySem.Calls PySem.HandSPX
section
variable {M : Model} {A : Around} {E : Value → Shared → Prop} {h : Heap} {g : Array GenState} {d : Drawn} {t : Nat} {os : OsState}
variable {nm q : Str} {C N : Addr} {bs bm bmB : List Value} {hdct : Bool} {sn : List Str} {sub : List Value} {ab : Bool} {col : Option Bool} {dd : Option Addr} {k0 k1 k2 k3 k5 : Option Value} {B newId initId : String}
theorem newK_check (F : ExcBaseFacts B newId initId bmB) (hT : ∀ X : String, bm.contains (.type X) = bmB.contains (.type X)) {us : List Value} {kw : List (Str × Value)} {Q : Unit → Shared → Prop}
    (hC : h.get? C = some (excClassObj nm q C N bs bm hdct sn sub ab col dd k0 k1 k2 k3 k5 newId)) (hq : Q () ⟨h, g, d, t, os⟩) : wpAny M A (checkBuiltinCall newId ⟨.ref C :: us, kw⟩) Q E ⟨h, g, d, t, os⟩ := by
  have has : (Value.ref C :: bm).contains (.type B) = true := by rw [List.contains_cons, hT, F.hasB, Bool.or_true]
  have star := F.noStar
  simp only [checkBuiltinCall, F.newKind, F.newSplit, F.newRow]
  repeat (first | refine wpAny_loadPart_at hC ?_ | (refine wpAny_isSubtype_exc hC ?_; rw [has]) | refine wpAny_staticBase_exc hC ?_ | refine wpAny_madeBy_exc hC ?_ | simp only [bne_self_eq_false, Bool.false_eq_true, if_false] | wp_step)
  exact hq
end
section
variable {prog : Program} {w : World} {A : Around} {E : Value → Shared → Prop} {R : Result → Shared → Prop} {h : Heap} {g : Array GenState} {d : Drawn} {t : Nat} {os : OsState}
variable {nm q : Str} {C N : Addr} {bs bm bmB : List Value} {hdct : Bool} {sn : List Str} {sub : List Value} {ab : Bool} {col : Option Bool} {dd : Option Addr} {k0 k1 k2 k3 k5 : Option Value} {B newId initId : String}
theorem newK_own (F : ExcBaseFacts B newId initId bmB) (hT : ∀ X : String, bm.contains (.type X) = bmB.contains (.type X)) {us : List Value} {kw : List (Str × Value)}
    (hC : h.get? C = some (excClassObj nm q C N bs bm hdct sn sub ab col dd k0 k1 k2 k3 k5 newId))
    (hq : R (.ok (.ret (.ref (h.objs.size + 1)))) ⟨(h.push (kdv_tup us)).push (excO C h.objs.size), g, d, t, os⟩) (hus : us.length ≤ sizeLine) :
    codeAny (model prog w) A (.builtin newId ⟨.ref C :: us, kw⟩) R ⟨h, g, d, t, os⟩ := by
  have ends := F.ends
  have cB : (Value.ref C :: bm).contains (.type B) = true := by rw [List.contains_cons, hT, F.hasB, Bool.or_true]
  have cA : (Value.ref C :: bm).contains (.type "AttributeError") = false := by rw [List.contains_cons, hT, F.noAttr]; rfl
  have cN : (Value.ref C :: bm).contains (.type "NameError") = false := by rw [List.contains_cons, hT, F.noName]; rfl
  refine codeAny_builtinAt F.entry ?_
  unfold Builtin.«BaseException.__new__»
  refine wpAt_bind ?_
  show _root_.PySem.wpAt _ _ _ (stack >>= _) _ _ _
  refine wpAt_bind (wpAt_stack fun p below => wpAt_of_wpAny ?_)
  wp_walk
  refine wpAt_of_wpAny ?_
  rw [F.owner]
  repeat (first | with_reducible refine wpAny_madeHere_exc F.canon hC ?_ | with_reducible refine wpAny_loadPart_at hC ?_ | (with_reducible refine wpAny_isSubtype_exc hC ?_; first | rw [cB] | rw [cA] | rw [cN]) | wp_step)
  show R _ _
  rw [Heap.size_push]
  exact hq
theorem typeK_own (F : ExcBaseFacts B newId initId bmB) (hT : ∀ X : String, bm.contains (.type X) = bmB.contains (.type X)) {us : List Value} {kw : List (Str × Value)} {fI : Addr} {Q : Fin → Shared → Prop}
    (hC : h.get? C = some (excClassObj nm q C N bs bm hdct sn sub ab col dd k0 k1 k2 k3 k5 newId))
    (hi : Looks (model prog w) h (typeLookup (.ref C) "__init__") (some (.ref fI))) (hb : ∀ self, Looks (model prog w) h (bindSpecial (.ref fI) self) (.ref fI, [self])) (hus : us.length ≤ sizeLine)
    (hq : codeAny (model prog w) A (.call (.ref fI) ⟨.ref (h.objs.size + 1) :: us, kw⟩)
      (fun r s' => match r with | .ok (.ret v) => v = .none ∧ Q (.done (.ret (.ref (h.objs.size + 1)))) s' | .ok _ => False | .error e => E e s')
      ⟨(h.push (kdv_tup us)).push (excO C h.objs.size), g, d, t, os⟩) :
    wpAny (model prog w) A (Builtin.«type.__call__» ⟨.ref C :: us, kw⟩) Q E ⟨h, g, d, t, os⟩ := by
  repeat (first | with_reducible refine wpAny_loadPart_at hC ?_ | with_reducible refine wpAny_madeBy_exc hC ?_ | wp_step)
  refine codeAny_call_builtin_code (Code.quiet_builtin _ F.quiet) (newK_check F hT hC ?_)
  refine newK_own F hT hC ?_ hus
  show wpAny _ _ _ _ _ _
  have k : ∀ b o, h.get? b = some o → ((h.push (kdv_tup us)).push (excO C h.objs.size)).get? b = some o := fun b o e => Heap.get?_push_of_some _ (Heap.get?_push_of_some _ e)
  have hC₁ := k _ _ hC
  have hget : ((h.push (kdv_tup us)).push (excO C h.objs.size)).get? (h.objs.size + 1) = some (excO C h.objs.size) := by heap_get
  have cC : (Value.ref C :: bm).contains (.ref C) = true := by simp
  have i1 := hi.keeps k
  have b1 := (hb (.ref (h.objs.size + 1))).keeps k
  unfold isInstance
  repeat (first | with_reducible refine wpAny_loadPart_at hget ?_ | (with_reducible refine wpAny_isSubtype_exc hC₁ ?_; rw [cC]) | wp_step)
  show wpAny _ _ (typeLookup (.ref C) _) _ _ _
  refine i1.at ?_
  refine wpAny_holding (wpAny_bind (b1.at ?_))
  refine wpAny_bind (wpAny_call (codeAny_mono hq fun r s' z => ?_))
  rcases r with e | (v | _ | _ | _) <;> first | exact z | exact z.elim | skip
  obtain ⟨rfl, z⟩ := z
  first
    | exact wpAny_pure (wpAny_pure z)
    | (wp_walk; exact z)
theorem callK_own (F : ExcBaseFacts B newId initId bmB) (hT : ∀ X : String, bm.contains (.type X) = bmB.contains (.type X)) {us : List Value} {kw : List (Str × Value)} {fI : Addr}
    (hC : h.get? C = some (excClassObj nm q C N bs bm hdct sn sub ab col dd k0 k1 k2 k3 k5 newId))
    (hi : Looks (model prog w) h (typeLookup (.ref C) "__init__") (some (.ref fI))) (hb : ∀ self, Looks (model prog w) h (bindSpecial (.ref fI) self) (.ref fI, [self])) (hus : us.length ≤ sizeLine)
    (hq : codeAny (model prog w) (A.under (.builtin "type.__call__" ⟨.ref C :: us, kw⟩)) (.call (.ref fI) ⟨.ref (h.objs.size + 1) :: us, kw⟩) (InitBack (h.objs.size + 1) R)
      ⟨(h.push (kdv_tup us)).push (excO C h.objs.size), g, d, t, os⟩) :
    codeAny (model prog w) A (.call (.ref C) ⟨us, kw⟩) R ⟨h, g, d, t, os⟩ := by
  have f1 := tc_lookup
  have f2 := tc_bind (.ref C)
  have hTy : (⟨h, g, d, t, os⟩ : Shared).TypeIs (.ref C) "type" := ⟨_, hC, rfl⟩
  refine codeAny_of_tree ?_
  show wpAny _ _ (callAny (.ref C) _) _ _ _
  repeat (any_goals (first | assumption | with_reducible refine wpAny_loadPart_at hC ?_ | wp_step))
  refine ⟨rfl, ?_⟩
  refine codeAny_call_builtin_at (Code.quiet_builtin _ (by decide +kernel)) entry_typeCall ?_
  have LT : Looks (model prog w) h (typeOf (.ref C)) (.type "type") := (Looks.ld hC).andThen .now
  have LI : Looks (model prog w) h (isInstance (.ref C) (.type "type")) true := LT.andThen (Looks.of_pure tc_sub)
  refine @check_slot (model prog w) _ _ ⟨h, g, d, t, os⟩ "type.__call__" "type" "__call__" (.ref C) us kw _ tc_kind tc_split LI (tc_args _ _ _) ?_
  refine typeK_own F hT hC hi hb hus (codeAny_mono hq fun r s' z => ?_)
  rcases r with e | (v | _ | _ | _) <;> exact z
end
end Rx
namespace Rx
open PySem PySem.W PySem.Calls PySem.HandSPX
structure SupS (K : Frag) (C : Addr) (ps : List Str) : Prop where
  sa : findIn K (.ref C) "__setattr__" = some (some (.builtin "object.__setattr__"))
  no : ∀ p ∈ ps, findIn K (.ref C) p = some none
/-- a made exception of the class at C: at e, its dict at d -/
structure MadeX (h h' : Heap) (e C d : Addr) (mA : Str → Option Value) : Prop where
  keep : ∀ b o, h.get? b = some o → h'.get? b = some o
  new : h.objs.size ≤ e
  obj : ∃ t1 : Addr, h'.get? e = some ({ cls := .ref C, dict := some d, data := .fields #[.ref t1, .none, .none, .none, .bool false, .none] } : Obj)
  dbig : h.objs.size ≤ d
  dne : d ≠ e
  ns : h'.Ns1 d mA
def m1 (f : Str) (v : Value) : Str → Option Value := fun y => if y = f then some v else none
def m2 (f : Str) (v : Value) (f' : Str) (v' : Value) : Str → Option Value := fun y => if y = f' then some v' else if y = f then some v else none
section
variable {prog : Program} {w : World} {A : Around} {R : Result → Shared → Prop} {K : Frag} {mg mb : Str → Option Value} {C fI cda cc x : Addr} {qual : Str} {s : Shared}
/-- what is told behind __init__ -/
def InitQ (s : Shared) (x C : Addr) (mA : Str → Option Value) (R : Result → Shared → Prop) : Prop :=
  ∀ h' tk dx t1, (∀ b o, b ≠ x → s.heap.get? b = some o → h'.get? b = some o) → s.heap.objs.size ≤ dx → dx ≠ x → h'.get? x = some ({ cls := .ref C, dict := some dx, data := .fields #[.ref t1, .none, .none, .none, .bool false, .none] } : Obj) → h'.Ns1 dx mA → R (.ok (.ret .none)) { s with heap := h', toks := tk }
/-- one field -/
theorem sup_init1 {params : Arguments} {doc pm ct dV kV : Value} {an : Option Addr} {f txt : Str} {j : Nat} {q0 q1 q2 q3 q4 q5 r0 r1 r2 r3 : Pos} {args : Args} {v : Value} {t0 : Addr}
    (T : SupC prog K C fI cda cc (ksFn "__init__" qual params [supSt txt j q0 q1 q2 q3 q4 q5, fldSt f r0 r1 r2 r3] (supSc [f]) dV kV doc pm an (.ref cda) ct cc) [f]) (S : SupS K C [f]) (hcd : codeIn K (.ref cda) qual = true)
    (X : K.In s.heap) (G : SupG prog s.heap mg mb) (lim : s.heap.NoLimit) (hx : s.heap.get? x = some (excO C t0)) (hnx : K.lookup x = none) (room : A.depth < recursionLimit) (hl : (q2.endLine == q4.line) = true) (hf : f ≠ "self") (hdb : (f == ("__debug__" : Str)) = false)
    (hb : BindsTo s (ksFn "__init__" qual params [supSt txt j q0 q1 q2 q3 q4 q5, fldSt f r0 r1 r2 r3] (supSc [f]) dV kV doc pm an (.ref cda) ct cc) args [("self", .ref x), (f, v)])
    (hq : InitQ s x C (m1 f v) R) : codeAny (model prog w) A (.call (.ref fI) args) R s := by
  obtain ⟨oc, od, osl, hfn⟩ := T.fn
  obtain ⟨nm, q, N, bs, bm, sn, sub, ab, col, dd, k0, k1, k2, k3, k5, hC, hbm⟩ := T.cls
  have hcd2 : clsIn K C = some { name := nm, bases := bs, mro := .ref C :: bm, ns := N, qualname := q, hasDict := true, slotNames := sn, subclasses := sub, abstract := ab, collection := col, hasDel := false } := by unfold clsIn; rw [hC] <;> rfl
  have kF : (supSc [f]).names.lookup f = some .local := by
    have e1 : (f == PySem.Str.ofString "self") = false := beq_eq_false_iff_ne.mpr hf
    simp [supSc, List.lookup, e1]
  refine ks_codeAny_call_defAt (fd := ksFn "__init__" qual params [supSt txt j q0 q1 q2 q3 q4 q5, fldSt f r0 r1 r2 r3] (supSc [f]) dV kV doc pm an (.ref cda) ct cc) (body := [supSt txt j q0 q1 q2 q3 q4 q5, fldSt f r0 r1 r2 r3]) (binds := [("self", .ref x), (f, v)]) room (X _ _ hfn) rfl lim (codeRec_of X hcd) rfl hb ?_ ?_ fun h₁ hns k₁ => ?_
  · intro y hy
    simp only [supSc, List.map_cons, List.map_nil, List.cons_append, List.nil_append, List.mem_cons, List.not_mem_nil, or_false] at hy
    rcases hy with rfl | rfl | rfl | rfl <;> (intro z; cases z)
  · intro y hy
    simp only [List.mem_cons, List.not_mem_nil, or_false] at hy
    rcases hy with rfl | rfl
    · rfl
    · exact kF
  · show _root_.PySem.wpAt _ _ _ (execs [supSt txt j q0 q1 q2 q3 q4 q5, fldSt f r0 r1 r2 r3] (ksEnv qual (supSc [f]) s.heap.objs.size fI (.ref cda) cc)) _ _ _
    have hself : (fun y => ([("self", .ref x), (f, v)] : List (Str × Value)).reverse.lookup y) "self" = some (.ref x) := by
      have e1 : ((("self" : String) : Str) == f) = false := beq_eq_false_iff_ne.mpr (Ne.symm hf)
      show List.lookup _ [(f, v), ((("self" : String) : Str), Value.ref x)] = _
      simp [List.lookup, e1]
    have hfv : (fun y => ([("self", .ref x), (f, v)] : List (Str × Value)).reverse.lookup y) f = some v := by
      show List.lookup _ [(f, v), ((("self" : String) : Str), Value.ref x)] = _
      simp [List.lookup]
    have up : ∀ b o, s.heap.get? b = some o → h₁.get? b = some o := fun b o e => k₁ b o e
    have hLx : s.heap.objs.size ≠ x := Nat.ne_of_gt (Heap.lt_size hx)
    refine ks_wpAt_execs_cons (sup_first T (X.keeps up) (G.keeps up) hns hself (up _ _ hx) hl fun h2 tk2 t1 k2 hx2 => ?_)
    refine wpAt_of_wpAny ?_
    have hns2 : h2.Ns s.heap.objs.size (fun y => ([("self", .ref x), (f, v)] : List (Str × Value)).reverse.lookup y) := by
      obtain ⟨o, es, ep, ho, r⟩ := hns
      exact ⟨o, es, ep, k2 _ _ hLx ho, r⟩
    have KX2 : K.In h2 := fun a o e => k2 a o (fun z => by rw [z, hnx] at e; cases e) (up _ _ (X _ _ e))
    show wpAny _ _ (execs [fldSt f r0 r1 r2 r3] (ksEnv qual (supSc [f]) s.heap.objs.size fI (.ref cda) cc)) _ _ _
    refine wpAny_execs_cons (plainObj_wpAny_Assign_Attribute (hs := rfl) ?_)
    refine wpAny_Name (wpAny_loadName_local rfl kF hns2 hfv ?_) hdb
    refine wpAny_Name (wpAny_loadName_local rfl rfl hns2 hself ?_) (by decide)
    refine set_plain KX2 (ox := excO C t1) (od := none) ⟨hx2, rfl, rfl, trivial⟩ S.sa ?_
    refine exc_osa KX2 hx2 hcd2 (show refsVE (.ref C :: bm) = true from hbm) rfl (S.no f (by simp)) (fun h3 tk3 dx k3 dn dne hx3 hn3 => ?_)
    show wpAny _ _ (execs _ _) _ _ _
    have z : s.heap.objs.size < h2.objs.size := Heap.Ns.lt hns2
    refine wpAny_execs_nil (hq h3 tk3 dx t1 (fun b o hb e => k3 b o hb (k2 b o hb (up b o e))) (Nat.le_of_lt (Nat.lt_of_lt_of_le z dn)) dne hx3 hn3)
/-- two fields -/
theorem sup_init2 {params : Arguments} {doc pm ct dV kV : Value} {an : Option Addr} {f f2 txt : Str} {j : Nat} {q0 q1 q2 q3 q4 q5 r0 r1 r2 r3 u0 u1 u2 u3 : Pos} {args : Args} {v v2 : Value} {t0 : Addr}
    (T : SupC prog K C fI cda cc (ksFn "__init__" qual params [supSt txt j q0 q1 q2 q3 q4 q5, fldSt f r0 r1 r2 r3, fldSt f2 u0 u1 u2 u3] (supSc [f, f2]) dV kV doc pm an (.ref cda) ct cc) [f, f2]) (S : SupS K C [f, f2]) (hcd : codeIn K (.ref cda) qual = true)
    (X : K.In s.heap) (G : SupG prog s.heap mg mb) (lim : s.heap.NoLimit) (hx : s.heap.get? x = some (excO C t0)) (hnx : K.lookup x = none) (room : A.depth < recursionLimit) (hl : (q2.endLine == q4.line) = true) (hf : f ≠ "self") (hf2 : f2 ≠ "self") (hff : f ≠ f2) (hdb : (f == ("__debug__" : Str)) = false) (hdb2 : (f2 == ("__debug__" : Str)) = false)
    (hb : BindsTo s (ksFn "__init__" qual params [supSt txt j q0 q1 q2 q3 q4 q5, fldSt f r0 r1 r2 r3, fldSt f2 u0 u1 u2 u3] (supSc [f, f2]) dV kV doc pm an (.ref cda) ct cc) args [("self", .ref x), (f, v), (f2, v2)])
    (hq : InitQ s x C (m2 f v f2 v2) R) : codeAny (model prog w) A (.call (.ref fI) args) R s := by
  obtain ⟨oc, od, osl, hfn⟩ := T.fn
  obtain ⟨nm, q, N, bs, bm, sn, sub, ab, col, dd, k0, k1, k2, k3, k5, hC, hbm⟩ := T.cls
  have hcd2 : clsIn K C = some { name := nm, bases := bs, mro := .ref C :: bm, ns := N, qualname := q, hasDict := true, slotNames := sn, subclasses := sub, abstract := ab, collection := col, hasDel := false } := by unfold clsIn; rw [hC] <;> rfl
  have kF : (supSc [f, f2]).names.lookup f = some .local := by
    have e1 : (f == PySem.Str.ofString "self") = false := beq_eq_false_iff_ne.mpr hf
    simp [supSc, List.lookup, e1]
  have kF2 : (supSc [f, f2]).names.lookup f2 = some .local := by
    have e1 : (f2 == PySem.Str.ofString "self") = false := beq_eq_false_iff_ne.mpr hf2
    have e2 : (f2 == f) = false := beq_eq_false_iff_ne.mpr (Ne.symm hff)
    simp [supSc, List.lookup, e1, e2]
  refine ks_codeAny_call_defAt (fd := ksFn "__init__" qual params [supSt txt j q0 q1 q2 q3 q4 q5, fldSt f r0 r1 r2 r3, fldSt f2 u0 u1 u2 u3] (supSc [f, f2]) dV kV doc pm an (.ref cda) ct cc) (body := [supSt txt j q0 q1 q2 q3 q4 q5, fldSt f r0 r1 r2 r3, fldSt f2 u0 u1 u2 u3]) (binds := [("self", .ref x), (f, v), (f2, v2)]) room (X _ _ hfn) rfl lim (codeRec_of X hcd) rfl hb ?_ ?_ fun h₁ hns k₁ => ?_
  · intro y hy
    simp only [supSc, List.map_cons, List.map_nil, List.cons_append, List.nil_append, List.mem_cons, List.not_mem_nil, or_false] at hy
    rcases hy with rfl | rfl | rfl | rfl | rfl <;> (intro z; cases z)
  · intro y hy
    simp only [List.mem_cons, List.not_mem_nil, or_false] at hy
    rcases hy with rfl | rfl | rfl
    · rfl
    · exact kF
    · exact kF2
  · show _root_.PySem.wpAt _ _ _ (execs [supSt txt j q0 q1 q2 q3 q4 q5, fldSt f r0 r1 r2 r3, fldSt f2 u0 u1 u2 u3] (ksEnv qual (supSc [f, f2]) s.heap.objs.size fI (.ref cda) cc)) _ _ _
    have hself : (fun y => ([("self", .ref x), (f, v), (f2, v2)] : List (Str × Value)).reverse.lookup y) "self" = some (.ref x) := by
      have e1 : ((("self" : String) : Str) == f) = false := beq_eq_false_iff_ne.mpr (Ne.symm hf)
      have e2 : ((("self" : String) : Str) == f2) = false := beq_eq_false_iff_ne.mpr (Ne.symm hf2)
      show List.lookup _ [(f2, v2), (f, v), ((("self" : String) : Str), Value.ref x)] = _
      simp [List.lookup, e1, e2]
    have hfv : (fun y => ([("self", .ref x), (f, v), (f2, v2)] : List (Str × Value)).reverse.lookup y) f = some v := by
      have e1 : (f == f2) = false := beq_eq_false_iff_ne.mpr hff
      show List.lookup _ [(f2, v2), (f, v), ((("self" : String) : Str), Value.ref x)] = _
      simp [List.lookup, e1]
    have hfv2 : (fun y => ([("self", .ref x), (f, v), (f2, v2)] : List (Str × Value)).reverse.lookup y) f2 = some v2 := by
      show List.lookup _ [(f2, v2), (f, v), ((("self" : String) : Str), Value.ref x)] = _
      simp [List.lookup]
    have up : ∀ b o, s.heap.get? b = some o → h₁.get? b = some o := fun b o e => k₁ b o e
    have hLx : s.heap.objs.size ≠ x := Nat.ne_of_gt (Heap.lt_size hx)
    refine ks_wpAt_execs_cons (sup_first T (X.keeps up) (G.keeps up) hns hself (up _ _ hx) hl fun h2 tk2 t1 k2 hx2 => ?_)
    refine wpAt_of_wpAny ?_
    have hns2 : h2.Ns s.heap.objs.size (fun y => ([("self", .ref x), (f, v), (f2, v2)] : List (Str × Value)).reverse.lookup y) := by
      obtain ⟨o, es, ep, ho, r⟩ := hns
      exact ⟨o, es, ep, k2 _ _ hLx ho, r⟩
    have KX2 : K.In h2 := fun a o e => k2 a o (fun z => by rw [z, hnx] at e; cases e) (up _ _ (X _ _ e))
    show wpAny _ _ (execs [fldSt f r0 r1 r2 r3, fldSt f2 u0 u1 u2 u3] (ksEnv qual (supSc [f, f2]) s.heap.objs.size fI (.ref cda) cc)) _ _ _
    refine wpAny_execs_cons (plainObj_wpAny_Assign_Attribute (hs := rfl) ?_)
    refine wpAny_Name (wpAny_loadName_local rfl kF hns2 hfv ?_) hdb
    refine wpAny_Name (wpAny_loadName_local rfl rfl hns2 hself ?_) (by decide)
    refine set_plain KX2 (ox := excO C t1) (od := none) ⟨hx2, rfl, rfl, trivial⟩ S.sa ?_
    refine exc_osa KX2 hx2 hcd2 (show refsVE (.ref C :: bm) = true from hbm) rfl (S.no f (by simp)) (fun h3 tk3 dx k3 dn dne hx3 hn3 => ?_)
    have z : s.heap.objs.size < h2.objs.size := Heap.Ns.lt hns2
    have hns3 : h3.Ns s.heap.objs.size (fun y => ([("self", .ref x), (f, v), (f2, v2)] : List (Str × Value)).reverse.lookup y) := by
      obtain ⟨o, es, ep, ho, r⟩ := hns2
      exact ⟨o, es, ep, k3 _ _ hLx ho, r⟩
    have KX3 : K.In h3 := fun a o e => k3 a o (fun z => by rw [z, hnx] at e; cases e) (KX2 _ _ e)
    obtain ⟨oD, esD, epD, hoD, hdD⟩ := id hn3
    have hw : Within (m1 f v) [f] := fun y hy => by
      unfold m1 at hy
      by_cases e : y = f
      · rw [e]; exact List.mem_singleton.mpr rfl
      · rw [if_neg e] at hy; exact absurd rfl hy
    show wpAny _ _ (execs [fldSt f2 u0 u1 u2 u3] (ksEnv qual (supSc [f, f2]) s.heap.objs.size fI (.ref cda) cc)) _ _ _
    refine wpAny_execs_cons (plainObj_wpAny_Assign_Attribute (hs := rfl) ?_)
    refine wpAny_Name (wpAny_loadName_local rfl kF2 hns3 hfv2 ?_) hdb2
    refine wpAny_Name (wpAny_loadName_local rfl rfl hns3 hself ?_) (by decide)
    refine set_plain KX3 (ox := { cls := .ref C, dict := some dx, data := .fields #[.ref t1, .none, .none, .none, .bool false, .none] }) (od := some oD) ⟨hx3, rfl, rfl, hoD⟩ S.sa ?_
    refine OEX.osa_old KX3 hx3 (m0 := m1 f v) hn3 hw (by show 1 ≤ 1000; decide) hcd2 (show refsVE (.ref C :: bm) = true from hbm) rfl (S.no f2 (by simp)) (fun h4 tk4 k4 hn4 => ?_)
    show wpAny _ _ (execs _ _) _ _ _
    have nd : ∀ {b : Addr} {o : Obj}, s.heap.get? b = some o → b ≠ dx := fun {b o} e => Nat.ne_of_lt (Nat.lt_of_lt_of_le (Nat.lt_trans (Heap.lt_size e) z) dn)
    exact wpAny_execs_nil (hq h4 tk4 dx t1 (fun b o hb e => k4 b o (nd e) (k3 b o hb (k2 b o hb (up b o e)))) (Nat.le_of_lt (Nat.lt_of_lt_of_le z dn)) dne (k4 _ _ (Ne.symm dne) hx3) hn4)
end
end Rx
namespace Rx
open PySem PySem.Spec PyProof.Rows L2
open PySem.HandSPX (veTail refsVE)
theorem bmOf_ok (R C : Addr) : refsVE (bmOf R C) = true := by
  unfold bmOf
  split
  · decide +kernel
  · show refsVE veTail = true
    decide +kernel
structure ErrC (K : PySem.W.Frag) (R C : Addr) : Prop where
  cls : ∃ nm q N bs sn sub ab col dd k0 k1 k2 k3 k5, K.lookup C = some (excClassObj nm q C N bs (bmOf R C) true sn sub ab col dd k0 k1 k2 k3 k5 "ValueError.__new__")
  sa : PySem.W.findIn K (.ref C) "__setattr__" = some (some (.builtin "object.__setattr__"))
  ga : PySem.W.findIn K (.ref C) "__getattribute__" = some (some (.builtin "BaseException.__getattribute__"))
  gg : PySem.W.findIn K (.ref C) "__getattr__" = some none
  ca : PySem.W.findIn K (.ref C) "__class__" = some (some (.builtin "object.__class__"))
  kp : PySem.W.keepIn K (.ref C) = true
theorem errB_ok {K : PySem.W.Frag} {R C : Addr} (h : errB K R C = true) : ErrC K R C := by
  unfold errB at h
  obtain ⟨h0, h⟩ := He.ba h
  obtain ⟨h1, h⟩ := He.ba h
  obtain ⟨h2, h⟩ := He.ba h
  obtain ⟨h3, h⟩ := He.ba h
  obtain ⟨h4, h5⟩ := He.ba h
  refine ⟨?_, He.eqO_ok h1, He.eqO_ok h2, He.eqO_ok h3, He.eqO_ok h4, h5⟩
  split at h0
  · rename_i t dd cd a0 a1 a2 a3 n a5 ho
    simp only [Bool.and_eq_true, beq_iff_eq, Bool.not_eq_true', decide_eq_true_eq] at h0
    obtain ⟨⟨⟨⟨rfl, e1⟩, e2⟩, rfl⟩, e3⟩ := h0
    obtain ⟨nm, bs, mro, ns, qn, hd, sn, sub, ab, col, del⟩ := cd
    dsimp only at e1 e2 e3
    subst e1 e2 e3
    exact ⟨nm, qn, ns, bs, sn, sub, ab, col, dd, a0, a1, a2, a3, a5, ho⟩
  · cases h0
section
variable {K : PySem.W.Frag} {R C D : Addr}
theorem ErrC.cd (T : ErrC K R C) : ∃ cd, PySem.W.clsIn K C = some cd ∧ cd.mro = .ref C :: bmOf R C ∧ cd.hasDict = true := by
  obtain ⟨nm, q, N, bs, sn, sub, ab, col, dd, k0, k1, k2, k3, k5, hC⟩ := T.cls
  refine ⟨{ name := nm, bases := bs, mro := .ref C :: bmOf R C, ns := N, qualname := q, hasDict := true, slotNames := sn, subclasses := sub, abstract := ab, collection := col, hasDel := false }, ?_, rfl, rfl⟩
  unfold PySem.W.clsIn
  rw [hC] <;> rfl
theorem ErrC.mro (T : ErrC K R C) (b : Value) : PySem.W.mroIn K C b = some ((Value.ref C :: bmOf R C).contains b) := by
  obtain ⟨cd, h1, h2, _⟩ := T.cd
  unfold PySem.W.mroIn
  rw [h1, Option.bind_some, h2, if_neg (show ¬ (List.isEmpty (Value.ref C :: bmOf R C) = true) from Bool.false_ne_true)]
theorem bm_type (R C : Addr) (t : String) : (Value.ref C :: bmOf R C).contains (.type t) = veTail.contains (.type t) := by
  rw [List.contains_cons, PySem.HandSPX.refsVE_contains t _ (bmOf_ok R C)]
  rfl
theorem bm_ref (R C D : Addr) : (Value.ref C :: bmOf R C).contains (.ref D) = (decide (D = C) || decide (D = R)) := by
  have ve : veTail.contains (.ref D) = false := rfl
  have rr : ∀ a b : Addr, (Value.ref a == Value.ref b) = decide (a = b) := fun a b => by
    by_cases e : a = b
    · subst e; simp
    · rw [decide_eq_false e]
      exact beq_eq_false_iff_ne.mpr fun z => e (Value.ref.inj z)
  rw [List.contains_cons, rr]
  unfold bmOf
  split
  · rename_i e
    rw [ve, e, Bool.or_false, Bool.or_self]
  · rw [List.contains_cons, rr, ve, Bool.or_false]
theorem ErrC.sub (T : ErrC K R C) (t : String) : PySem.W.subIn K (.ref C) (.type t) = some (veTail.contains (.type t)) := (T.mro _).trans (by rw [bm_type])
theorem ErrC.ty (T : ErrC K R C) : PySem.W.typeIn K (.ref C) = some (.type "type") := by
  obtain ⟨nm, q, N, bs, sn, sub, ab, col, dd, k0, k1, k2, k3, k5, hC⟩ := T.cls
  show (K.lookup C).map (·.cls) = _
  rw [hC]
  rfl
theorem ErrC.isC (T : ErrC K R C) : (PySem.W.clsIn K C).isSome = true := by
  obtain ⟨cd, h, _⟩ := T.cd
  rw [h]
  rfl
/-- isinstance(an error of the class at C, the class at D) -/
theorem ErrC.kit (T : ErrC K R C) (U : ErrC K R D) : PySem.W.kitOne K (.ref C) (.ref D) = some (decide (C = D) || decide (D = R)) := by
  unfold PySem.W.kitOne
  by_cases e : C = D
  · subst e
    rw [if_pos (by simp), decide_eq_true rfl, Bool.true_or]
  · rw [if_neg (show ¬ (Value.ref C == Value.ref D) = true from fun z => e (Value.ref.inj (eq_of_beq z))), decide_eq_false e, Bool.false_or]
    show (if ((PySem.W.clsIn K D).isSome && PySem.W.typeIn K (.ref D) == some (.type "type")) = true then PySem.W.subIn K (.ref C) (.ref D) else none) = _
    rw [U.isC, U.ty, if_pos (by decide)]
    show PySem.W.mroIn K C (.ref D) = _
    rw [T.mro, bm_ref, decide_eq_false (Ne.symm e), Bool.false_or]
theorem ErrC.kitVE (T : ErrC K R C) : PySem.W.kitOne K (.ref C) (.type "ValueError") = some true := by
  unfold PySem.W.kitOne
  rw [if_neg (show ¬ (Value.ref C == Value.type "ValueError") = true by intro z; cases eq_of_beq z)]
  show (if PySem.W.kitMeta "ValueError" = true then PySem.W.subIn K (.ref C) (.type "ValueError") else none) = _
  rw [if_pos (by decide +kernel), T.sub]
  decide +kernel
theorem kitVE_ref (U : ErrC K R D) : PySem.W.kitOne K (.type "ValueError") (.ref D) = some false := by
  unfold PySem.W.kitOne
  rw [if_neg (show ¬ (Value.type "ValueError" == Value.ref D) = true by intro z; cases eq_of_beq z)]
  show (if ((PySem.W.clsIn K D).isSome && PySem.W.typeIn K (.ref D) == some (.type "type")) = true then PySem.W.subIn K (.type "ValueError") (.ref D) else none) = _
  rw [U.isC, U.ty, if_pos (by decide)]
  show (fastBuiltinMro "ValueError").map (·.contains (.ref D)) = _
  rw [show fastBuiltinMro "ValueError" = some veTail by kernel_rfl]
  rfl
end
def ErrO (H : Hp) (a C : Addr) (fs : List (Str × V)) : Prop := (fs = [] ∧ H a = some (exo a C none)) ∨ ∃ dx, H a = some (exo a C (some dx)) ∧ H dx = some (exd dx fs)
theorem ErrO.ext {H H' : Hp} {a C : Addr} {fs : List (Str × V)} (h : ErrO H a C fs) (e : ∀ b o, H b = some o → H' b = some o) : ErrO H' a C fs := by
  rcases h with ⟨h1, h2⟩ | ⟨dx, h1, h2⟩
  · exact .inl ⟨h1, e _ _ h2⟩
  · exact .inr ⟨dx, e _ _ h1, e _ _ h2⟩
section
variable {X : Cx}
theorem gs_get {K : PySem.W.Frag} : PySem.W.specialIn K (.builtin "object.__class__") "__get__" = some (some (.builtin "getset_descriptor.__get__")) := by kernel_rfl
theorem gs_takes {K : PySem.W.Frag} : PySem.W.takesIn K (.builtin "object.__class__") = some true := by kernel_rfl
/-- isinstance(e, c), e an error of an own class -/
def rIsX (K : PySem.W.Frag) (R : Addr) : List V → Hp → VK → Prop := fun xs H Q => ∃ (a C : Addr) (fs : List (Str × V)) (c : V) (cv : Value) (b : Bool), xs = [.ref a, c] ∧ ErrO H a C fs ∧ ErrC K R C ∧ (∀ u, RelV c u → u = cv) ∧ PySem.W.kitOne K (.ref C) cv = some b ∧ Q (.bl b) H
theorem call_isX {R : Addr} : CallR X (.builtin "isinstance") (rIsX X.K R) := by
  intro pins s σ H xs us Q I r h
  obtain ⟨a, C, fs, c, cv, b, rfl, ho, T, hcv, e, q⟩ := h
  cases r with
  | cons rx rr =>
    cases rr with
    | cons rt rr =>
      cases rr
      cases rx
      have ec := hcv _ rt
      subst ec
      have J : ∃ ox od, PySem.W.InstAt s.heap a ox C od := by
        rcases ho with ⟨_, h1⟩ | ⟨dx, h1, h2⟩
        · obtain ⟨t1, z⟩ := exo_at I.hok h1
          exact ⟨_, none, z, rfl, rfl, trivial⟩
        · obtain ⟨t1, z⟩ := exo_at I.hok h1
          obtain ⟨mA, hn, _⟩ := exd_at I.hok h2
          obtain ⟨od, _, _, hd, _⟩ := hn
          exact ⟨_, some od, z, rfl, rfl, hd⟩
      obtain ⟨ox, od, J⟩ := J
      exact PySem.W.kia_one (PySem.W.kitx_exc T.isC T.ga T.gg (by rw [T.sub]; decide +kernel) T.ca gs_get gs_takes (by rw [T.mro, bm_type]; decide +kernel)) I.kIn J e (fun z => nomatch z) fun tk => ⟨.bl b, H, I.kept (t' := tk) fun _ _ z => z, rfl, q⟩
/-- an error of the built-in ValueError -/
def VeO (a : Addr) : HO := .ext fun h => PySem.W.KitAt a "ValueError" h
def rIsV (K : PySem.W.Frag) : List V → Hp → VK → Prop := fun xs H Q => ∃ (a : Addr) (c : V) (cv : Value) (b : Bool), xs = [.ref a, c] ∧ H a = some (VeO a) ∧ (∀ u, RelV c u → u = cv) ∧ PySem.W.kitOne K (.type "ValueError") cv = some b ∧ Q (.bl b) H
theorem call_isV : CallR X (.builtin "isinstance") (rIsV X.K) := by
  intro pins s σ H xs us Q I r h
  obtain ⟨a, c, cv, b, rfl, ho, hcv, e, q⟩ := h
  cases r with
  | cons rx rr =>
    cases rr with
    | cons rt rr =>
      cases rr
      cases rx
      have ec := hcv _ rt
      subst ec
      obtain ⟨J, _, _⟩ := I.hok a _ ho
      exact PySem.W.kia_one (PySem.W.kitx_bexc PySem.F.excAttr_ValueError PySem.F.lkClass_ValueError PySem.F.soClass_ValueError (by decide)) I.kIn J e (fun z => nomatch z) fun tk => ⟨.bl b, H, I.kept (t' := tk) fun _ _ z => z, rfl, q⟩
end
section
variable {X : Cx} {e : Expr} {te : TE} {f : Str} {pos : Pos}
/-- e.f, e an error with its dict -/
def tXf (K : PySem.W.Frag) (R : Addr) (f : Str) (te : TE) : TE := fun σ H Q => te σ H fun x H1 => ∃ (a C : Addr) (fs : List (Str × V)) (v : V), x = .ref a ∧ ErrO H1 a C fs ∧ ErrC K R C ∧ PySem.W.findIn K (.ref C) f = some none ∧ fs.lookup f = some v ∧ Q v H1
theorem pe_xf {R : Addr} (he : PE X e te) (hb : attributeBase e f X.env (eval e X.env) = eval e X.env := by rfl) : PE X (.Attribute e f pos) (tXf X.K R f te) := by
  refine ⟨fun pins s σ H Q I h => ?_⟩
  refine attr_of hb (thn (he.run pins s σ H _ I h) fun u s1 hh => ?_)
  obtain ⟨x, H1, I1, rx, a, C, fs, v, ex, ho, T, hno, hl, q⟩ := hh
  subst ex
  obtain rfl : u = Value.ref a := rx
  rcases ho with ⟨rfl, _⟩ | ⟨dx, h1, h2⟩
  · cases hl
  · obtain ⟨t1, z⟩ := exo_at I1.hok h1
    obtain ⟨mA, hns, hr⟩ := exd_at I1.hok h2
    obtain ⟨od, hd, hlk⟩ := lookIn_ns hns
    obtain ⟨u, hu, ru⟩ := RelO.some_of (v := v) (o := mA f) (by rw [← hl]; exact hr f)
    have J : PySem.W.InstAt s1.heap a _ C (some od) := ⟨z, rfl, rfl, hd⟩
    obtain ⟨cd, hcd, _, hdc⟩ := T.cd
    exact PySem.HandSPX.exc_get I1.kIn J T.ga T.gg (by rw [T.sub]; decide +kernel) (PySem.W.findObj_own (by unfold PySem.W.hasDictIn; rw [hcd]; exact hdc) hno rfl (by rw [hlk, hu])) (handed_of ru) ⟨v, H1, I1.tok _, ru, q⟩
end
end Rx
namespace Rx
open PySem PySem.Spec PyProof.Rows L2
open PySem.HandSPX (veTail refsVE excO)
section
variable {X : Cx} {C : Addr} {x : Str} {p pos : Pos} {e : Expr} {es : List Expr} {ta : TA}
/-- C(e, ..), no __init__ of its own -/
def tMkP (C : Addr) (ta : TA) : TE := fun σ H Q => ta σ H fun vs H1 => vs.length ≤ 1000 ∧ ∀ a, H1 a = none → Q (.ref a) (upd H1 a (exo a C none))
theorem pe_mkP (q : PySem.W.excIn X.K C veTail "ValueError.__new__" = true) (kC : PySem.W.keepIn X.K (.ref C) = true) (gC : X.mg x = some (.ref C)) (hg : Gl X x) (ha : PA X (e :: es) ta) (hdb : (x == ("__debug__" : Str)) = false := by decide)
    (he : starEach (e :: es) X.env = (false, eval e X.env) :: starEach es X.env := by rfl) (hpl : (backTo pos (starEach es X.env)).any (·.1) = false := by rfl) : PE X (.Call (.Name x p) (e :: es) [] pos) (tMkP C ta) := by
  refine ⟨fun pins s σ H Q I h => wpAny_Call_Name_kw (ld_glob I hg gC ?_ hdb)⟩
  refine PySem.W.callWith_K (h₀ := X.base) I.ok.mod.kin kC (thn (ha.run pos pins s σ H _ I h) fun us s1 ⟨vs, H1, I1, r1, hl, q1⟩ => ⟨I1.kIn, ?_⟩) he hpl
  show wpAny _ _ (call (.ref C) us) _ _ _
  obtain ⟨bm, N, nm, qn, bs, hdct, sn, sub, ab, col, dd, k0, k1, k2, k3, k5, mN, hC, hN, hni, T⟩ := exc_obj I1.kIn q
  refine wpAny_call_exc_subT PySem.F.excBase_ValueError T hC hN hni (fun h' a hm => ?_) (by rw [← r1.length, sizeLine_eq]; omega)
  have hn : H1 a = none := I1.hok.gone hm.new
  obtain ⟨t, ht, _, _⟩ := hm.there
  exact ⟨.ref a, upd H1 a (exo a C none), I1.laidN hm.keeps hm.new hn (exo_ok ht), rfl, q1 a hn⟩
/-- ValueError(e) -/
def tMkV (ta : TA) : TE := fun σ H Q => ta σ H fun vs H1 => vs.length ≤ 1000 ∧ ∀ a, H1 a = none → Q (.ref a) (upd H1 a (VeO a))
theorem pe_mkV (hm : X.mg "ValueError" = none) (hg : Gl X "ValueError") (ha : PA X (e :: es) ta)
    (he : starEach (e :: es) X.env = (false, eval e X.env) :: starEach es X.env := by rfl) (hpl : (backTo pos (starEach es X.env)).any (·.1) = false := by rfl) : PE X (.Call (.Name "ValueError" p) (e :: es) [] pos) (tMkV ta) := by
  refine ⟨fun pins s σ H Q I h => wpAny_Call_Name_kw (ld_blt I hg hm boot_ValueError ?_ (by decide) (by decide))⟩
  refine PyProof.Rows.callWith_type1 (thn (ha.run pos pins s σ H _ I h) fun us s1 ⟨vs, H1, I1, r1, hl, q1⟩ => ?_) he hpl
  obtain ⟨hp1, g1, d1, tk1, os1⟩ := s1
  refine wpAny_call_exc exb_ValueError.call (fun h' a mk => ?_) (by rw [← r1.length, sizeLine_eq]; omega)
  have mo := PySem.Heap.MadeExc.of mk
  have hn : H1 a = none := I1.hok.gone mk.new
  obtain ⟨t, ht, _⟩ := mo.there
  exact ⟨.ref a, upd H1 a (VeO a), I1.laidN mo.keeps mk.new hn ⟨⟨_, ht, rfl⟩, ⟨_, ht⟩, fun _ _ ⟨o, z, c⟩ k => ⟨o, k o z, c⟩⟩, rfl, q1 a hn⟩
end
/-- the class at C with the __init__ that st writes: super().__init__(a text), then each of ps stored -/
structure SupT (prog : Program) (K : PySem.W.Frag) (R C : Addr) (st : Stmt) (ps : List Str) : Prop where
  err : ErrC K R C
  no : ∀ p ∈ ps, PySem.W.findIn K (.ref C) p = some none
  sup : PySem.W.ks_superIn K C C "__init__" = some (some (.builtin "ValueError.__init__"))
  opq : PySem.W.nsIn K cStatics "thirdparty.any" = some none
  ex : ∃ (fI cda cc : Addr) (qual : Str) (doc pm ct : Value) (an : Option Addr) (oc : Value) (od : Option Addr) (osl : Array (Option Value)),
    K.lookup fI = some ⟨oc, od, .func (PySem.W.ksFn "__init__" qual (defArgs st) (defBody st) (supSc ps) .none .none doc pm an (.ref cda) ct cc), osl⟩ ∧ PySem.W.codeIn K (.ref cda) qual = true ∧
    PySem.W.findIn K (.ref C) "__init__" = some (some (.ref fI)) ∧ PySem.W.typeIn K (.ref fI) = some (.type "function") ∧
    (∃ ccl cdd ccs vs file tf, K.lookup cda = some ⟨ccl, cdd, .fields vs, ccs⟩ ∧ vs[2]? = some (.str file tf) ∧ ((prog.main.file : Str) == file) = true) ∧ ∃ cl cld csl, K.lookup cc = some ⟨cl, cld, .cell (some (.ref C)), csl⟩
  self : ∃ ar, ((defArgs st).posonlyargs ++ (defArgs st).args).head? = some ar ∧ ar.arg = "self"
  ks : (supSc ps).names.lookup ("super" : Str) = some .globalImplicit
  kc : (supSc ps).names.lookup ("__class__" : Str) = some .free
  top : (prog.main.scope.names.lookup ("super" : Str)).isSome = false
/-- how it binds -/
def SupB (st : Stmt) (ps : List Str) (us : List Value) (kw : List (Str × Value)) (vs : List Value) : Prop :=
  ∀ (qual : Str) (doc pm ct : Value) (an : Option Addr) (cda cc : Addr) (x : Value), bindArgs (PySem.W.ksFn "__init__" qual (defArgs st) (defBody st) (supSc ps) .none .none doc pm an (.ref cda) ct cc) ⟨x :: us, kw⟩ = pure ((PySem.Str.ofString "self", x) :: ps.zip vs)
theorem SupT.c {prog : Program} {K : PySem.W.Frag} {R C : Addr} {st : Stmt} {ps : List Str} (T : SupT prog K R C st ps) : ∃ (fI cda cc : Addr) (qual : Str) (doc pm ct : Value) (an : Option Addr),
    SupC prog K C fI cda cc (PySem.W.ksFn "__init__" qual (defArgs st) (defBody st) (supSc ps) .none .none doc pm an (.ref cda) ct cc) ps ∧ PySem.W.codeIn K (.ref cda) qual = true ∧
    PySem.W.findIn K (.ref C) "__init__" = some (some (.ref fI)) ∧ PySem.W.typeIn K (.ref fI) = some (.type "function") := by
  obtain ⟨fI, cda, cc, qual, doc, pm, ct, an, oc, od, osl, h1, h2, h3, h4, h5, h6⟩ := T.ex
  obtain ⟨nm, q, N, bs, sn, sub, ab, col, dd, k0, k1, k2, k3, k5, hC⟩ := T.err.cls
  refine ⟨fI, cda, cc, qual, doc, pm, ct, an, ⟨⟨nm, q, N, bs, _, sn, sub, ab, col, dd, k0, k1, k2, k3, k5, hC, bmOf_ok R C⟩, T.sup, T.opq, ⟨oc, od, osl, h1⟩, T.self, h5, h6, T.ks, T.kc, rfl⟩, h2, h3, h4⟩

section
variable {X : Cx} {R C : Addr} {st : Stmt} {pins : List (Addr × Obj)} {σ : L2.St} {H : Hp} {s : Shared}
theorem supG_of (I : Inv X pins σ H s) (hm : X.mg "super" = none) (top : (X.prog.main.scope.names.lookup ("super" : Str)).isSome = false) : ∃ mb, SupG X.prog s.heap X.mg mb := by
  obtain ⟨mb, h1, h2⟩ := I.mod.blt
  exact ⟨mb, I.mod.glob.keeps I.bk, h1.keeps I.bk, hm, (h2 _ (by decide +kernel)).trans (by decide +kernel), top⟩
/-- a made error is known from now on -/
theorem supEnd {h' : Heap} {g : Array GenState} {d : Drawn} {tk tk' : Nat} {os : OsState} {hp : Heap} {a dx t1 : Addr} {fs : List (Str × V)} {mA : Str → Option Value} {Q : VK} (I : Inv X pins σ H ⟨hp, g, d, tk, os⟩) (ha : hp.objs.size ≤ a) (hd : hp.objs.size ≤ dx) (ne : dx ≠ a)
    (k : ∀ b o, hp.get? b = some o → h'.get? b = some o) (hx : h'.get? a = some ({ cls := .ref C, dict := some dx, data := .fields #[.ref t1, .none, .none, .none, .bool false, .none] } : Obj)) (hn : h'.Ns1 dx mA) (r : ∀ f, RelO (fs.lookup f) (mA f))
    (q : Q (.ref a) (upd (upd H dx (exd dx fs)) a (exo a C (some dx)))) : EP X pins σ Q (.ref a) ⟨h', g, d, tk', os⟩ := by
  have na : H a = none := I.hok.fresh ha
  obtain ⟨G, g1, g2⟩ := restrict h' fun b => decide (b ≠ a)
  have gk : ∀ b, b ≠ a → G.get? b = h'.get? b := fun b hb => g1 b (decide_eq_true hb)
  have ge : G.get? a = none := g2 a (by simp)
  have old : ∀ b o, hp.get? b = some o → G.get? b = some o := fun b o e => (gk b (Nat.ne_of_lt (Nat.lt_of_lt_of_le (Heap.lt_size e) ha))).trans (k b o e)
  have up : ∀ b o, G.get? b = some o → h'.get? b = some o := fun b o e => by
    by_cases hb : b = a
    · rw [hb, ge] at e; cases e
    · rw [← gk b hb]; exact e
  have J : Inv X pins σ (upd H dx (exd dx fs)) ⟨G, g, d, tk', os⟩ := I.laid (t' := tk') old hd (exd_ok (hn.at fun o e => (gk dx ne).trans e) r)
  exact ⟨.ref a, _, J.laidN (t' := tk') up ge (by rw [upd_ne (Ne.symm ne)]; exact na) (exo_ok hx), rfl, q⟩
/-- the call of such a class, one field -/
theorem run_sup1 {f : Str} {us : List Value} {kw : List (Str × Value)} {v : Value} {y : V} {Q : VK} (T : SupT X.prog X.K R C st [f]) (I : Inv X pins σ H s) (hm : X.mg "super" = none) (hr : Room 2 X.A) (hb : SupB st [f] us kw [v]) (hus : us.length ≤ 1000) (ry : RelV y v)
    (shape : ∃ txt j q0 q1 q2 q3 q4 q5 r0 r1 r2 r3, defBody st = [supSt txt j q0 q1 q2 q3 q4 q5, fldSt f r0 r1 r2 r3] ∧ (q2.endLine == q4.line) = true) (hf : f ≠ "self") (hdb : (f == ("__debug__" : Str)) = false)
    (q : ∀ a dx, H a = none → H dx = none → dx ≠ a → Q (.ref a) (upd (upd H dx (exd dx [(f, y)])) a (exo a C (some dx)))) :
    wpAny (model X.prog X.w) X.A (call (.ref C) us kw) (EP X pins σ Q) X.xe s := by
  obtain ⟨fI, cda, cc, qual, doc, pm, ct, an, Tc, hcd, hi, ht⟩ := T.c
  obtain ⟨txt, j, q0, q1, q2, q3, q4, q5, r0, r1, r2, r3, eb, hl⟩ := shape
  obtain ⟨nm, qn, N, bs, sn, sub, ab, col, dd, k0, k1, k2, k3, k5, hC⟩ := T.err.cls
  obtain ⟨mb, G⟩ := supG_of I hm T.top
  have lim := I.nolimit
  have KX := I.kIn
  obtain ⟨hp, g, d, tk, os⟩ := s
  have kk : ∀ b o, hp.get? b = some o → ((hp.push (PySem.W.kdv_tup us)).push (excO C hp.objs.size)).get? b = some o := fun b o e => Heap.get?_push_of_some _ (Heap.get?_push_of_some _ e)
  have hget : ((hp.push (PySem.W.kdv_tup us)).push (excO C hp.objs.size)).get? (hp.objs.size + 1) = some (excO C hp.objs.size) := by heap_get
  have hnx : X.K.lookup (hp.objs.size + 1) = none := by
    cases e : X.K.lookup (hp.objs.size + 1) with
    | none => rfl
    | some o => exact absurd (Nat.lt_of_succ_lt (Heap.lt_size (KX _ _ e))) (Nat.lt_irrefl _)
  refine wpAny_call (callK_own PySem.F.excBase_ValueError (fun Y => PySem.HandSPX.refsVE_contains Y _ (bmOf_ok R C)) (KX _ _ hC) (PySem.W.looks_findIn KX hi) (fun self => PySem.W.bind_fn KX self ht) (by rw [sizeLine_eq]; omega) ?_)
  unfold SupB at hb
  rw [eb] at Tc hb
  refine sup_init1 (t0 := hp.objs.size) Tc ⟨T.err.sa, T.no⟩ hcd (PySem.W.Frag.In.keeps KX kk) (G.keeps kk) (lim.keeps kk) hget hnx (by show X.A.depth + 1 < recursionLimit; have := hr.dp; omega) hl hf hdb (.of_eq (hb qual doc pm ct an cda cc _)) ?_
  intro h' tk' dx t1 k' hdx dne hx hn
  have ha : hp.objs.size ≤ hp.objs.size + 1 := Nat.le_succ _
  have sz : hp.objs.size ≤ dx := Nat.le_trans (by rw [Heap.size_push, Heap.size_push]; omega) hdx
  exact ⟨rfl, supEnd I ha sz dne (fun b o e => k' b o (Nat.ne_of_lt (Nat.lt_succ_of_lt (Heap.lt_size e))) (kk b o e)) hx hn (relO_put ry fun g => by trivial) (q _ _ (I.hok.fresh ha) (I.hok.fresh sz) dne)⟩
/-- two fields -/
theorem run_sup2 {f f2 : Str} {us : List Value} {kw : List (Str × Value)} {v v2 : Value} {y y2 : V} {Q : VK} (T : SupT X.prog X.K R C st [f, f2]) (I : Inv X pins σ H s) (hm : X.mg "super" = none) (hr : Room 2 X.A) (hb : SupB st [f, f2] us kw [v, v2]) (hus : us.length ≤ 1000) (ry : RelV y v) (ry2 : RelV y2 v2)
    (shape : ∃ txt j q0 q1 q2 q3 q4 q5 r0 r1 r2 r3 u0 u1 u2 u3, defBody st = [supSt txt j q0 q1 q2 q3 q4 q5, fldSt f r0 r1 r2 r3, fldSt f2 u0 u1 u2 u3] ∧ (q2.endLine == q4.line) = true) (hf : f ≠ "self") (hf2 : f2 ≠ "self") (hff : f ≠ f2) (hdb : (f == ("__debug__" : Str)) = false) (hdb2 : (f2 == ("__debug__" : Str)) = false)
    (q : ∀ a dx, H a = none → H dx = none → dx ≠ a → Q (.ref a) (upd (upd H dx (exd dx [(f2, y2), (f, y)])) a (exo a C (some dx)))) :
    wpAny (model X.prog X.w) X.A (call (.ref C) us kw) (EP X pins σ Q) X.xe s := by
  obtain ⟨fI, cda, cc, qual, doc, pm, ct, an, Tc, hcd, hi, ht⟩ := T.c
  obtain ⟨txt, j, q0, q1, q2, q3, q4, q5, r0, r1, r2, r3, u0, u1, u2, u3, eb, hl⟩ := shape
  obtain ⟨nm, qn, N, bs, sn, sub, ab, col, dd, k0, k1, k2, k3, k5, hC⟩ := T.err.cls
  obtain ⟨mb, G⟩ := supG_of I hm T.top
  have lim := I.nolimit
  have KX := I.kIn
  obtain ⟨hp, g, d, tk, os⟩ := s
  have kk : ∀ b o, hp.get? b = some o → ((hp.push (PySem.W.kdv_tup us)).push (excO C hp.objs.size)).get? b = some o := fun b o e => Heap.get?_push_of_some _ (Heap.get?_push_of_some _ e)
  have hget : ((hp.push (PySem.W.kdv_tup us)).push (excO C hp.objs.size)).get? (hp.objs.size + 1) = some (excO C hp.objs.size) := by heap_get
  have hnx : X.K.lookup (hp.objs.size + 1) = none := by
    cases e : X.K.lookup (hp.objs.size + 1) with
    | none => rfl
    | some o => exact absurd (Nat.lt_of_succ_lt (Heap.lt_size (KX _ _ e))) (Nat.lt_irrefl _)
  refine wpAny_call (callK_own PySem.F.excBase_ValueError (fun Y => PySem.HandSPX.refsVE_contains Y _ (bmOf_ok R C)) (KX _ _ hC) (PySem.W.looks_findIn KX hi) (fun self => PySem.W.bind_fn KX self ht) (by rw [sizeLine_eq]; omega) ?_)
  unfold SupB at hb
  rw [eb] at Tc hb
  refine sup_init2 (t0 := hp.objs.size) Tc ⟨T.err.sa, T.no⟩ hcd (PySem.W.Frag.In.keeps KX kk) (G.keeps kk) (lim.keeps kk) hget hnx (by show X.A.depth + 1 < recursionLimit; have := hr.dp; omega) hl hf hf2 hff hdb hdb2 (.of_eq (hb qual doc pm ct an cda cc _)) ?_
  intro h' tk' dx t1 k' hdx dne hx hn
  have ha : hp.objs.size ≤ hp.objs.size + 1 := Nat.le_succ _
  have sz : hp.objs.size ≤ dx := Nat.le_trans (by rw [Heap.size_push, Heap.size_push]; omega) hdx
  exact ⟨rfl, supEnd I ha sz dne (fun b o e => k' b o (Nat.ne_of_lt (Nat.lt_succ_of_lt (Heap.lt_size e))) (kk b o e)) hx hn (relO_put ry2 (relO_put ry fun g => by trivial)) (q _ _ (I.hok.fresh ha) (I.hok.fresh sz) dne)⟩

end
section
variable {X : Cx} {R C : Addr} {st : Stmt} {f f2 x : Str} {p pos : Pos} {e : Expr} {es : List Expr} {kws : List Keyword} {ta tk : TA}
/-- C(v), C(v, v2), C(f = v), C(f = v, f2 = v2): the fields' values in their order by sel -/
def tMkS (C : Addr) (ta : TA) (mk : List V → Option (List (Str × V))) : TE := fun σ H Q => ta σ H fun vs H1 => ∃ fs, mk vs = some fs ∧ ∀ a dx, H1 a = none → H1 dx = none → dx ≠ a → Q (.ref a) (upd (upd H1 dx (exd dx fs)) a (exo a C (some dx)))
def mk1 (f : Str) : List V → Option (List (Str × V)) | [y] => some [(f, y)] | _ => none
def mk2 (f f2 : Str) : List V → Option (List (Str × V)) | [y, y2] => some [(f2, y2), (f, y)] | _ => none
/-- the other way round: C(f2 = v2, f = v) -/
def mk2r (f f2 : Str) : List V → Option (List (Str × V)) | [y2, y] => some [(f2, y2), (f, y)] | _ => none
def Shape1 (st : Stmt) (f : Str) : Prop := ∃ txt j q0 q1 q2 q3 q4 q5 r0 r1 r2 r3, defBody st = [supSt txt j q0 q1 q2 q3 q4 q5, fldSt f r0 r1 r2 r3] ∧ (q2.endLine == q4.line) = true
def Shape2 (st : Stmt) (f f2 : Str) : Prop := ∃ txt j q0 q1 q2 q3 q4 q5 r0 r1 r2 r3 u0 u1 u2 u3, defBody st = [supSt txt j q0 q1 q2 q3 q4 q5, fldSt f r0 r1 r2 r3, fldSt f2 u0 u1 u2 u3] ∧ (q2.endLine == q4.line) = true
theorem pe_mkS1 (T : SupT X.prog X.K R C st [f]) (sh : Shape1 st f) (hb : ∀ v, SupB st [f] [v] [] [v]) (hf : f ≠ "self") (hdf : (f == ("__debug__" : Str)) = false) (hs : X.mg "super" = none) (hr : Room 2 X.A) (gC : X.mg x = some (.ref C)) (hg : Gl X x) (ha : PA X (e :: es) ta) (hdb : (x == ("__debug__" : Str)) = false := by decide)
    (he : starEach (e :: es) X.env = (false, eval e X.env) :: starEach es X.env := by rfl) (hpl : (backTo pos (starEach es X.env)).any (·.1) = false := by rfl) : PE X (.Call (.Name x p) (e :: es) [] pos) (tMkS C ta (mk1 f)) := by
  refine ⟨fun pins s σ H Q I h => wpAny_Call_Name_kw (ld_glob I hg gC ?_ hdb)⟩
  refine PySem.W.callWith_K (h₀ := X.base) I.ok.mod.kin T.err.kp (thn (ha.run pos pins s σ H _ I h) fun us s1 ⟨vs, H1, I1, r1, fs, ef, q1⟩ => ⟨I1.kIn, ?_⟩) he hpl
  cases r1 with
  | nil => cases ef
  | cons ry rr =>
    cases rr with
    | nil =>
      cases ef
      exact run_sup1 T I1 hs hr (hb _) (by show 1 ≤ 1000; decide) ry sh hf hdf q1
    | cons _ _ => cases ef
theorem pe_mkS2 (T : SupT X.prog X.K R C st [f, f2]) (sh : Shape2 st f f2) (hb : ∀ v v2, SupB st [f, f2] [v, v2] [] [v, v2]) (hf : f ≠ "self") (hf2 : f2 ≠ "self") (hff : f ≠ f2) (hdf : (f == ("__debug__" : Str)) = false) (hdf2 : (f2 == ("__debug__" : Str)) = false) (hs : X.mg "super" = none) (hr : Room 2 X.A) (gC : X.mg x = some (.ref C)) (hg : Gl X x) (ha : PA X (e :: es) ta) (hdb : (x == ("__debug__" : Str)) = false := by decide)
    (he : starEach (e :: es) X.env = (false, eval e X.env) :: starEach es X.env := by rfl) (hpl : (backTo pos (starEach es X.env)).any (·.1) = false := by rfl) : PE X (.Call (.Name x p) (e :: es) [] pos) (tMkS C ta (mk2 f f2)) := by
  refine ⟨fun pins s σ H Q I h => wpAny_Call_Name_kw (ld_glob I hg gC ?_ hdb)⟩
  refine PySem.W.callWith_K (h₀ := X.base) I.ok.mod.kin T.err.kp (thn (ha.run pos pins s σ H _ I h) fun us s1 ⟨vs, H1, I1, r1, fs, ef, q1⟩ => ⟨I1.kIn, ?_⟩) he hpl
  cases r1 with
  | nil => cases ef
  | cons ry rr =>
    cases rr with
    | nil => cases ef
    | cons ry2 rr =>
      cases rr with
      | nil =>
        cases ef
        exact run_sup2 T I1 hs hr (hb _ _) (by show 2 ≤ 1000; decide) ry ry2 sh hf hf2 hff hdf hdf2 q1
      | cons _ _ => cases ef
/-- C(f = v) -/
theorem pe_mkK1 (T : SupT X.prog X.K R C st [f]) (sh : Shape1 st f) (hb : ∀ v, SupB st [f] [] [(f, v)] [v]) (hf : f ≠ "self") (hdf : (f == ("__debug__" : Str)) = false) (hs : X.mg "super" = none) (hr : Room 2 X.A) (gC : X.mg x = some (.ref C)) (hg : Gl X x) (hkw : PK X kws tk)
    (hall : (backToKw pos (keywordEach kws X.env)).all (·.1.isSome) = true := by rfl) (hks : (backToKw pos (keywordEach kws X.env)).filterMap (·.1) = [f] := by rfl) (hdb : (x == ("__debug__" : Str)) = false := by decide)
    (hpl : ((backTo pos (starEach [] X.env)).any (·.1) || (backToKw pos (keywordEach kws X.env)).any (·.1.isNone)) = false := by rfl) : PE X (.Call (.Name x p) [] kws pos) (tMkS C tk (mk1 f)) := by
  refine ⟨fun pins s σ H Q I h => wpAny_Call_Name_kw (ld_glob I hg gC ?_ hdb)⟩
  refine PySem.W.callWith_KW0 (h₀ := X.base) I.ok.mod.kin T.err.kp hall (thn (hkw.run pos pins s σ H _ I h) fun us s1 ⟨vs, H1, I1, r1, fs, ef, q1⟩ => ⟨I1.kIn, ?_⟩) hpl
  rw [hks]
  cases r1 with
  | nil => cases ef
  | cons ry rr =>
    cases rr with
    | nil =>
      cases ef
      exact run_sup1 T I1 hs hr (hb _) (by show 0 ≤ 1000; decide) ry sh hf hdf q1
    | cons _ _ => cases ef
/-- C(f2 = v2, f = v) -/
theorem pe_mkK2 (T : SupT X.prog X.K R C st [f, f2]) (sh : Shape2 st f f2) (hb : ∀ v v2, SupB st [f, f2] [] [(f2, v2), (f, v)] [v, v2]) (hf : f ≠ "self") (hf2 : f2 ≠ "self") (hff : f ≠ f2) (hdf : (f == ("__debug__" : Str)) = false) (hdf2 : (f2 == ("__debug__" : Str)) = false) (hs : X.mg "super" = none) (hr : Room 2 X.A) (gC : X.mg x = some (.ref C)) (hg : Gl X x) (hkw : PK X kws tk)
    (hall : (backToKw pos (keywordEach kws X.env)).all (·.1.isSome) = true := by rfl) (hks : (backToKw pos (keywordEach kws X.env)).filterMap (·.1) = [f2, f] := by rfl) (hdb : (x == ("__debug__" : Str)) = false := by decide)
    (hpl : ((backTo pos (starEach [] X.env)).any (·.1) || (backToKw pos (keywordEach kws X.env)).any (·.1.isNone)) = false := by rfl) : PE X (.Call (.Name x p) [] kws pos) (tMkS C tk (mk2r f f2)) := by
  refine ⟨fun pins s σ H Q I h => wpAny_Call_Name_kw (ld_glob I hg gC ?_ hdb)⟩
  refine PySem.W.callWith_KW0 (h₀ := X.base) I.ok.mod.kin T.err.kp hall (thn (hkw.run pos pins s σ H _ I h) fun us s1 ⟨vs, H1, I1, r1, fs, ef, q1⟩ => ⟨I1.kIn, ?_⟩) hpl
  rw [hks]
  cases r1 with
  | nil => cases ef
  | cons ry2 rr =>
    cases rr with
    | nil => cases ef
    | cons ry rr =>
      cases rr with
      | nil =>
        cases ef
        exact run_sup2 T I1 hs hr (hb _ _) (by show 0 ≤ 1000; decide) ry ry2 sh hf hf2 hff hdf hdf2 q1
      | cons _ _ => cases ef
end
end Rx
namespace Rp
open PySem PySem.Spec PyProof.Rows L2 Rg
/-- data that a text can be made of -/
structure Sh (d : PyData) : Prop where
  sh : d.showable = true
  nd : d.hasDict = false
  dp : d.depth ≤ 60
  sz : d.shown.length ≤ sizeLine
def rRepr (K : PySem.W.Frag) : List V → Hp → VK → Prop := fun xs H Q => ∃ v d, xs = [v] ∧ Dp K H v d ∧ Sh d ∧ Q (.str d.shown) H
section
variable {X : Cx}
theorem call_repr {k : Nat} (hgd : X.A.guards = some []) (hr : Room k X.A) : CallR X (.builtin "repr") (rRepr X.K) := by
  intro pins s σ H xs us Q I r h
  obtain ⟨v, d, rfl, hd, S, q⟩ := h
  cases r with
  | cons rv rr =>
    cases rr
    rename_i u
    have hu := hr.units
    obtain ⟨as, rd⟩ := Dp.reads I d v u hd rv
    have fin : ∀ h' (t : Tok) tk, (∀ b o, s.heap.get? b = some o → h'.get? b = some o) → EP X pins σ Q (.str d.shown t) { s with heap := h', toks := tk } := fun h' t tk k => ⟨.str d.shown, H, I.kept (t' := tk) k, ⟨t, rfl⟩, q⟩
    have ref : ∀ a, u = .ref a → wpAny (model X.prog X.w) X.A (call (.builtin "repr") [u]) (EP X pins σ Q) X.xe s := fun a e => by
      subst e
      exact repr_of_reads' rd S.sh (PyData.noDict_hsm S.nd) hgd (by have := S.dp; omega) (fun _ _ e => e) (fun h' t tk k => fin h' t tk k) S.sz
    cases hd with
    | non => cases rv; exact PySem.P.repr_of_none (fin s.heap _ _ fun _ _ e => e)
    | bl b => cases rv; exact PySem.P.repr_of_bool (fin s.heap _ _ fun _ _ e => e)
    | int i =>
      obtain ⟨t, rfl⟩ := rv
      exact PySem.P.repr_of_int (by simpa [PyData.showable] using S.sh) (fin s.heap _ _ fun _ _ e => e)
    | str z =>
      obtain ⟨t, rfl⟩ := rv
      exact PySem.P.repr_of_str (fin s.heap _ _ fun _ _ e => e) (by simpa only [PyData.shown] using S.sz)
    | lst _ _ => exact ref _ rv
    | tup _ _ => exact ref _ rv
end
/-- the script at a, in a heap that knows nothing else -/
def onlyH (a : Addr) (o : Obj) (ns : List Int) : Hp := fun b => if b = a then some (.frz o (.lst (ns.map V.int))) else none
section
variable {P : Program} {w : World} {K : PySem.W.Frag} {mg mb : Str → Option Value} {k : Nat} {fa a : Addr} {fd : FuncData} {x : Str} {sp : Sp} {s₁ : Shared} {vs : List Value} {ns : List Int} {CX : CXT}
theorem law_callG (KX : K.In s₁.heap) (hns : s₁.heap.Ns mainGlobals mg) (hb : s₁.heap.Ns builtinsNs mb) (hbb : ∀ x : Str, x ≠ "__name__" → mb x = bootBuiltins x) (hlim : s₁.heap.NoLimit) (hg : s₁.gens = #[])
    (ha : s₁.heap.get? a = some { cls := .type "list", data := .seq vs.toArray }) (hi : IntsAre vs ns) (hl : ns.length ≤ sizeLine) (hr : Room k callerA)
    (F : ∀ base : Heap, K.In base → base.Ns mainGlobals mg → FnG P w K mg base CX k fa fd [x] sp) (hbind : ∀ (s : Shared) (u : Value), BindsTo s fd ⟨[u], []⟩ [(x, u)])
    (hsp : ∀ H : Hp, Only H → SqL K H a (ns.map V.int) → sp [.ref a] H (fun v _ => v = .bl true) fun _ _ _ => False) (hCX : ∀ H e s', CX [] H s₁ (fun _ _ _ => False) e s' → False) :
    codeAny (model P w) callerA (.call (.ref fa) ⟨[.ref a], []⟩) (fun r s' => r = .ok (.ret (.bool true)) ∧ OldK s₁.heap s'.heap ∧ s'.os = s₁.os ∧ AllBare s'.gens) s₁ := by
  -- what is hidden from the base is at most the script
  have main : ∀ H : Hp, Only H → SqL K H a (ns.map V.int) → HOk P w H s₁.heap → (∀ b, H b ≠ none → b = a ∧ K.lookup a = none) →
      codeAny (model P w) callerA (.call (.ref fa) ⟨[.ref a], []⟩) (fun r s' => r = .ok (.ret (.bool true)) ∧ OldK s₁.heap s'.heap ∧ s'.os = s₁.os ∧ AllBare s'.gens) s₁ := by
    intro H hO hS hok hA
    have nodict : ∀ {b : Addr} {o : Obj} {es : Array DictEntry} {ep : Nat}, s₁.heap.get? b = some o → o.data = .dict es ep → H b = none := by
      intro b o es ep e d
      refine Classical.byContradiction fun n => ?_
      obtain ⟨rfl, _⟩ := hA b n
      rw [ha] at e
      cases e
      cases (show Data.seq vs.toArray _ = Data.dict es ep from d)
    have ns' : ∀ {b : Addr} {m : Str → Option Value}, s₁.heap.Ns b m → (hidT s₁.heap H).Ns b m := fun ⟨o, es, ep, e, d, r⟩ => ⟨o, es, ep, hidT_get e (nodict e d), d, r⟩
    have KB : K.In (hidT s₁.heap H) := fun b o e => hidT_get (KX b o e) (Classical.byContradiction fun n => by
      obtain ⟨rfl, z⟩ := hA b n
      rw [z] at e
      cases e)
    obtain ⟨mc, l1, l2⟩ := hlim
    have e0 : Env0 P w K mg (hidT s₁.heap H) callerA [] s₁ H := ⟨rfl, ⟨KB, ns' hns, ⟨mb, ns' hb, hbb⟩, ⟨mc, ns' l1, l2⟩⟩, fun b o e => of_hidT e, Nat.le_of_eq (hidT_size _ _), trivial, (fun b hb => absurd (show b ∈ ([] : List Addr) from hb) (by simp)), hok, .of_eq hg⟩
    refine codeAny_mono ((F _ KB (ns' hns)).run callerA [] s₁ H ⟨[.ref a], []⟩ [.ref a] [.ref a] _ _ rfl hr e0 (hbind s₁ (.ref a)) (.cons rfl .nil) (hsp H hO hS)) fun r s' h => ?_
    match r, h with
    | .error e, h => exact (hCX H e s' h).elim
    | .ok .next, h => exact h.elim
    | .ok .brk, h => exact h.elim
    | .ok .cont, h => exact h.elim
    | .ok (.ret u), ⟨v, H', os, bare, un, hok', rv, q⟩ =>
      have qv : v = .bl true := q
      subst qv
      cases (show u = Value.bool true from rv)
      refine ⟨rfl, OldK.of_keep fun b o e => ?_, os, bare⟩
      rcases hO b with z | ⟨ob, xs, z⟩
      · exact un.keep b o e z (fun y => absurd (show b ∈ ([] : List Addr) from y) (by simp)) (by simp)
      · obtain ⟨e1, _⟩ := hok b _ z
        obtain ⟨e2, _⟩ := hok' b _ (un.frzs b ob _ z)
        exact e2.trans (e1.symm.trans e)
  cases hk : K.lookup a with
  | some o =>
    have e := KX a o hk
    rw [ha] at e
    cases e
    exact main (fun _ => none) (fun _ => .inl rfl) (.inr ⟨_, vs.toArray, _, hk, rfl, rfl, rfl, by rw [List.size_toArray, hi.length]; exact hl, by simpa using vals_ints hi⟩) (fun b u z => by have z' : (none : Option HO) = some u := z; cases z') fun b z => absurd rfl z
  | none =>
    have at_ : onlyH a { cls := .type "list", data := .seq vs.toArray } ns a = some (.frz { cls := .type "list", data := .seq vs.toArray } (.lst (ns.map V.int))) := if_pos rfl
    have no : ∀ {b}, b ≠ a → onlyH a { cls := .type "list", data := .seq vs.toArray } ns b = none := fun h => if_neg h
    refine main (onlyH a { cls := .type "list", data := .seq vs.toArray } ns) (fun b => ?_) (.inl (.inr ⟨_, at_⟩)) (fun b u z => ?_) fun b z => ⟨Classical.byContradiction fun n => z (no n), hk⟩
    · by_cases hb : b = a
      · exact .inr ⟨_, _, by rw [hb]; exact at_⟩
      · exact .inl (no hb)
    · by_cases hb : b = a
      · subst hb
        rw [at_] at z
        cases z
        exact ⟨ha, by rw [List.length_map]; exact hl, vs, _, vals_ints hi, ha⟩
      · rw [no hb] at z
        cases z
end
/-- the goal of a head by facts -/
theorem walk_G {l : PySem.W.OpenLaw} {n k : Nat} {q : Program} {loose : List Str} {XP : (Str → Option Value) → Heap → Prop} {YP : World → Heap → Prop} {d : DefRec} {CX : CXT} {x : Str}
    (hn : l.most = some n) (hn2 : n ≤ sizeLine) (hdf : d.params.defaults = []) (hr : Room k callerA)
    (F : ∀ (w : World) (mg : Str → Option Value) (fa : Addr) (h : Heap), YP w h → h.Ns mainGlobals mg → mg d.name = some (.ref fa) →
      ∃ (K : PySem.W.Frag) (fd : FuncData) (sp : Sp), K.In h ∧ (∀ (s : Shared) (u : Value), BindsTo s fd ⟨[u], []⟩ [(x, u)]) ∧
        (∀ (H : Hp) (a : Addr) (ns : List Int), ns.length ≤ n → Only H → SqL K H a (ns.map V.int) → sp [.ref a] H (fun v _ => v = .bl true) fun _ _ _ => False) ∧
        ∀ base : Heap, K.In base → base.Ns mainGlobals mg → FnG l.prog w K mg base CX k fa fd [x] sp)
    (hCX : ∀ (H : Hp) (s : Shared) (e : Value) (s' : Shared), CX [] H s (fun _ _ _ => False) e s' → False) :
    PySem.W.WalkO q loose XP YP l.row.toRowW d [] (fun f vs => PySem.call f vs) :=
  Att.attach_call hn hdf fun w s₀ s₁ mg mb fa o pm cd doc a vs ns G Y ho hd hcd hmg hobj hints hlen hg =>
    let ⟨K, fd, sp, KX, hb, hsp, hF⟩ := F w mg fa _ Y G.T.g hmg
    law_callG KX G.T.g G.T.b G.T.builtins G.T.nolimit hg hobj hints (Nat.le_trans hlen hn2) hr hF hb (fun H hO hS => hsp H a ns hlen hO hS) fun H e s' => hCX H s₁ e s'
end Rp
namespace Rh
open PySem PySem.Spec PyProof.Rows L2
theorem cellB_ok {K : PySem.W.Frag} {cl : List (Str × Addr)} {C : Addr} (h : cellB K cl C = true) : ∃ cc, cl = [(PySem.Str.ofString "__class__", cc)] ∧ ∃ cl cld csl, K.lookup cc = some ⟨cl, cld, .cell (some (.ref C)), csl⟩ := by
  unfold cellB at h
  split at h
  · rename_i n cc
    obtain ⟨h1, h2⟩ := He.ba h
    have e := of_decide_eq_true h1
    subst e
    split at h2
    · rename_i a b D c q
      have e := of_decide_eq_true h2
      subst e
      exact ⟨cc, rfl, _, _, _, q⟩
    · cases h2
  · cases h
theorem fileB_ok {K : PySem.W.Frag} {cd : Value} {file : Str} (h : fileB K cd file = true) : ∃ cda, cd = .ref cda ∧ ∃ ccl cdd ccs vs z tf, K.lookup cda = some ⟨ccl, cdd, .fields vs, ccs⟩ ∧ vs[2]? = some (.str z tf) ∧ (file == z) = true := by
  unfold fileB at h
  split at h
  · rename_i cda
    split at h
    · rename_i a b vs c q
      split at h
      · rename_i z t qv
        have e := of_decide_eq_true h
        subst e
        exact ⟨cda, rfl, a, b, c, vs, _, t, q, qv, by simp⟩
      · cases h
    · cases h
  · cases h
theorem SupD.supT {prog : Program} {K : PySem.W.Frag} {R : Addr} {d : SupD} (e : fnS K d.name = d.val) (c : d.ok prog.main.file K R = true) (opq : PySem.W.nsIn K cStatics "thirdparty.any" = some none)
    (self : ∃ ar, ((defArgs d.st).posonlyargs ++ (defArgs d.st).args).head? = some ar ∧ ar.arg = "self") (ks : (Rx.supSc d.ps).names.lookup ("super" : Str) = some .globalImplicit) (kc : (Rx.supSc d.ps).names.lookup ("__class__" : Str) = some .free)
    (top : (prog.main.scope.names.lookup ("super" : Str)).isSome = false) : Rx.SupT prog K R (He.ga K d.name) d.st d.ps := by
  unfold SupD.ok at c
  obtain ⟨c, c6⟩ := He.ba c
  obtain ⟨c, c5⟩ := He.ba c
  obtain ⟨c, c4⟩ := He.ba c
  obtain ⟨c, c3⟩ := He.ba c
  obtain ⟨c1, c2⟩ := He.ba c
  refine ⟨Rx.errB_ok c1, fun p hp => He.eqO_ok (List.all_eq_true.mp c2 p hp), He.eqO_ok c3, opq, ?_, self, ks, kc, top⟩
  unfold fnS at e
  cases q : K.lookup (He.ma K (He.ga K d.name) "__init__") with
  | none =>
    rw [q] at c6
    cases c6
  | some o =>
    obtain ⟨oc, od, dt, osl⟩ := o
    rw [q] at c6 e
    cases dt with
    | func fd =>
      obtain ⟨n1, n2, n3, n4, n5, n6, n7, n8, n9, n10, n11, n12, n13, n14, n15⟩ := fd
      have e2 : (some (n1, n3, n4, n5, n6, n15) : FnS) = some (PySem.Str.ofString "__init__", defArgs d.st, FuncBody.stmts (defBody d.st), Rx.supSc d.ps, mainGlobals, builtinsNs) := e
      simp only [Option.some.injEq, Prod.mk.injEq] at e2
      obtain ⟨h1, h3, h4, h5, h6, h15⟩ := e2
      subst h1 h3 h4 h5 h6 h15
      obtain ⟨c6, c9⟩ := He.ba c6
      obtain ⟨c6, c8⟩ := He.ba c6
      obtain ⟨c6, cC⟩ := He.ba c6
      obtain ⟨cD, cK⟩ := He.ba c6
      have dD : n8 = .none := by cases n8 <;> first | rfl | cases cD
      have dK : n9 = .none := by cases n9 <;> first | rfl | cases cK
      subst dD dK
      obtain ⟨cc, e7, hc⟩ := cellB_ok (show cellB K n7 (He.ga K d.name) = true from c8)
      obtain ⟨cda, e13, hf⟩ := fileB_ok (show fileB K n13 prog.main.file = true from c9)
      subst e7 e13
      exact ⟨_, cda, cc, n2, n10, n11, n14, n12, oc, od, osl, q, cC, He.eqO_ok c4, of_decide_eq_true c5, hf, hc⟩
    | _ => cases c6

/-- the part that is looked at -/
def part (F : Facts) (g : Addr → Option Obj) : PySem.W.Frag := He.frG g (cStatics :: F.ads g)
def chk (F : Facts) (K : PySem.W.Frag) : Bool :=
  (F.free.all (freeB K) && ((F.numb.all fun q => (He.Fa.int q.1 q.2).ok K) && He.eqO (PySem.W.nsIn K cStatics "thirdparty.any") (some none))) &&
  ((F.errs.all fun x => gloB K x && Rx.errB K (He.ga K "RunError") (He.ga K x)) && ((F.plain.all fun x => PySem.W.excIn K (He.ga K x) PySem.HandSPX.veTail "ValueError.__new__") && (decide ((F.errs.map (He.ga K)).Nodup) && F.sups.all fun d => d.ok F.file K (He.ga K "RunError")))) &&
  ((F.defs.all fun d => gloB K d.name && d.ok K) && F.more K)
abbrev AlA : Type := Bool × List He.FnW × List FnS
def obsA (F : Facts) (K : PySem.W.Frag) : AlA := (chk F K, F.defs.map fun d => He.fnW K d.at_, F.sups.map fun d => fnS K d.name)
def valA (F : Facts) : AlA := (true, F.defs.map He.DefD.val, F.sups.map SupD.val)
def Says (F : Facts) (K : PySem.W.Frag) : Prop := obsA F K = valA F
def obsG (F : Facts) (g : Addr → Option Obj) : AlA := obsA F (part F g)
theorem part_in {F : Facts} {h : Heap} : (part F h.get?).In h := He.frG_in
def hook (F : Facts) : PySem.W.Hook where
  α := AlA
  obs := fun s => obsG F s.heap.get?
  val := fun _ => valA F
  says := fun _ h => ∃ K : PySem.W.Frag, K.In h ∧ Says F K
  of := fun _ _ e => ⟨_, part_in, e⟩
  keeps := fun _ _ _ ⟨K, hK, c⟩ k => ⟨K, PySem.W.Frag.In.keeps hK k, c⟩
theorem obsG_eq {F : Facts} {g : Addr → Option Obj} {s : Shared} (h : ∀ a, g a = s.heap.get? a) : obsG F g = (hook F).obs s := by
  have e : g = s.heap.get? := funext h
  rw [e]
  rfl
section
variable {F : Facts} {K : PySem.W.Frag} {h : Heap} {mg : Str → Option Value}
theorem Says.chk (c : Says F K) : chk F K = true := congrArg (fun z : AlA => z.1) c
theorem Says.free (c : Says F K) (X : K.In h) (G : h.Ns mainGlobals mg) {x : Str} (hx : x ∈ F.free) : mg x = none :=
  PySem.W.mg_none_of X G (He.eqO_ok (List.all_eq_true.mp (He.ba (He.ba (He.ba c.chk).1).1).1 x hx))
theorem Says.int (c : Says F K) (X : K.In h) (G : h.Ns mainGlobals mg) {x : Str} {i : Int} (hx : (x, i) ∈ F.numb) : ∃ t, mg x = some (.int i t) :=
  He.int_ok X G (List.all_eq_true.mp (He.ba (He.ba (He.ba (He.ba c.chk).1).1).2).1 _ hx)
theorem Says.opq (c : Says F K) : PySem.W.nsIn K cStatics "thirdparty.any" = some none := He.eqO_ok (He.ba (He.ba (He.ba (He.ba c.chk).1).1).2).2
theorem Says.err (c : Says F K) {x : Str} (hx : x ∈ F.errs) : Rx.ErrC K (He.ga K "RunError") (He.ga K x) := Rx.errB_ok (He.ba (List.all_eq_true.mp (He.ba (He.ba (He.ba c.chk).1).2).1 x hx)).2
theorem Says.errG (c : Says F K) (X : K.In h) (G : h.Ns mainGlobals mg) {x : Str} (hx : x ∈ F.errs) : mg x = some (.ref (He.ga K x)) :=
  PySem.W.mg_of X G (He.eqO_ok (He.ba (List.all_eq_true.mp (He.ba (He.ba (He.ba c.chk).1).2).1 x hx)).1)
theorem Says.exc (c : Says F K) {x : Str} (hx : x ∈ F.plain) : PySem.W.excIn K (He.ga K x) PySem.HandSPX.veTail "ValueError.__new__" = true := List.all_eq_true.mp (He.ba (He.ba (He.ba (He.ba c.chk).1).2).2).1 x hx
theorem Says.nodup (c : Says F K) : (F.errs.map (He.ga K)).Nodup := of_decide_eq_true (He.ba (He.ba (He.ba (He.ba (He.ba c.chk).1).2).2).2).1
theorem Says.supB (c : Says F K) {d : SupD} (hd : d ∈ F.sups) : d.ok F.file K (He.ga K "RunError") = true := List.all_eq_true.mp (He.ba (He.ba (He.ba (He.ba (He.ba c.chk).1).2).2).2).2 d hd
theorem Says.defG (c : Says F K) (X : K.In h) (G : h.Ns mainGlobals mg) {d : He.DefD} (hd : d ∈ F.defs) : mg d.name = some (.ref (He.ga K d.name)) :=
  PySem.W.mg_of X G (He.eqO_ok (He.ba (List.all_eq_true.mp (He.ba (He.ba c.chk).2).1 d hd)).1)
theorem Says.more (c : Says F K) : F.more K = true := (He.ba (He.ba c.chk).2).2
theorem map_mem {α β : Type} {f g : α → β} : ∀ {l : List α}, l.map f = l.map g → ∀ a ∈ l, f a = g a
  | [], _, a, h => absurd h List.not_mem_nil
  | b :: l, e, a, h => by
    obtain ⟨e1, e2⟩ := List.cons.inj (show f b :: l.map f = g b :: l.map g from e)
    rcases List.mem_cons.mp h with z | z
    · rw [z]; exact e1
    · exact map_mem e2 a z
theorem Says.def_ (c : Says F K) {d : He.DefD} (hd : d ∈ F.defs) : ∃ fd, FunD K d.name d.qual d.params d.body d.scope (d.dvs K) (d.kws K) (He.fAd K d.at_) fd := by
  have e : F.defs.map (fun d => He.fnW K d.at_) = F.defs.map He.DefD.val := congrArg (fun z : AlA => z.2.1) c
  exact He.DefD.funD (map_mem e d hd) (He.ba (List.all_eq_true.mp (He.ba (He.ba c.chk).2).1 d hd)).2
theorem Says.sup_ (c : Says F K) {d : SupD} (hd : d ∈ F.sups) : fnS K d.name = d.val := by
  have e : F.sups.map (fun d => fnS K d.name) = F.sups.map SupD.val := congrArg (fun z : AlA => z.2.2) c
  exact map_mem e d hd
theorem Says.supT {prog : Program} (c : Says F K) {d : SupD} (hd : d ∈ F.sups) (hf : F.file = prog.main.file)
    (self : ∃ ar, ((defArgs d.st).posonlyargs ++ (defArgs d.st).args).head? = some ar ∧ ar.arg = "self") (ks : (Rx.supSc d.ps).names.lookup ("super" : Str) = some .globalImplicit) (kc : (Rx.supSc d.ps).names.lookup ("__class__" : Str) = some .free)
    (top : (prog.main.scope.names.lookup ("super" : Str)).isSome = false) : Rx.SupT prog K (He.ga K "RunError") (He.ga K d.name) d.st d.ps :=
  SupD.supT (c.sup_ hd) (hf ▸ c.supB hd) c.opq self ks kc top
end
end Rh
namespace Rk
open PySem PySem.W PySem.Calls PyProof.Rows HandSHeadRun
theorem prsL_ok : ∀ {l : List DictEntry} {ps : List (PySem.Str × Value)}, prsL l = some ps → (∀ e ∈ l, (match e.key with | .str _ _ => true | _ => false) = true) ∧ (l.filterMap fun e => match e.key with | .str n _ => some (n, e.val) | _ => none) = ps ∧ (l.filterMap fun e => match e.key with | .str n _ => some n | _ => none) = ps.map (·.1)
  | [], ps, h => by
    cases h
    exact ⟨(fun _ h => nomatch h), rfl, rfl⟩
  | e :: r, ps, h => by
    unfold prsL at h
    cases hk : e.key with
    | str x t =>
      rw [hk] at h
      dsimp only at h
      cases hr : prsL r with
      | none => rw [hr] at h; cases h
      | some l =>
        rw [hr] at h
        cases h
        obtain ⟨h1, h2, h3⟩ := prsL_ok hr
        refine ⟨fun y hy => ?_, ?_, ?_⟩
        · rcases List.mem_cons.mp hy with rfl | hy
          · rw [hk]
          · exact h1 y hy
        · rw [List.filterMap_cons, hk]
          dsimp only
          rw [h2]
        · rw [List.filterMap_cons, hk]
          dsimp only
          rw [h3]
          rfl
    | _ => rw [hk] at h; cases h
section
variable {h : Heap} {a : Addr} {ps : List (PySem.Str × Value)}
theorem prsO_ex (e : prsO (h.get? a) = some ps) : ∃ o es ep, h.get? a = some o ∧ o.data = .dict es ep ∧ prsL es.toList = some ps := by
  unfold prsO at e
  cases ho : h.get? a with
  | none => rw [ho] at e; cases e
  | some o =>
    rw [ho] at e
    dsimp only at e
    cases hd : o.data with
    | dict es ep => rw [hd] at e; exact ⟨o, es, ep, rfl, hd, e⟩
    | _ => rw [hd] at e; cases e
theorem isNs_of (e : prsO (h.get? a) = some ps) : h.isNs a = true := by
  obtain ⟨o, es, ep, ho, hd, hp⟩ := prsO_ex e
  unfold Heap.isNs
  rw [ho]; dsimp only; rw [hd]; dsimp only
  rw [Array.all_eq_true_iff_forall_mem]
  exact fun x hx => (prsL_ok hp).1 x (by simpa using hx)
theorem nsPairs_of (e : prsO (h.get? a) = some ps) : h.nsPairs a = ps := by
  obtain ⟨o, es, ep, ho, hd, hp⟩ := prsO_ex e
  unfold Heap.nsPairs
  rw [ho]; dsimp only; rw [hd]; dsimp only
  exact (prsL_ok hp).2.1
theorem nsKeys_of (e : prsO (h.get? a) = some ps) : h.nsKeys a = ps.map (·.1) := by
  obtain ⟨o, es, ep, ho, hd, hp⟩ := prsO_ex e
  unfold Heap.nsKeys
  rw [ho]; dsimp only; rw [hd]; dsimp only
  exact (prsL_ok hp).2.2
theorem nsMap_of (e : prsO (h.get? a) = some ps) (x : PySem.Str) : h.nsMap a x = ps.lookup x := by
  rw [Heap.nsMap_eq_lookup (isNs_of e), nsPairs_of e]
end
section
variable {h : Heap} {ps : List (PySem.Str × Value)}
theorem fnAt_of (e : prsO (h.get? mainGlobals) = some ps) (x : PySem.Str) : h.fnAt mainGlobals x = fnG h.get? ps x := by
  unfold Heap.fnAt fnG
  rw [nsMap_of e]
  rfl
theorem shape_of (e : prsO (h.get? mainGlobals) = some ps) (x : PySem.Str) : h.shapeAt mainGlobals x = shapeG h.get? ps x := by
  unfold Heap.shapeAt shapeG
  rw [fnAt_of e]
  rfl
theorem tab_of (e : prsO (h.get? mainGlobals) = some ps) (x : PySem.Str) : h.tab0Ok x = tabG h.get? ps x := by
  unfold Heap.tab0Ok tabG
  rw [fnAt_of e]
  rfl
theorem bmain_of (e : prsO (h.get? mainGlobals) = some ps) : h.bmainOk = bmainG h.get? ps := by
  unfold Heap.bmainOk bmainG
  rw [nsMap_of e]
  rfl
end
theorem looks_of {p : Program} {h0 : Heap} {s : Shared} {ps ps0 : List (PySem.Str × Value)} {keys : List PySem.Str} (g3 : prsO (s.heap.get? mainGlobals) = some ps) (g2 : prsO (s.heap.get? cStatics) = some []) (b3 : prsO (h0.get? mainGlobals) = some ps0) (b2 : prsO (h0.get? cStatics) = some [])
    (hk : ps.map (·.1) = keys) (kb : (keys.all fun k => startupNames.contains k || p.boundNames.contains k) = true) (gn : s.gens = #[]) (ld : (laidNames.map fun x => ps.lookup x) = laidNames.map fun x => ps0.lookup x) : looksF p h0 s = true := by
  have e1 : staticsOk (importedModules p.main.body) h0 s.heap = true := by
    unfold staticsOk
    rw [isNs_of b2, isNs_of g2, nsKeys_of b2, nsKeys_of g2]
    rfl
  have e2 : namesBound p s.heap = true := by
    unfold namesBound
    rw [isNs_of g3, nsKeys_of g3, hk]
    exact kb
  have e3 : gensDone s = true := by
    unfold gensDone
    rw [gn]
    rfl
  have e4 : laidKept h0 s.heap = true := by
    unfold laidKept
    rw [isNs_of b3, isNs_of g3]
    show (laidNames.all fun x => decide (s.heap.nsMap mainGlobals x = h0.nsMap mainGlobals x)) = true
    rw [List.all_eq_true]
    intro x hx
    rw [nsMap_of g3, nsMap_of b3]
    exact decide_eq_true (Rh.map_mem ld x hx)
  unfold looksF
  rw [e1, e2, e3, e4]
  rfl
theorem seen_of {p q : Program} {loose : List PySem.Str} {s : Shared} {ps psB psM : List (PySem.Str × Value)} {keys : List PySem.Str} {d : DefRec} {Xt : Shared → Bool}
    (g3 : prsO (s.heap.get? mainGlobals) = some ps) (g2 : prsO (s.heap.get? cStatics) = some []) (g0 : prsO (s.heap.get? builtinsNs) = some psB) (gm : prsO (s.heap.get? sysModules) = some psM) (hb : (psB.head?.map (·.1), psB.tail) = bltViewBooted) (hm : (psM.lookup (PySem.Str.ofString "_pylong")).isNone = true)
    (hk : ps.map (·.1) = keys) (gn : s.gens = #[]) (hr : recsOf q = [d]) (ho : ownsOf q = []) (hsh : shapeG s.heap.get? ps d.name = some d.shape) (htb : tabG s.heap.get? ps d.name = true) (hbm : bmainG s.heap.get? ps = true)
    (kk : (keys.all fun k => startupNames.contains k || (looseW q loose).contains k || [d.name].contains k || ((litsOf q).map (·.1)).contains k || ((clssOf q (looseW q loose)).map (·.name)).contains k) = true)
    (ht : ∀ s : Shared, tablesOk q s.heap = true) (hx : Xt s = true) (hv : ∀ s : Shared, valsOk q s.heap = true) (hl : ∀ s : Shared, (openSeen q loose [] Xt true s).2.2.2.2 = (openGood q loose).2.2.2.2) :
    openSeen q loose [] Xt true s = openGood q loose := by
  refine Prod.ext ?_ (Prod.ext ?_ (Prod.ext ?_ (Prod.ext ?_ (hl s))))
  · show seen ((recsOf q).map (·.name)) (ownsOf q) [] { s with gens := #[] } = expectedOf q
    unfold seen expectedOf
    rw [hr, ho]
    simp only [List.map_cons, List.map_nil, List.all_nil]
    have e1 : ({ s with gens := #[] } : Shared).heap = s.heap := rfl
    rw [e1, shape_of g3, hsh, isNs_of g3, isNs_of g0]
    have e2 : s.heap.noLimitOk = true := by
      unfold Heap.noLimitOk
      rw [isNs_of g2, nsMap_of g2]
      rfl
    have e3 : s.heap.noDigitsOk = true := by
      unfold Heap.noDigitsOk
      rw [isNs_of g2, nsMap_of g2]
      rfl
    rw [e2, e3]
    rfl
  · show s.heap.bltView = bltViewBooted
    unfold Heap.bltView
    rw [nsPairs_of g0]
    exact hb
  · show (s.heap.keysOk (looseW q loose) ((recsOf q).map (·.name)) ((litsOf q).map (·.1)) ((clssOf q (looseW q loose)).map (·.name)) && s.heap.accountedOkI [] && s.heap.isNs mainGlobals && s.heap.isNs builtinsNs && tablesOk q s.heap && Xt s && (if true = true then s.gens.size == 0 else !leftWithCleanup s.gens)) = true
    have e1 : s.heap.keysOk (looseW q loose) ((recsOf q).map (·.name)) ((litsOf q).map (·.1)) ((clssOf q (looseW q loose)).map (·.name)) = true := by
      unfold Heap.keysOk
      rw [nsKeys_of g3, hk, hr]
      exact kk
    have e2 : s.heap.accountedOkI [] = true := by
      unfold Heap.accountedOkI
      rw [isNs_of g2, nsKeys_of g2]
      rfl
    rw [e1, e2, isNs_of g3, isNs_of g0, ht s, hx, gn]
    rfl
  · show tabsOk q s = true
    unfold tabsOk
    rw [hr]
    simp only [List.all_cons, List.all_nil]
    have e1 : s.heap.noSeerOk = true := by
      unfold Heap.noSeerOk
      rw [isNs_of g2, nsMap_of g2, nsMap_of g2, isNs_of gm, nsMap_of gm, hm]
      rfl
    rw [tab_of g3, htb, bmain_of g3, hbm, hv s, e1]
    cases importsNone q <;> rfl
section
variable {F : Rh.Facts}
theorem lookup_map {f : Addr → Obj} : ∀ {l : List Addr} {a : Addr} {o : Obj}, (l.map fun a => (a, f a)).lookup a = some o → a ∈ l ∧ o = f a
  | [], _, _, h => by cases h
  | b :: r, a, o, h => by
    rw [List.map_cons, List.lookup_cons] at h
    cases e : a == b with
    | true =>
      rw [e] at h
      have e' : a = b := by simpa using e
      subst e'
      exact ⟨List.mem_cons_self, (Option.some.inj h).symm⟩
    | false =>
      rw [e] at h
      obtain ⟨h1, h2⟩ := lookup_map h
      exact ⟨List.mem_cons_of_mem _ h1, h2⟩
theorem partL_in {h : Heap} (e : (adL F h.get?).all (fun a => (h.get? a).isSome) = true) : (partL F h.get?).In h := fun a o q => by
  obtain ⟨h1, rfl⟩ := lookup_map q
  have := List.all_eq_true.mp e a h1
  cases hg : h.get? a with
  | none => rw [hg] at this; cases this
  | some o => rfl
def obsL (F : Rh.Facts) (g : Addr → Option Obj) : Bool × Rh.AlA := ((adL F g).all (fun a => (g a).isSome), Rh.obsA F (partL F g))
def hookL (F : Rh.Facts) : PySem.W.Hook where
  α := Bool × Rh.AlA
  obs := fun s => obsL F s.heap.get?
  val := fun _ => (true, Rh.valA F)
  says := fun _ h => ∃ K : PySem.W.Frag, K.In h ∧ Rh.Says F K
  of := fun _ s e => ⟨partL F s.heap.get?, partL_in (congrArg (fun z : Bool × Rh.AlA => z.1) (show obsL F s.heap.get? = (true, Rh.valA F) from e)), congrArg (fun z : Bool × Rh.AlA => z.2) (show obsL F s.heap.get? = (true, Rh.valA F) from e)⟩
  keeps := fun _ _ _ ⟨K, hK, c⟩ k => ⟨K, PySem.W.Frag.In.keeps hK k, c⟩
theorem obsL_eq {g : Addr → Option Obj} {s : Shared} (h : ∀ a, g a = s.heap.get? a) : obsL F g = (hookL F).obs s := by
  have e : g = s.heap.get? := funext h
  rw [e]
  rfl
end
end Rk
namespace Ez
open PySem L2 Evl
variable {α : Type}
/-- what is said of a value, by what it stands for; kept as the heap grows -/
class Kept (P : α → V → Hp → Prop) : Prop where
  keep : ∀ a v H H', Ex H H' → P a v H → P a v H'
inductive F2 (P : α → V → Hp → Prop) (H : Hp) : List α → List V → Prop
  | nil : F2 P H [] []
  | cons {a : α} {v : V} {as : List α} {vs : List V} : P a v H → F2 P H as vs → F2 P H (a :: as) (v :: vs)
theorem F2.keep {P : α → V → Hp → Prop} [Kept P] {H H' : Hp} (e : Ex H H') {as : List α} {vs : List V} (h : F2 P H as vs) : F2 P H' as vs := by
  induction h with
  | nil => exact .nil
  | cons p _ ih => exact .cons (Kept.keep _ _ _ _ e p) ih
theorem F2.len {P : α → V → Hp → Prop} {H : Hp} {as : List α} {vs : List V} (h : F2 P H as vs) : vs.length = as.length := by
  induction h with
  | nil => rfl
  | cons _ _ ih => simp [ih]
theorem F2.app {P : α → V → Hp → Prop} {H : Hp} {as bs : List α} {vs ws : List V} (h : F2 P H as vs) (k : F2 P H bs ws) : F2 P H (as ++ bs) (vs ++ ws) := by
  induction h with
  | nil => exact k
  | cons p _ ih => exact .cons p ih
theorem F2.at {P : α → V → Hp → Prop} {H : Hp} {as : List α} {vs : List V} (h : F2 P H as vs) : ∀ {i : Nat} {v : V}, vs[i]? = some v → ∃ a, as[i]? = some a ∧ P a v H := by
  induction h with
  | nil => intro i v e; simp at e
  | cons p _ ih =>
    intro i v e
    cases i with
    | zero => exact ⟨_, rfl, (Option.some.inj e) ▸ p⟩
    | succ i => exact ih e
def EvP (te : TE) (σ : L2.St) (H : Hp) (P : V → Hp → Prop) : Prop := ∀ H1, Ex H H1 → ∀ Q : VK, (∀ v H2, Ex H1 H2 → P v H2 → Q v H2) → te σ H1 Q
def EvPs (ta : TA) (σ : L2.St) (H : Hp) (P : α → V → Hp → Prop) (as : List α) : Prop := ∀ H1, Ex H H1 → ∀ Q : List V → Hp → Prop, (∀ vs H2, Ex H1 H2 → F2 P H2 as vs → Q vs H2) → ta σ H1 Q
section
variable {P : α → V → Hp → Prop} {σ : L2.St} {H : Hp}
theorem EvP.mono {te : TE} {P : V → Hp → Prop} {H' : Hp} (e : Ex H H') (h : EvP te σ H P) : EvP te σ H' P := fun H1 a Q q => h H1 (e.trans a) Q q
theorem evp_of {te : TE} {v : V} {P : V → Hp → Prop} (h : Ev te σ H v) (p : ∀ H1, P v H1) : EvP te σ H P := fun H1 e Q q => h H1 e Q fun H2 e2 => q v H2 e2 (p H2)
theorem eps_nil : EvPs (α := α) tNil σ H P [] := fun H1 _ Q q => q [] H1 (Ex.refl H1) .nil
theorem eps_cons [Kept P] {te : TE} {tr : TA} {a : α} {as : List α} (h : EvP te σ H (P a)) (hr : EvPs tr σ H P as) : EvPs (tCons te tr) σ H P (a :: as) := fun H1 e Q q =>
  h H1 e _ fun v H2 e2 p => hr H2 (e.trans e2) _ fun vs H3 e3 f => q _ H3 (e2.trans e3) (.cons (Kept.keep _ _ _ _ e3 p) f)
theorem lst_p [Kept P] {ta : TA} {as : List α} {Q : VK} (h : EvPs ta σ H P as) (hl : as.length ≤ 100000) (k : ∀ p zs H1, H p = none → Ex H H1 → H1 p = some (.lst zs) → F2 P H1 as zs → Q (.ref p) H1) : tLst ta σ H Q :=
  h H (Ex.refl H) _ fun vs H1 e f => ⟨by rw [f.len]; exact sz_of hl, fun p hp => k p vs _ (fresh_back e hp) (e.trans (Ex.new hp)) upd_same (f.keep (Ex.new hp))⟩
variable {D : Ends} {tz : TS} {i : Nat}
/-- y = [..] -/
theorem q_lstP [Kept P] {ta : TA} {as : List α} (h : EvPs ta σ H P as) (hl : as.length ≤ 100000) (k : ∀ p zs H1, H p = none → Ex H H1 → H1 p = some (.lst zs) → F2 P H1 as zs → tz D (σ.set i (some (.ref p))) H1) : tSeq (tAsg (tLst ta) (gName i)) tz D σ H :=
  lst_p (Q := fun v H1 => tz D (σ.set i (some v)) H1) h hl k
/-- x + [..], as a value -/
theorem cat_p [Kept P] {ta : TA} {as bs : List α} {l : Addr} {xs : List V} {Q : VK} (hx : σ[i]? = some (some (.ref l))) (hl : H l = some (.lst xs)) (f : F2 P H as xs) (h : EvPs ta σ H P bs) (hn : as.length ≤ 50000 ∧ bs.length ≤ 50000)
    (k : ∀ p zs H1, H p = none → Ex H H1 → H1 p = some (.lst zs) → F2 P H1 (as ++ bs) zs → Q (.ref p) H1) : tOp rCat (tVar i) (tLst ta) σ H Q :=
  ⟨_, hx, lst_p h (by omega) fun b zs H1 _ e hb g => ⟨l, b, xs, zs, rfl, rfl, e _ _ hl, hb, by rw [f.len, g.len]; exact sz_of (by omega),
    fun p hp => k p _ _ (fresh_back e hp) (e.trans (Ex.new hp)) upd_same (((f.keep e).app g).keep (Ex.new hp))⟩⟩
/-- x = x + [..] -/
theorem q_catP [Kept P] {ta : TA} {as bs : List α} {l : Addr} {xs : List V} (hx : σ[i]? = some (some (.ref l))) (hl : H l = some (.lst xs)) (f : F2 P H as xs) (h : EvPs ta σ H P bs) (hn : as.length ≤ 50000 ∧ bs.length ≤ 50000)
    (k : ∀ p zs H1, H p = none → Ex H H1 → H1 p = some (.lst zs) → F2 P H1 (as ++ bs) zs → tz D (σ.set i (some (.ref p))) H1) : tSeq (tAsg (tOp rCat (tVar i) (tLst ta)) (gName i)) tz D σ H :=
  cat_p (Q := fun v H1 => tz D (σ.set i (some v)) H1) hx hl f h hn k
/-- return x + [..] -/
theorem s_retCatP [Kept P] {ta : TA} {as bs : List α} {l : Addr} {xs : List V} (hx : σ[i]? = some (some (.ref l))) (hl : H l = some (.lst xs)) (f : F2 P H as xs) (h : EvPs ta σ H P bs) (hn : as.length ≤ 50000 ∧ bs.length ≤ 50000)
    (k : ∀ p zs H1, H p = none → Ex H H1 → H1 p = some (.lst zs) → F2 P H1 (as ++ bs) zs → D.rt (.ref p) H1) : tRet (tOp rCat (tVar i) (tLst ta)) D σ H :=
  cat_p (Q := D.rt) hx hl f h hn k
end
/-- truth values, numbers, pairs of numbers -/
def IsB (b : Bool) (v : V) (_ : Hp) : Prop := v = .bl b
def IsI (z : Int) (v : V) (_ : Hp) : Prop := v = .int z
def IsT2 (q : Int × Int) (v : V) (H : Hp) : Prop := ∃ t, v = .ref t ∧ H t = some (.tup [.int q.1, .int q.2])
instance : Kept IsB := ⟨fun _ _ _ _ _ h => h⟩
instance : Kept IsI := ⟨fun _ _ _ _ _ h => h⟩
instance : Kept IsT2 := ⟨fun _ _ _ _ e h => h.elim fun t q => ⟨t, q.1, e _ _ q.2⟩⟩
theorem F2.bools {H : Hp} {bs : List Bool} {vs : List V} (h : F2 IsB H bs vs) : vs = bs.map V.bl := by
  induction h with
  | nil => rfl
  | cons p _ ih => rw [List.map_cons, ← ih, p]
theorem F2.ints {H : Hp} {ns : List Int} {vs : List V} (h : F2 IsI H ns vs) : vs = ns.map V.int := by
  induction h with
  | nil => rfl
  | cons p _ ih => rw [List.map_cons, ← ih, p]
/-- a loop over enumerate(list) -/
theorem for_enum {K : PySem.W.Frag} {a : Addr} {xs : List V} {g : TG} {tb : TS} {D : Ends} {σ : L2.St} {H : Hp} (Pv : Nat → L2.St → Hp → Prop) (h0 : Pv 0 σ H) (hq : ∀ i σ H, Pv i σ H → SqL K H a xs)
    (hs : ∀ (i : Nat) (x : V) (T : Addr) (σ : L2.St) (H : Hp), xs[i]? = some x → Pv i σ H → H T = none → g (.ref T) σ (upd H T (.tup [.int (i : Nat), x])) fun σ2 H2 => tb { D with nx := Pv (i + 1), ct := Pv (i + 1), bk := D.nx } σ2 H2) (hd : ∀ σ H, Pv xs.length σ H → D.nx σ H) :
    ∃ W : Nat → Nat → L2.St → Hp → Prop, (∃ m, W 0 m σ H) ∧ ∀ i m σ H, W i m σ H →
      ((Ite K a).stop i H ∧ D.nx σ H) ∨ ((Ite K a).go i H ∧ ∃ N : L2.St → Hp → Prop, (∀ σ' H', N σ' H' → ∃ m', m' < m ∧ W (i + 1) m' σ' H') ∧ ∀ v H', (Ite K a).yld i H v H' → g v σ H' fun σ2 H2 => tb { D with nx := N, ct := N, bk := D.nx } σ2 H2) := by
  refine ⟨fun i m σ H => m = xs.length - i ∧ i ≤ xs.length ∧ Pv i σ H, ⟨xs.length, rfl, Nat.zero_le _, h0⟩, ?_⟩
  rintro i m σ H ⟨rfl, hi, p⟩
  have qx := hq i σ H p
  by_cases hlt : i < xs.length
  · have hx : xs[i]? = some xs[i] := List.getElem?_eq_getElem hlt
    refine .inr ⟨⟨xs, _, qx, hx⟩, Pv (i + 1), fun σ' H' p' => ⟨xs.length - (i + 1), by omega, rfl, hlt, p'⟩, fun v H' y => ?_⟩
    obtain ⟨T, x', rfl, hT, rfl, f1⟩ := y
    exact hs i x' T σ H (f1 xs qx) p hT
  · have e : i = xs.length := by omega
    subst e
    exact .inl ⟨⟨xs, qx, Nat.le_refl _⟩, hd σ H p⟩
end Ez
namespace Rs
open PySem PySem.Spec PyProof.Rows L2
/-- showable, without a dict, at most so deep, its text at most so long -/
structure ShN (k m : Nat) (d : PyData) : Prop where
  sh : d.showable = true
  nd : d.hasDict = false
  dp : d.depth ≤ k
  sz : d.shown.length ≤ m
theorem ShN.Sh {k m : Nat} {d : PyData} (h : ShN k m d) (hk : k ≤ 60) (hm : m ≤ sizeLine) : Rp.Sh d := ⟨h.sh, h.nd, Nat.le_trans h.dp hk, Nat.le_trans h.sz hm⟩
theorem ShN.le {k m k' m' : Nat} {d : PyData} (h : ShN k m d) (hk : k ≤ k') (hm : m ≤ m') : ShN k' m' d := ⟨h.sh, h.nd, Nat.le_trans h.dp hk, Nat.le_trans h.sz hm⟩
theorem textFrom_ub : ∀ (ts : List Str) (k : Nat) (acc : Str), (textFrom k acc ts).length ≤ acc.length + ((ts.map (·.length)).sum + 2 * ts.length)
  | [], k, acc => by show acc.length ≤ _; omega
  | t :: r, k, acc => by
    have h := textFrom_ub r (k + 1) (acc ++ (if k > 0 then ", " else "" : String) ++ t)
    have e : (acc ++ (if k > 0 then ", " else "" : String) ++ t).length = acc.length + (if k > 0 then 2 else 0) + t.length := by
      rw [strLen_append, strLen_append]
      split <;> rfl
    show (textFrom (k + 1) (acc ++ (if k > 0 then ", " else "" : String) ++ t) r).length ≤ _
    rw [e] at h
    simp only [List.map_cons, List.sum_cons, List.length_cons]
    have b2 : (if k > 0 then 2 else 0 : Nat) ≤ 2 := by split <;> omega
    omega
theorem shown_sum {k m : Nat} : ∀ ds : List PyData, (∀ d ∈ ds, ShN k m d) → ((PyData.shownAll ds).map (·.length)).sum ≤ m * ds.length ∧ PyData.showableAll ds = true ∧ PyData.hasDictAll ds = false ∧ PyData.depthAll ds ≤ k ∧ (PyData.shownAll ds).length = ds.length
  | [], _ => ⟨Nat.zero_le _, by simp only [PyData.showableAll], by simp only [PyData.hasDictAll], by simp only [PyData.depthAll]; omega, by simp only [PyData.shownAll]; rfl⟩
  | d :: ds, h => by
    obtain ⟨h1, h2, h3, h4, h5⟩ := shown_sum ds fun x hx => h x (List.mem_cons_of_mem _ hx)
    have q := h d List.mem_cons_self
    have qs := q.sz
    have qd := q.dp
    refine ⟨?_, by simp only [PyData.showableAll, q.sh, h2, Bool.and_self], by simp only [PyData.hasDictAll, q.nd, h3, Bool.or_self], by simp only [PyData.depthAll]; omega, by simp only [PyData.shownAll, List.length_cons, h5]⟩
    simp only [PyData.shownAll, List.map_cons, List.sum_cons, List.length_cons, Nat.mul_add, Nat.mul_one]
    omega
theorem sh_list {k m : Nat} {ds : List PyData} (h : ∀ d ∈ ds, ShN k m d) : ShN (k + 1) ((m + 2) * ds.length + 2) (.list ds) := by
  obtain ⟨h1, h2, h3, h4, h5⟩ := shown_sum ds h
  refine ⟨by simp only [PyData.showable, h2], by simp only [PyData.hasDict, h3], by simp only [PyData.depth]; omega, ?_⟩
  simp only [PyData.shown]
  unfold listText
  rw [strLen_append]
  have e := textFrom_ub (PyData.shownAll ds) 0 "["
  have e1 : ((("]" : String) : Str)).length = 1 := rfl
  have e2 : ((("[" : String) : Str)).length = 1 := rfl
  rw [h5, e2] at e
  rw [e1, Nat.add_mul]
  omega
theorem sh_tuple {k m : Nat} {ds : List PyData} (h : ∀ d ∈ ds, ShN k m d) : ShN (k + 1) ((m + 2) * ds.length + 3) (.tuple ds) := by
  obtain ⟨h1, h2, h3, h4, h5⟩ := shown_sum ds h
  refine ⟨by simp only [PyData.showable, h2], by simp only [PyData.hasDict, h3], by simp only [PyData.depth]; omega, ?_⟩
  simp only [PyData.shown]
  unfold tupleText
  rw [strLen_append, strLen_append]
  have e := StrLaws.join_length_le ", " (PyData.shownAll ds)
  have e0 : ((", " : String) : Str).length = 2 := rfl
  have e1 : ((("(" : String) : Str)).length = 1 := rfl
  have e3 : (((if (PyData.shownAll ds).length == 1 then ",)" else ")" : String) : Str)).length ≤ 2 := by split <;> decide
  rw [h5, e0] at e
  rw [e1, Nat.add_mul]
  omega
theorem sh_nat {n k : Nat} {i : Int} (h0 : 0 ≤ i) (hk : 0 < k) (h : i < 10 ^ k) (hb : i.natAbs.log2 < 1920) : ShN 0 k (.int i) := by
  refine ⟨by simp only [PyData.showable, decide_eq_true hb], by simp only [PyData.hasDict], by simp only [PyData.depth]; omega, ?_⟩
  simp only [PyData.shown]
  exact toString_length_le h0 hk h
end Rs
namespace Dr
open PySem PySem.Spec PyProof.Rows L2
def top (i : Nat) : Stmt := PySem.Challenge.pw_runsledon_k00_errors_apart.main.body.getD i (.Pass ⟨0, 0, 0, 0⟩)
abbrev sBegun : Stmt := top 90
abbrev sBlended : Stmt := top 91
abbrev sDraw : Stmt := top 92
abbrev sPick : Stmt := top 93
abbrev FnP (K : PySem.W.Frag) (x : Str) (st : Stmt) (f : Addr) (fd : FuncData) : Prop := FunD K x x (defArgs st) (defBody st) (defScope st) [] [] f fd
structure Bl (mg : Str → Option Value) : Prop where
  abs : mg "abs" = none
  int : mg "int" = none
  len : mg "len" = none
section
variable {P : Program} {w : World} {K : PySem.W.Frag} {mg : Str → Option Value} {base : Heap}
theorem scB : FnScope ["state", "turn", "found", "prime", "blend", "cell"] ["state"] (defScope sBlended) := ⟨rfl, rfl, rfl, by decide +kernel, rfl, by decide +kernel, by decide +kernel⟩
theorem primes_at : ∀ (i : Nat) (x : V), ([.int 2147481359, .int 2147481353, .int 2147481337] : List V)[i]? = some x → ∃ z : Int, x = .int z ∧ 100 < z ∧ z < 2147483648
  | 0, x, h => ⟨2147481359, (Option.some.inj h).symm, by decide, by decide⟩
  | 1, x, h => ⟨2147481353, (Option.some.inj h).symm, by decide, by decide⟩
  | 2, x, h => ⟨2147481337, (Option.some.inj h).symm, by decide, by decide⟩
  | n + 3, x, h => by simp at h
theorem map_at {f : Int → V} {l : List Int} {i : Nat} {x : V} (h : (l.map f)[i]? = some x) : ∃ z, l[i]? = some z ∧ x = f z := by
  rw [List.getElem?_map] at h
  cases e : l[i]? with
  | none => rw [e] at h; cases h
  | some z => rw [e] at h; exact ⟨z, rfl, (Option.some.inj h).symm⟩
abbrev kG : Key := .inr "great"
abbrev kC : Key := .inr "cells"
abbrev kL : Key := .inr "left"
abbrev kT : Key := .inr "turn"
/-- the dict's pairs -/
def prs (g c : Addr) (l t : Int) : List (Key × V) := [(kG, .ref g), (kC, .ref c), (kL, .int l), (kT, .int t)]
theorem prs_t {g c : Addr} {l t : Int} : valV (prs g c l t) kT = some (.int t) := rfl
theorem prs_l {g c : Addr} {l t : Int} : valV (prs g c l t) kL = some (.int l) := rfl
theorem prs_c {g c : Addr} {l t : Int} : valV (prs g c l t) kC = some (.ref c) := rfl
theorem prs_g {g c : Addr} {l t : Int} : valV (prs g c l t) kG = some (.ref g) := rfl
theorem prs_pt {g c : Addr} {l t t' : Int} : putK (prs g c l t) kT (.int t') = prs g c l t' := rfl
theorem prs_pl {g c : Addr} {l t l' : Int} : putK (prs g c l t) kL (.int l') = prs g c l' t := rfl
/-- the source of draws: its dict at p, the great numbers' list at g, the cells' list at c -/
structure St (H : Hp) (p g c : Addr) (n : Nat) : Prop where
  ex : ∃ (gs cs : List Int) (l t : Int), (0 ≤ t ∧ t ≤ n) ∧ H p = some (.dK (prs g c l t)) ∧ H g = some (.lst (gs.map V.int)) ∧ H c = some (.lst (cs.map V.int)) ∧ gs.length ≤ 63 ∧ cs.length ≤ 63
  ne : g ≠ c
/-- all but p is as it was -/
def But (p : Addr) (H H' : Hp) : Prop := ∀ b o, H b = some o → b ≠ p → H' b = some o
def spBlended : Sp := fun vs H Q _ => ∃ p g c n, vs = [.ref p] ∧ St H p g c n ∧ n < 2 ^ 40 ∧ ∀ (r : Int) H', But p H H' → St H' p g c (n + 1) → Q (.int r) H'
theorem ok_blended {f : Addr} {fd : FuncData} (F : FnP K "_law_blended" sBlended f fd) (T : Bl mg) : FnOk P w K mg base CX0 1 f fd ["state"] spBlended := by
  refine F.ok scB (fun vs H Q E h => ?_) (fun cdv A outer s H vs Q E hr h => ?_)
  · obtain ⟨p, g, c, n, rfl, _⟩ := h
    rfl
  · obtain ⟨p, g, c, n, rfl, S, hn, k⟩ := h
    have hu := hu_of hr
    refine ⟨_, PSs.nox (pss_cons (ps_par (i := 1) (j := 2) (by rfl) scB.nd rfl rfl (by decide) rfl rfl (pa_cons (pe_op op_add (pe_dget hu (pv 0) pe_str (fun _ _ => rfl)) pe_int) (pa_cons pe_int pa_nil)) (by rfl))
      (pss_cons (ps_dput hu (pv 0) pe_str (pv 1) rfl)
      (pss_cons (ps_for PassesOwn.never rfl (pi_list (pe_lst (pa_cons pe_int (pa_cons pe_int (pa_cons pe_int pa_nil))))) (pg_name (i := 3) scB.nd rfl (.inl rfl))
        (pss_cons (ps_set (i := 4) scB.nd rfl (.inl rfl) (pe_op op_add (pe_op op_mul pe_int (pv 1)) (pe_op op_fdiv (pv 3) pe_int)))
        (pss_cons (ps_for PassesOwn.never rfl (pi_list (pe_dget hu (pv 0) pe_str (fun _ _ => rfl))) (pg_name (i := 5) scB.nd rfl (.inl rfl))
          (pss_one (ps_set (i := 4) scB.nd rfl (.inl rfl) (pe_op op_modN (pe_callTy call_int1 (by rfl) T.int (by decide +kernel) (pa_cons (pe_op op_add (pe_op op_add (pe_op op_mul (pv 4) pe_int) (pv 5)) (pv 1)) pa_nil)) (pv 3)))))
        (pss_one (ps_set (i := 2) scB.nd rfl (.inl rfl) (pe_op op_add (pe_op op_mul (pv 2) pe_int) (pe_op op_modN (pe_callTy call_int1 (by rfl) T.int (by decide +kernel) (pa_cons (pe_op op_pow (pv 4) pe_int) pa_nil)) (pv 3))))))))
      (pss_one (ps_ret (pv 2)))))), ?_⟩
    obtain ⟨⟨gs, cs, l, t, ⟨t0, tn⟩, hp, hg, hc, lg, lc⟩, ne⟩ := S
    have gp : p ≠ g := ne_of hp hg (by intro z; cases z)
    have cp : p ≠ c := ne_of hp hc (by intro z; cases z)
    -- turn, found = state['turn'] + 1, 0; state['turn'] = turn
    refine ⟨_, rfl, p, _, rfl, prs_t ▸ DGet.k (k := kT) hp, _, _, rfl, rfl, _, _, rfl, ?_⟩
    refine ⟨_, rfl, _, rfl, p, _, rfl, DPut.k (k := kT) hp (by show 4 < sizeLine; decide), ?_⟩
    rw [prs_pt]
    -- the primes
    refine ⟨(by show 3 ≤ sizeLine; decide), fun q hq => ?_⟩
    have qp : p ≠ q := fun z => by rw [← z, upd_same] at hq; cases hq
    have gq : g ≠ q := fun z => by rw [← z, upd_ne gp.symm, hg] at hq; cases hq
    have cq : c ≠ q := fun z => by rw [← z, upd_ne cp.symm, hc] at hq; cases hq
    generalize hH : upd (upd H p (.dK (prs g c l (t + 1)))) q (.lst [V.int 2147481359, V.int 2147481353, V.int 2147481337]) = H2
    have h2p : H2 p = some (.dK (prs g c l (t + 1))) := by rw [← hH, upd_ne qp, upd_same]
    have h2c : H2 c = some (.lst (cs.map V.int)) := by rw [← hH, upd_ne cq, upd_ne cp.symm]; exact hc
    have h2g : H2 g = some (.lst (gs.map V.int)) := by rw [← hH, upd_ne gq, upd_ne gp.symm]; exact hg
    have h2q : H2 q = some (.lst [V.int 2147481359, V.int 2147481353, V.int 2147481337]) := by rw [← hH, upd_same]
    refine ⟨q, rfl, ⟨_, SqL.of h2q⟩, for_list (K := K) (a := q) (xs := [V.int 2147481359, V.int 2147481353, V.int 2147481337])
      (fun i σ H' => H' = H2 ∧ ∃ (fo : Int) (a3 a4 a5 : Option V), σ = [some (.ref p), some (.int (t + 1)), some (.int fo), a3, a4, a5]) ⟨rfl, 0, _, _, _, rfl⟩ (fun i σ H' _ ⟨e, _⟩ => by rw [e]; exact SqL.of h2q) ?_ ?_⟩
    · rintro i x σ H' hi ⟨rfl, fo, a3, a4, a5, rfl⟩
      obtain ⟨z, rfl, z1, z2⟩ := primes_at i x hi
      refine ⟨_, rfl, 48611, t + 1, rfl, rfl, .inl ⟨by decide, by decide⟩, _, rfl, z, 101, rfl, rfl, ⟨by decide, by decide⟩, _, _, rfl, rfl, ?_⟩
      refine ⟨_, rfl, p, _, rfl, prs_c ▸ DGet.k (k := kC) h2p, c, rfl, ⟨_, SqL.of h2c⟩, for_list (K := K) (a := c) (xs := cs.map V.int)
        (fun i σ H'' => H'' = H' ∧ ∃ (b : Int) (a5 : Option V), (-(2 ^ 60) < b ∧ b < 2 ^ 60) ∧ σ = [some (.ref p), some (.int (t + 1)), some (.int fo), some (.int z), some (.int b), a5]) ⟨rfl, _, _, ?_, rfl⟩ (fun i σ H' _ ⟨e, _⟩ => by rw [e]; exact SqL.of h2c) ?_ ?_⟩
      · have q1 : 0 ≤ z / 101 := Int.ediv_nonneg (by omega) (by decide)
        have q2 : z / 101 ≤ z := Int.ediv_le_self _ (by omega)
        have e40 : (2 : Nat) ^ 40 = 1099511627776 := by decide
        have e60 : (2 : Int) ^ 60 = 1152921504606846976 := by decide
        rw [e60]
        omega
      · rintro i x σ H'' hi ⟨rfl, b, a5, ⟨b1, b2⟩, rfl⟩
        obtain ⟨y, hy, rfl⟩ := map_at hi
        refine ⟨_, rfl, b, 65537, rfl, rfl, .inr ⟨by decide, by decide⟩, _, rfl, _, _, rfl, rfl, _, rfl, _, _, rfl, rfl, .inl ⟨_, rfl, _, rfl, _, z, rfl, rfl, by omega, rfl, _, _, ?_, rfl⟩⟩
        have m1 : 0 ≤ (b * 65537 + y + (t + 1)).fmod z := Int.fmod_nonneg_of_pos _ (by omega)
        have m2 : (b * 65537 + y + (t + 1)).fmod z < z := Int.fmod_lt_of_pos _ (by omega)
        have e60 : (2 : Int) ^ 60 = 1152921504606846976 := by decide
        rw [e60]
        omega
      · rintro σ H'' ⟨rfl, b, a5, ⟨b1, b2⟩, rfl⟩
        refine ⟨_, rfl, fo, 2147483647, rfl, rfl, .inr ⟨by decide, by decide⟩, _, rfl, b, 5, rfl, rfl, ⟨by decide, by decide, ?_⟩, .inl ⟨_, rfl, _, rfl, _, z, rfl, rfl, by omega, _, _, rfl, rfl, rfl, _, _, _, _, rfl⟩⟩
        have e60 : (2 : Int) ^ 60 = 1152921504606846976 := by decide
        have e64 : (2 : Nat) ^ 64 = 18446744073709551616 := by decide
        rw [e60] at b1 b2
        rw [e64]
        omega
    · rintro σ H' ⟨rfl, fo, a3, a4, a5, rfl⟩
      refine ⟨_, rfl, k fo H' (fun b o e hb => ?_) ⟨⟨gs, cs, l, t + 1, ⟨by omega, by omega⟩, h2p, h2g, h2c, lg, lc⟩, ne⟩⟩
      rw [← hH, upd_ne (fun z => by rw [z, ← upd_ne (H := H) (a := p) (o := .dK (prs g c l (t + 1))) (Ne.symm qp), hq] at e; cases e), upd_ne hb]
      exact e
end
end Dr
namespace Dr
open PySem PySem.Spec PyProof.Rows L2
section
variable {P : Program} {w : World} {K : PySem.W.Frag} {mg : Str → Option Value} {base : Heap}
theorem scD : FnScope ["state", "size_here", "found"] ["state", "size_here"] (defScope sDraw) := ⟨rfl, rfl, rfl, by decide +kernel, rfl, by decide +kernel, by decide +kernel⟩
/-- all but p and g is as it was -/
def Exd (p g : Addr) (H H' : Hp) : Prop := ∀ b o, H b = some o → b ≠ p → b ≠ g → H' b = some o
def spDraw : Sp := fun vs H Q _ => ∃ p g c n, ∃ z : Int, vs = [.ref p, .int z] ∧ 0 < z ∧ z < 1073741824 ∧ St H p g c n ∧ n < 2 ^ 40 ∧ ∀ (r : Int) H', 0 ≤ r → r < z → Exd p g H H' → St H' p g c (n + 1) → Q (.int r) H'
theorem ints_dp {K : PySem.W.Frag} {H : Hp} : ∀ xs : List Int, DpAll K H (xs.map V.int) (xs.map PyData.int)
  | [] => .nil
  | x :: xs => .cons (.int x) (ints_dp xs)
theorem ok_draw {f fB : Addr} {fd fdB : FuncData} (F : FnP K "_law_draw" sDraw f fd) (T : Bl mg) (G : FnOk P w K mg base CX0 1 fB fdB ["state"] spBlended) (mgB : mg "_law_blended" = some (.ref fB)) (kpB : PySem.W.keepIn K (.ref fB) = true) (bB : Binds K fdB ["state"] []) :
    FnOk P w K mg base CX0 2 f fd ["state", "size_here"] spDraw := by
  refine F.ok scD (fun vs H Q E h => ?_) (fun cdv A outer s H vs Q E hr h => ?_)
  · obtain ⟨p, g, c, n, z, rfl, _⟩ := h
    rfl
  · obtain ⟨p, g, c, n, z, rfl, z1, z2, S, hn, k⟩ := h
    have hu := hu_of hr
    refine ⟨_, PSs.nox (Evl.pss_cut (ps_if (pt_cmpR op_eq (pe_dget hu (pv 0) pe_str (fun _ _ => rfl)) pe_int (nomark _))
        (pss_one (ps_dput hu (pv 0) pe_str (pe_ifExp (pt_cmpR (op_neD hr.units) (pe_dget hu (pv 0) pe_str (fun _ _ => rfl)) (pe_lst pa_nil) (nomark _))
          (pe_bm PySem.F.plainAttrs_list PySem.F.slot_list_pop PySem.F.type_list_pop mt_popAt (pe_dget hu (pv 0) pe_str (fun _ _ => rfl)) (pa_cons pe_int pa_nil))
          (pe_call G hr rfl mgB kpB bB .nil pass0 (pa_cons (pv 0) pa_nil))) rfl)) pss_nil)
      (pss_cons (ps_set (i := 2) scD.nd rfl (.inl rfl) (pe_op op_modN (pe_callTy call_int1 (by rfl) T.int (by decide +kernel) (pa_cons (pe_dget hu (pv 0) pe_str (fun _ _ => rfl)) pa_nil)) (pv 1)))
      (pss_cons (ps_dput hu (pv 0) pe_str (pe_op op_fdivN (pe_dget hu (pv 0) pe_str (fun _ _ => rfl)) (pv 1)) rfl)
      (pss_one (ps_ret (pv 2)))))), ?_⟩
    -- the end, from any state with the dict in order
    have fin : ∀ (H1 : Hp) (l t : Int) (gs : List Int), (0 ≤ t ∧ t ≤ n + 1) → H1 p = some (.dK (prs g c l t)) → H1 g = some (.lst (gs.map V.int)) → gs.length ≤ 63 → (∃ cs : List Int, H1 c = some (.lst (cs.map V.int)) ∧ cs.length ≤ 63) → Exd p g H H1 → Q (.int (l.fmod z)) (upd H1 p (.dK (prs g c (l.fdiv z) t))) := by
      intro H1 l t gs ht hp hg lg ⟨cs, hc, lc⟩ ex
      have gp : p ≠ g := ne_of hp hg (by intro z; cases z)
      have cp : p ≠ c := ne_of hp hc (by intro z; cases z)
      refine k _ _ (Int.fmod_nonneg_of_pos _ z1) (Int.fmod_lt_of_pos _ z1) (fun b o e b1 b2 => ?_) ⟨⟨gs, cs, _, t, ht, upd_same, ?_, ?_, lg, lc⟩, S.ne⟩
      · rw [upd_ne b1]; exact ex b o e b1 b2
      · rw [upd_ne gp.symm]; exact hg
      · rw [upd_ne cp.symm]; exact hc
    obtain ⟨⟨gs, cs, l, t, ⟨t0, tn⟩, hp, hg, hc, lg, lc⟩, ne⟩ := id S
    have gp : p ≠ g := ne_of hp hg (by intro z; cases z)
    have cp : p ≠ c := ne_of hp hc (by intro z; cases z)
    refine Evl.q_cut (M := fun σ H1 => σ = [some (.ref p), some (.int z), none] ∧ ∃ (l t : Int) (gs : List Int), (0 ≤ t ∧ t ≤ n + 1) ∧ H1 p = some (.dK (prs g c l t)) ∧ H1 g = some (.lst (gs.map V.int)) ∧ gs.length ≤ 63 ∧ (∃ cs : List Int, H1 c = some (.lst (cs.map V.int)) ∧ cs.length ≤ 63) ∧ Exd p g H H1) ?_ ?_
    · refine ⟨_, rfl, p, _, rfl, prs_l ▸ DGet.k (k := kL) hp, rfl, _, rfl, ?_⟩
      by_cases hl : l = 0
      · rw [show decide (V.int l = V.int 0) = true by simp [hl]]
        refine iteT ?_
        refine ⟨_, rfl, p, _, rfl, prs_g ▸ DGet.k (k := kG) hp, (by show 0 ≤ sizeLine; decide), fun q hq => ?_⟩
        have qp : p ≠ q := fun z => by rw [← z, hp] at hq; cases hq
        have gq : g ≠ q := fun z => by rw [← z, hg] at hq; cases hq
        have cq : c ≠ q := fun z => by rw [← z, hc] at hq; cases hq
        generalize hH : upd H q (.lst []) = H2
        have h2p : H2 p = some (.dK (prs g c l t)) := by rw [← hH, upd_ne qp]; exact hp
        have h2c : H2 c = some (.lst (cs.map V.int)) := by rw [← hH, upd_ne cq]; exact hc
        have h2g : H2 g = some (.lst (gs.map V.int)) := by rw [← hH, upd_ne gq]; exact hg
        have h2q : H2 q = some (.lst []) := by rw [← hH, upd_same]
        have up : ∀ b o, H b = some o → H2 b = some o := fun b o e => by rw [← hH, upd_ne (fun z => by rw [z, hq] at e; cases e)]; exact e
        refine ⟨.list (gs.map PyData.int), .list [], .lst (SqL.of h2g) (ints_dp gs), .lst (SqL.of h2q) .nil, PySem.W.ke_shaped_ints gs, by decide, _, rfl, ?_⟩
        cases gs with
        | nil =>
          refine iteF ?_
          refine ⟨_, rfl, p, g, c, n, rfl, ⟨⟨[], cs, l, t, ⟨t0, tn⟩, h2p, h2g, h2c, lg, lc⟩, ne⟩, hn, fun r H' hb ⟨⟨gs', cs', l', t', ht', hp', hg', hc', lg', lc'⟩, _⟩ => ?_⟩
          refine ⟨_, rfl, p, _, rfl, DPut.k (k := kL) hp' (by show 4 < sizeLine; decide), rfl, r, t', gs', ht', upd_same, ?_, lg', ⟨cs', ?_, lc'⟩, fun b o e b1 _ => ?_⟩
          · rw [upd_ne gp.symm]; exact hg'
          · rw [upd_ne cp.symm]; exact hc'
          · rw [upd_ne b1]; exact hb b o (up b o e) b1
        | cons y ys =>
          refine iteT ?_
          refine ⟨_, rfl, p, .ref g, rfl, prs_g ▸ DGet.k (k := kG) h2p, .inl ⟨rfl, _, SqL.of h2g⟩, g, _, 0, 0, .int y, rfl, rfl, h2g, by decide, by decide, (by simp [seqIndex?]), rfl, ?_⟩
          refine ⟨_, rfl, p, _, rfl, DPut.k (k := kL) (by rw [upd_ne gp]; exact h2p) (by show 4 < sizeLine; decide), rfl, y, t, ys, ⟨t0, by omega⟩, upd_same, ?_, by simp at lg; omega, ⟨cs, ?_, lc⟩, fun b o e b1 b2 => ?_⟩
          · rw [upd_ne gp.symm, upd_same]; rfl
          · rw [upd_ne cp.symm, upd_ne ne.symm]; exact h2c
          · rw [upd_ne b1, upd_ne b2]; exact up b o e
      · rw [show decide (V.int l = V.int 0) = false by simp [hl]]
        refine iteF ?_
        exact ⟨rfl, l, t, gs, ⟨t0, by omega⟩, hp, hg, lg, ⟨cs, hc, lc⟩, fun b o e _ _ => e⟩
    · rintro σ H1 ⟨rfl, l, t, gs, ht, hp, hg, lg, hc, ex⟩
      refine ⟨_, rfl, p, _, rfl, prs_l ▸ DGet.k (k := kL) hp, .inl ⟨_, rfl, _, rfl, _, z, rfl, rfl, by omega, ?_⟩⟩
      exact ⟨_, rfl, p, _, rfl, prs_l ▸ DGet.k (k := kL) hp, _, rfl, _, z, rfl, rfl, ⟨by omega, by omega⟩, _, rfl, p, _, rfl, DPut.k (k := kL) hp (by show 4 < sizeLine; decide), _, rfl, fin H1 l t gs ht hp hg lg hc ex⟩
end
end Dr
namespace Dr
open PySem PySem.Spec PyProof.Rows L2
section
variable {P : Program} {w : World} {K : PySem.W.Frag} {mg : Str → Option Value} {base : Heap}
theorem scP : FnScope ["state", "several"] ["state", "several"] (defScope sPick) := ⟨rfl, rfl, rfl, by decide +kernel, rfl, by decide +kernel, by decide +kernel⟩
def spPick : Sp := fun vs H Q _ => ∃ p g c n a, ∃ xs : List V, vs = [.ref p, .ref a] ∧ H a = some (.lst xs) ∧ a ≠ g ∧ 0 < xs.length ∧ xs.length < 1073741824 ∧ St H p g c n ∧ n < 2 ^ 40 ∧ ∀ (i : Nat) (x : V) H', xs[i]? = some x → Exd p g H H' → St H' p g c (n + 1) → Q x H'
theorem St.dk {H : Hp} {p g c : Addr} {n : Nat} (S : St H p g c n) : ∃ ks, H p = some (.dK ks) := by
  obtain ⟨⟨gs, cs, l, t, _, hp, _⟩, _⟩ := S
  exact ⟨_, hp⟩
theorem St.pl {H : Hp} {p g c a : Addr} {n : Nat} {xs : List V} (S : St H p g c n) (h : H a = some (.lst xs)) : a ≠ p := by
  obtain ⟨ks, hp⟩ := S.dk
  exact (ne_of hp h (by intro z; cases z)).symm
theorem ok_pick {f fD : Addr} {fd fdD : FuncData} (F : FnP K "_law_pick" sPick f fd) (T : Bl mg) (G : FnOk P w K mg base CX0 2 fD fdD ["state", "size_here"] spDraw) (mgD : mg "_law_draw" = some (.ref fD)) (kpD : PySem.W.keepIn K (.ref fD) = true) (bD : Binds K fdD ["state", "size_here"] []) :
    FnOk P w K mg base CX0 3 f fd ["state", "several"] spPick := by
  refine F.ok scP (fun vs H Q E h => ?_) (fun cdv A outer s H vs Q E hr h => ?_)
  · obtain ⟨p, g, c, n, a, xs, rfl, _⟩ := h
    rfl
  · obtain ⟨p, g, c, n, a, xs, rfl, ha, ag, l1, l2, S, hn, k⟩ := h
    have hu := hu_of hr
    refine ⟨_, PSs.nox (pss_one (ps_ret (pe_ix ix_list (pv 1) (pe_call G hr rfl mgD kpD bD .nil pass0 (pa_cons (pv 0) (pa_cons (pe_callB call_len_seq (by rfl) T.len PySem.boot_len (pa_cons (pv 1) pa_nil)) pa_nil))) (fun _ _ => rfl)))), ?_⟩
    refine ⟨_, rfl, _, rfl, _, rfl, a, _, rfl, .inl (SqL.of ha), p, g, c, n, _, rfl, by omega, by omega, S, hn, fun r H' r0 r1 ex S' => ?_⟩
    have ha' := ex a _ ha (S.pl ha) ag
    have hi : r.toNat < xs.length := by omega
    refine ⟨a, xs, r, xs[r.toNat], rfl, rfl, SqL.of ha', ?_, k r.toNat _ H' (List.getElem?_eq_getElem hi) ex S'⟩
    have e : r = (r.toNat : Int) := by omega
    conv => lhs; rw [e]
    exact atI_nat (List.getElem?_eq_getElem hi)
theorem scG : FnScope ["script", "great", "cell"] ["script"] (defScope sBegun) := ⟨rfl, rfl, rfl, by decide +kernel, rfl, by decide +kernel, by decide +kernel⟩
def spBegun : Sp := fun vs H Q _ => ∃ a, ∃ cs : List Int, vs = [.ref a] ∧ SqL K H a (cs.map V.int) ∧ cs.length ≤ 63 ∧ ∀ p g c H', H p = none → H g = none → H c = none → Evl.Ex H H' → St H' p g c 0 → Q (.ref p) H'
theorem ok_begun {f : Addr} {fd : FuncData} (F : FnP K "_law_begun" sBegun f fd) (T : Bl mg) : FnOk P w K mg base CX0 1 f fd ["script"] (spBegun (K := K)) := by
  refine F.ok scG (fun vs H Q E h => ?_) (fun cdv A outer s H vs Q E hr h => ?_)
  · obtain ⟨a, cs, rfl, _⟩ := h
    rfl
  · obtain ⟨a, cs, rfl, ha, la, k⟩ := h
    have hu := hu_of hr
    refine ⟨_, PSs.nox (pss_cons (ps_setLc (i := 1) (own := [("cell", 2)]) (g := gName 2) (by rfl) scG.nd rfl rfl (sw_true rfl rfl rfl (by decide +kernel)) (pi_list (pv 0)) (blkOk_by (own := [("cell", 2)]) (N := ["script", "great", "cell"]) (sc := defScope sBegun) (by decide +kernel)) (fun _ _ _ _ _ => pg_name (i := 2) scG.nd rfl (Or.inl rfl))
        (fun _ _ _ _ _ => pts_one (pt_cmpR op_ge (pe_callB call_abs (by rfl) T.abs (by decide +kernel) (pa_cons (pv 2) pa_nil)) (pe_op op_pow pe_int pe_int) (nomark _)))
        (fun _ _ _ _ _ => pe_op op_sub (pe_callB call_abs (by rfl) T.abs (by decide +kernel) (pa_cons (pv 2) pa_nil)) (pe_op op_pow pe_int pe_int)))
      (pss_one (ps_ret (pe_disp (pps_cons pe_str (pv 1) (pps_cons pe_str (pe_lc (own := [("cell", 2)]) (g := gName 2) (by rfl) scG.nd (pi_list (pv 0)) (blkOk_by (own := [("cell", 2)]) (N := ["script", "great", "cell"]) (sc := defScope sBegun) (by decide +kernel)) (fun _ _ _ _ _ => pg_name (i := 2) scG.nd rfl (Or.inl rfl)) (fun _ _ _ _ _ => pts_nil)
          (fun _ _ _ _ _ => pe_callB call_abs (by rfl) T.abs (by decide +kernel) (pa_cons (pv 2) pa_nil))) (pps_cons pe_str pe_int (pps_cons pe_str pe_int pps_nil)))) (by rfl) (by rfl) (fun z => by cases z) (by decide))))), ?_⟩
    refine ⟨_, rfl, a, rfl, ⟨_, ha⟩, fun D hD => ?_⟩
    refine lc_list (K := K) (a := a) (xs := cs.map V.int) (fun i H' => Evl.Ex H H' ∧ ∃ acc : List Int, H' D = some (.lst (acc.map V.int)) ∧ acc.length ≤ i) ⟨Evl.Ex.new hD, [], upd_same, Nat.le_refl _⟩ (fun i H' _ q => Evl.ex_l q.1 ha) ?_ ?_
    · rintro i x H' hi ⟨ex, acc, hA, hl⟩
      obtain ⟨y, hy, rfl⟩ := map_at hi
      have hi2 : i < cs.length := (List.getElem?_eq_some_iff.mp hy).1
      refine ⟨rfl, _, rfl, _, rfl, _, _, rfl, rfl, ⟨by decide, by decide, by decide⟩, _, _, rfl, rfl, _, rfl, ?_⟩
      refine ite2 ?_ ?_
      · intro _
        refine ⟨_, rfl, _, rfl, _, _, rfl, rfl, ⟨by decide, by decide, by decide⟩, _, _, rfl, rfl, _, hA, ?_, Evl.Ex.mut ex hD, acc ++ [(if y < 0 then -y else y) - 10 ^ Int.toNat 18], ?_, ?_⟩
        · rw [List.length_map]; exact Evl.sz_lt (by omega)
        · rw [upd_same, List.map_append]; rfl
        · rw [List.length_append]; simp; omega
      · intro _
        exact ⟨ex, acc, hA, by omega⟩
    · rintro H1 ⟨ex, gs, hG, hl⟩
      rw [List.length_map] at hl
      have hDn : ∀ b, H1 b = none → H b = none := fun b hb => Evl.fresh_back ex hb
      refine fun p hp => ?_
      have pD : p ≠ D := fun z => by rw [z, hG] at hp; cases hp
      generalize hH : upd H1 p (.dK []) = H2
      have h2p : H2 p = some (.dK []) := by rw [← hH, upd_same]
      have e12 : Evl.Ex H1 H2 := by rw [← hH]; exact Evl.Ex.new hp
      have h2G := e12 _ _ hG
      refine ⟨_, rfl, _, rfl, a, rfl, ⟨_, Evl.ex_l (ex.trans e12) ha⟩, fun C hC => ?_⟩
      have Cp : C ≠ p := fun z => by rw [z, h2p] at hC; cases hC
      refine lc_list (K := K) (a := a) (xs := cs.map V.int) (fun i H' => Evl.Ex H2 H' ∧ ∃ acc : List Int, H' C = some (.lst (acc.map V.int)) ∧ acc.length ≤ i) ⟨Evl.Ex.new hC, [], upd_same, Nat.le_refl _⟩ (fun i H' _ q => Evl.ex_l ((ex.trans e12).trans q.1) ha) ?_ ?_
      · rintro i x H' hi ⟨ex', acc, hA, hl⟩
        obtain ⟨y, hy, rfl⟩ := map_at hi
        have hi2 : i < cs.length := (List.getElem?_eq_some_iff.mp hy).1
        refine ⟨rfl, ?_⟩
        unfold tYes
        dsimp only
        rw [if_pos rfl]
        refine ⟨_, rfl, _, rfl, _, hA, ?_, Evl.Ex.mut ex' hC, acc ++ [if y < 0 then -y else y], ?_, ?_⟩
        · rw [List.length_map]; exact Evl.sz_lt (by omega)
        · rw [upd_same, List.map_append]; rfl
        · rw [List.length_append]; simp; omega
      · rintro H3 ⟨ex3, cs', hC3, hl3⟩
        rw [List.length_map] at hl3
        refine ⟨ex3 _ _ h2p, [(kG, .ref D), (kC, .ref C), (kL, .int 0), (kT, .int 0)], rfl, (by show 4 ≤ 15; decide), ?_⟩
        have hCn : H1 C = none := Evl.fresh_back e12 hC
        refine k p D C _ (hDn p hp) hD (hDn C hCn) ?_ ⟨⟨gs, cs', 0, 0, ⟨by decide, by omega⟩, upd_same, ?_, ?_, by omega, by omega⟩, fun z => ?_⟩
        · exact Evl.Ex.mut ((ex.trans e12).trans ex3) (hDn p hp)
        · rw [upd_ne pD.symm]; exact ex3 _ _ h2G
        · rw [upd_ne Cp]; exact hC3
        · rw [← z, hG] at hCn; cases hCn
end
end Dr
namespace K00
open PySem PySem.Spec PyProof.Rows L2 Ez Evl
abbrev sFlags : Stmt := top 94
section
variable {P : Program} {w : World} {K : PySem.W.Frag} {mg : Str → Option Value} {base : Heap} {R : Addr}
/-- what the law's own names are -/
structure Er (K : PySem.W.Frag) (mg : Str → Option Value) (R : Addr) : Prop where
  g : ∀ x ∈ nErr, mg x = some (.ref (He.ga K x))
  c : ∀ x ∈ nErr, Rx.ErrC K R (He.ga K x)
  r : R = He.ga K "RunError"
  nd : (nErr.map (He.ga K)).Nodup
  isi : mg "isinstance" = none
theorem Er.ne (T : Er K mg R) {x : Str} (hx : x ∈ nErr.tail) : He.ga K x ≠ R := fun e => by
  have h := T.nd
  have e1 : nErr = PySem.Str.ofString "RunError" :: nErr.tail := rfl
  rw [e1, List.map_cons, List.nodup_cons] at h
  exact h.1 (by rw [← T.r, ← e]; exact List.mem_map_of_mem hx)
theorem Er.tl (T : Er K mg R) {x : Str} (hx : x ∈ nErr.tail) : x ∈ nErr := List.mem_of_mem_tail hx
/-- the readings of a group of looks, and of the rows of groups -/
def taI (K : PySem.W.Frag) (R : Addr) : List Str → TA
  | [] => tNil
  | x :: r => tCons (tCB (Rx.rIsX K R) (tCons (tVar 0) (tCons (tC (.ref (He.ga K x))) tNil))) (taI K R r)
def tGrow (K : PySem.W.Frag) (R : Addr) (last : List Str) : List (List Str) → TS
  | [] => tRet (tOp rCat (tVar 1) (tLst (taI K R last)))
  | g :: r => tSeq (tAsg (tOp rCat (tVar 1) (tLst (taI K R g))) (gName 1)) (tGrow K R last r)
theorem eps_is (T : Er K mg R) {H : Hp} {a C : Addr} {fs : List (Str × V)} {σ : L2.St} (hE : Rx.ErrO H a C fs) (eC : Rx.ErrC K R C) (hσ : σ[0]? = some (some (.ref a))) : ∀ g : List Str, (∀ x ∈ g, x ∈ nErr.tail) → EvPs (taI K R g) σ H IsB (g.map fun x => decide (C = He.ga K x))
  | [], _ => eps_nil
  | x :: g, hg => by
    have hx := hg x (by simp)
    refine eps_cons (fun H1 e Q q => ?_) (eps_is T hE eC hσ g fun y hy => hg y (by simp [hy]))
    refine ⟨_, hσ, a, C, fs, .ref (He.ga K x), .ref (He.ga K x), _, rfl, hE.ext e, eC, fun u r => r, eC.kit (T.c _ (T.tl hx)), ?_⟩
    rw [decide_eq_false (T.ne hx), Bool.or_false]
    exact q _ _ (Ex.refl _) rfl
theorem grow_ok (T : Er K mg R) {H0 : Hp} {a C : Addr} {fs : List (Str × V)} (hE : Rx.ErrO H0 a C fs) (eC : Rx.ErrC K R C) {last : List Str} (hlast : last.length ≤ 8 ∧ ∀ x ∈ last, x ∈ nErr.tail) {D : Ends} :
    ∀ (gs : List (List Str)) (dn : List Str) (p : Addr) (zs : List V) (H : Hp), (∀ g ∈ gs, g.length ≤ 8 ∧ ∀ x ∈ g, x ∈ nErr.tail) → dn.length + 8 * gs.length ≤ 10000 → Ex H0 H → H p = some (.lst zs) → F2 IsB H (dn.map fun x => decide (C = He.ga K x)) zs →
      (∀ p H1, H0 p = none → Ex H0 H1 → H1 p = some (.lst (((dn ++ gs.flatten ++ last).map fun x => decide (C = He.ga K x)).map V.bl)) → D.rt (.ref p) H1) →
      tGrow K R last gs D [some (.ref a), some (.ref p)] H
  | [], dn, p, zs, H, _, hn, e, hp, f, k => by
    refine s_retCatP (P := IsB) (i := 1) rfl hp f (eps_is T (hE.ext e) eC rfl last hlast.2) ⟨by rw [List.length_map]; simp at hn; omega, by rw [List.length_map]; omega⟩ fun p z H1 hn ex hz ff => k p H1 (fresh_back e hn) (e.trans ex) ?_
    rw [hz, ff.bools]
    simp
  | g :: gs, dn, p, zs, H, hg, hn, e, hp, f, k => by
    obtain ⟨g1, g2⟩ := hg g (by simp)
    simp only [List.length_cons] at hn
    refine q_catP (P := IsB) (i := 1) rfl hp f (eps_is T (hE.ext e) eC rfl g g2) ⟨by rw [List.length_map]; omega, by rw [List.length_map]; omega⟩ fun p2 z2 H2 n2 e2 h2 f2 => ?_
    refine grow_ok T hE eC hlast gs (dn ++ g) p2 z2 H2 (fun y hy => hg y (by simp [hy])) (by simp; omega) (e.trans e2) h2 (by rw [List.map_append]; exact f2) fun p H1 h1 h2 h3 => k p H1 h1 h2 ?_
    rw [h3]
    simp
theorem pe_gref {X : Cx} {x : Str} {D : Addr} {pos : Pos} (hg : Gl X x) (hm : X.mg x = some (.ref D)) (hd : (x == ("__debug__" : Str)) = false := by decide) : PE X (.Name x pos) (tC (.ref D)) := pe_glob (v := .ref D) hg hm rfl hd
def gF0 : List Str := ["BadArguments", "BadAsks", "BadBase", "BadBook"]
def gFz : List Str := ["UnlikeRow", "Unshelved", "Wanting"]
def gFs : List (List Str) := [["BadBundle", "BadCase", "BadCellRow", "BadChanged"], ["BadChoices", "BadClause", "BadCode", "BadCodes"], ["BadCount", "BadDeal", "BadDeed", "BadEdit"], ["BadHeight", "BadInputs", "BadJournal", "BadKept"], ["BadKinds", "BadLine", "BadLink", "BadList"], ["BadLog", "BadMerge", "BadModules", "BadMoment"], ["BadName", "BadNames", "BadNumber", "BadObjects"], ["BadOrder", "BadPairs", "BadPieces", "BadPlace"], ["BadPlaces", "BadProgram", "BadRegister", "BadRows"], ["BadSheet", "BadShelf", "BadSigns", "BadStamp"], ["BadStamped", "BadStamps", "BadStates", "BadStore"], ["BadSummary", "BadText", "BadThing", "BadTrace"], ["BadValue", "BadWay", "BadWord", "CannotDeal"], ["CannotDo", "CannotMerge", "Clash", "Empty"], ["FirstStays", "IllTyped", "Large", "LineFull"], ["NoLine", "NoStamp", "NoSuch", "NotAsked"], ["NotBegin", "NotEven", "NotFree", "NotRenaming"], ["NotSayable", "NotThere", "NothingDone", "NothingUndone"], ["Refused", "TooGreat", "Twice", "Unfit"], ["Unjoined", "Unlike", "UnlikeData", "UnlikeReply"]]
theorem scF : FnScope ["error", "found"] ["error"] (defScope sFlags) := ⟨rfl, rfl, rfl, by decide +kernel, rfl, by decide +kernel, by decide +kernel⟩
def spFlags (K : PySem.W.Frag) (R : Addr) : Sp := fun vs H Q _ => ∃ a C fs, vs = [.ref a] ∧ Rx.ErrO H a C fs ∧ Rx.ErrC K R C ∧ ∀ p H1, H p = none → Ex H H1 → H1 p = some (.lst ((nErr.tail.map fun x => decide (C = He.ga K x)).map V.bl)) → Q (.ref p) H1
theorem len_of {α : Type} {P : α → V → Hp → Prop} {H : Hp} {as : List α} {vs : List V} (h : F2 P H as vs) : vs.length = as.length := h.len
theorem ok_flags {f : Addr} {fd : FuncData} (F : Dr.FnP K "_law_k00_flags" sFlags f fd) (T : Er K mg R) : FnOk P w K mg base CX0 1 f fd ["error"] (spFlags K R) := by
  refine F.ok scF (fun vs H Q E h => ?_) (fun cdv A outer s H vs Q E hr h => ?_)
  · obtain ⟨a, C, fs, rfl, _⟩ := h
    rfl
  · obtain ⟨a, C, fs, rfl, hE, eC, k⟩ := h
    have hu := hu_of hr
    refine ⟨_, PSs.nox (pss_cons (ps_set (i := 1) scF.nd rfl (.inl rfl) (pe_lst (pa_cons (pe_callB (Rx.call_isX (R := R)) (by rfl) T.isi boot_isinstance (pa_cons (pv 0) (pa_cons (pe_gref rfl (T.g _ (List.mem_of_getElem? (i := 1) rfl))) pa_nil))) (pa_cons (pe_callB (Rx.call_isX (R := R)) (by rfl) T.isi boot_isinstance (pa_cons (pv 0) (pa_cons (pe_gref rfl (T.g _ (List.mem_of_getElem? (i := 2) rfl))) pa_nil))) (pa_cons (pe_callB (Rx.call_isX (R := R)) (by rfl) T.isi boot_isinstance (pa_cons (pv 0) (pa_cons (pe_gref rfl (T.g _ (List.mem_of_getElem? (i := 3) rfl))) pa_nil))) (pa_cons (pe_callB (Rx.call_isX (R := R)) (by rfl) T.isi boot_isinstance (pa_cons (pv 0) (pa_cons (pe_gref rfl (T.g _ (List.mem_of_getElem? (i := 4) rfl))) pa_nil))) pa_nil))))))
      (pss_cons (ps_set (i := 1) scF.nd rfl (.inl rfl) (pe_op op_cat (pv 1) (pe_lst (pa_cons (pe_callB (Rx.call_isX (R := R)) (by rfl) T.isi boot_isinstance (pa_cons (pv 0) (pa_cons (pe_gref rfl (T.g _ (List.mem_of_getElem? (i := 5) rfl))) pa_nil))) (pa_cons (pe_callB (Rx.call_isX (R := R)) (by rfl) T.isi boot_isinstance (pa_cons (pv 0) (pa_cons (pe_gref rfl (T.g _ (List.mem_of_getElem? (i := 6) rfl))) pa_nil))) (pa_cons (pe_callB (Rx.call_isX (R := R)) (by rfl) T.isi boot_isinstance (pa_cons (pv 0) (pa_cons (pe_gref rfl (T.g _ (List.mem_of_getElem? (i := 7) rfl))) pa_nil))) (pa_cons (pe_callB (Rx.call_isX (R := R)) (by rfl) T.isi boot_isinstance (pa_cons (pv 0) (pa_cons (pe_gref rfl (T.g _ (List.mem_of_getElem? (i := 8) rfl))) pa_nil))) pa_nil)))))))
      (pss_cons (ps_set (i := 1) scF.nd rfl (.inl rfl) (pe_op op_cat (pv 1) (pe_lst (pa_cons (pe_callB (Rx.call_isX (R := R)) (by rfl) T.isi boot_isinstance (pa_cons (pv 0) (pa_cons (pe_gref rfl (T.g _ (List.mem_of_getElem? (i := 9) rfl))) pa_nil))) (pa_cons (pe_callB (Rx.call_isX (R := R)) (by rfl) T.isi boot_isinstance (pa_cons (pv 0) (pa_cons (pe_gref rfl (T.g _ (List.mem_of_getElem? (i := 10) rfl))) pa_nil))) (pa_cons (pe_callB (Rx.call_isX (R := R)) (by rfl) T.isi boot_isinstance (pa_cons (pv 0) (pa_cons (pe_gref rfl (T.g _ (List.mem_of_getElem? (i := 11) rfl))) pa_nil))) (pa_cons (pe_callB (Rx.call_isX (R := R)) (by rfl) T.isi boot_isinstance (pa_cons (pv 0) (pa_cons (pe_gref rfl (T.g _ (List.mem_of_getElem? (i := 12) rfl))) pa_nil))) pa_nil)))))))
      (pss_cons (ps_set (i := 1) scF.nd rfl (.inl rfl) (pe_op op_cat (pv 1) (pe_lst (pa_cons (pe_callB (Rx.call_isX (R := R)) (by rfl) T.isi boot_isinstance (pa_cons (pv 0) (pa_cons (pe_gref rfl (T.g _ (List.mem_of_getElem? (i := 13) rfl))) pa_nil))) (pa_cons (pe_callB (Rx.call_isX (R := R)) (by rfl) T.isi boot_isinstance (pa_cons (pv 0) (pa_cons (pe_gref rfl (T.g _ (List.mem_of_getElem? (i := 14) rfl))) pa_nil))) (pa_cons (pe_callB (Rx.call_isX (R := R)) (by rfl) T.isi boot_isinstance (pa_cons (pv 0) (pa_cons (pe_gref rfl (T.g _ (List.mem_of_getElem? (i := 15) rfl))) pa_nil))) (pa_cons (pe_callB (Rx.call_isX (R := R)) (by rfl) T.isi boot_isinstance (pa_cons (pv 0) (pa_cons (pe_gref rfl (T.g _ (List.mem_of_getElem? (i := 16) rfl))) pa_nil))) pa_nil)))))))
      (pss_cons (ps_set (i := 1) scF.nd rfl (.inl rfl) (pe_op op_cat (pv 1) (pe_lst (pa_cons (pe_callB (Rx.call_isX (R := R)) (by rfl) T.isi boot_isinstance (pa_cons (pv 0) (pa_cons (pe_gref rfl (T.g _ (List.mem_of_getElem? (i := 17) rfl))) pa_nil))) (pa_cons (pe_callB (Rx.call_isX (R := R)) (by rfl) T.isi boot_isinstance (pa_cons (pv 0) (pa_cons (pe_gref rfl (T.g _ (List.mem_of_getElem? (i := 18) rfl))) pa_nil))) (pa_cons (pe_callB (Rx.call_isX (R := R)) (by rfl) T.isi boot_isinstance (pa_cons (pv 0) (pa_cons (pe_gref rfl (T.g _ (List.mem_of_getElem? (i := 19) rfl))) pa_nil))) (pa_cons (pe_callB (Rx.call_isX (R := R)) (by rfl) T.isi boot_isinstance (pa_cons (pv 0) (pa_cons (pe_gref rfl (T.g _ (List.mem_of_getElem? (i := 20) rfl))) pa_nil))) pa_nil)))))))
      (pss_cons (ps_set (i := 1) scF.nd rfl (.inl rfl) (pe_op op_cat (pv 1) (pe_lst (pa_cons (pe_callB (Rx.call_isX (R := R)) (by rfl) T.isi boot_isinstance (pa_cons (pv 0) (pa_cons (pe_gref rfl (T.g _ (List.mem_of_getElem? (i := 21) rfl))) pa_nil))) (pa_cons (pe_callB (Rx.call_isX (R := R)) (by rfl) T.isi boot_isinstance (pa_cons (pv 0) (pa_cons (pe_gref rfl (T.g _ (List.mem_of_getElem? (i := 22) rfl))) pa_nil))) (pa_cons (pe_callB (Rx.call_isX (R := R)) (by rfl) T.isi boot_isinstance (pa_cons (pv 0) (pa_cons (pe_gref rfl (T.g _ (List.mem_of_getElem? (i := 23) rfl))) pa_nil))) (pa_cons (pe_callB (Rx.call_isX (R := R)) (by rfl) T.isi boot_isinstance (pa_cons (pv 0) (pa_cons (pe_gref rfl (T.g _ (List.mem_of_getElem? (i := 24) rfl))) pa_nil))) pa_nil)))))))
      (pss_cons (ps_set (i := 1) scF.nd rfl (.inl rfl) (pe_op op_cat (pv 1) (pe_lst (pa_cons (pe_callB (Rx.call_isX (R := R)) (by rfl) T.isi boot_isinstance (pa_cons (pv 0) (pa_cons (pe_gref rfl (T.g _ (List.mem_of_getElem? (i := 25) rfl))) pa_nil))) (pa_cons (pe_callB (Rx.call_isX (R := R)) (by rfl) T.isi boot_isinstance (pa_cons (pv 0) (pa_cons (pe_gref rfl (T.g _ (List.mem_of_getElem? (i := 26) rfl))) pa_nil))) (pa_cons (pe_callB (Rx.call_isX (R := R)) (by rfl) T.isi boot_isinstance (pa_cons (pv 0) (pa_cons (pe_gref rfl (T.g _ (List.mem_of_getElem? (i := 27) rfl))) pa_nil))) (pa_cons (pe_callB (Rx.call_isX (R := R)) (by rfl) T.isi boot_isinstance (pa_cons (pv 0) (pa_cons (pe_gref rfl (T.g _ (List.mem_of_getElem? (i := 28) rfl))) pa_nil))) pa_nil)))))))
      (pss_cons (ps_set (i := 1) scF.nd rfl (.inl rfl) (pe_op op_cat (pv 1) (pe_lst (pa_cons (pe_callB (Rx.call_isX (R := R)) (by rfl) T.isi boot_isinstance (pa_cons (pv 0) (pa_cons (pe_gref rfl (T.g _ (List.mem_of_getElem? (i := 29) rfl))) pa_nil))) (pa_cons (pe_callB (Rx.call_isX (R := R)) (by rfl) T.isi boot_isinstance (pa_cons (pv 0) (pa_cons (pe_gref rfl (T.g _ (List.mem_of_getElem? (i := 30) rfl))) pa_nil))) (pa_cons (pe_callB (Rx.call_isX (R := R)) (by rfl) T.isi boot_isinstance (pa_cons (pv 0) (pa_cons (pe_gref rfl (T.g _ (List.mem_of_getElem? (i := 31) rfl))) pa_nil))) (pa_cons (pe_callB (Rx.call_isX (R := R)) (by rfl) T.isi boot_isinstance (pa_cons (pv 0) (pa_cons (pe_gref rfl (T.g _ (List.mem_of_getElem? (i := 32) rfl))) pa_nil))) pa_nil)))))))
      (pss_cons (ps_set (i := 1) scF.nd rfl (.inl rfl) (pe_op op_cat (pv 1) (pe_lst (pa_cons (pe_callB (Rx.call_isX (R := R)) (by rfl) T.isi boot_isinstance (pa_cons (pv 0) (pa_cons (pe_gref rfl (T.g _ (List.mem_of_getElem? (i := 33) rfl))) pa_nil))) (pa_cons (pe_callB (Rx.call_isX (R := R)) (by rfl) T.isi boot_isinstance (pa_cons (pv 0) (pa_cons (pe_gref rfl (T.g _ (List.mem_of_getElem? (i := 34) rfl))) pa_nil))) (pa_cons (pe_callB (Rx.call_isX (R := R)) (by rfl) T.isi boot_isinstance (pa_cons (pv 0) (pa_cons (pe_gref rfl (T.g _ (List.mem_of_getElem? (i := 35) rfl))) pa_nil))) (pa_cons (pe_callB (Rx.call_isX (R := R)) (by rfl) T.isi boot_isinstance (pa_cons (pv 0) (pa_cons (pe_gref rfl (T.g _ (List.mem_of_getElem? (i := 36) rfl))) pa_nil))) pa_nil)))))))
      (pss_cons (ps_set (i := 1) scF.nd rfl (.inl rfl) (pe_op op_cat (pv 1) (pe_lst (pa_cons (pe_callB (Rx.call_isX (R := R)) (by rfl) T.isi boot_isinstance (pa_cons (pv 0) (pa_cons (pe_gref rfl (T.g _ (List.mem_of_getElem? (i := 37) rfl))) pa_nil))) (pa_cons (pe_callB (Rx.call_isX (R := R)) (by rfl) T.isi boot_isinstance (pa_cons (pv 0) (pa_cons (pe_gref rfl (T.g _ (List.mem_of_getElem? (i := 38) rfl))) pa_nil))) (pa_cons (pe_callB (Rx.call_isX (R := R)) (by rfl) T.isi boot_isinstance (pa_cons (pv 0) (pa_cons (pe_gref rfl (T.g _ (List.mem_of_getElem? (i := 39) rfl))) pa_nil))) (pa_cons (pe_callB (Rx.call_isX (R := R)) (by rfl) T.isi boot_isinstance (pa_cons (pv 0) (pa_cons (pe_gref rfl (T.g _ (List.mem_of_getElem? (i := 40) rfl))) pa_nil))) pa_nil)))))))
      (pss_cons (ps_set (i := 1) scF.nd rfl (.inl rfl) (pe_op op_cat (pv 1) (pe_lst (pa_cons (pe_callB (Rx.call_isX (R := R)) (by rfl) T.isi boot_isinstance (pa_cons (pv 0) (pa_cons (pe_gref rfl (T.g _ (List.mem_of_getElem? (i := 41) rfl))) pa_nil))) (pa_cons (pe_callB (Rx.call_isX (R := R)) (by rfl) T.isi boot_isinstance (pa_cons (pv 0) (pa_cons (pe_gref rfl (T.g _ (List.mem_of_getElem? (i := 42) rfl))) pa_nil))) (pa_cons (pe_callB (Rx.call_isX (R := R)) (by rfl) T.isi boot_isinstance (pa_cons (pv 0) (pa_cons (pe_gref rfl (T.g _ (List.mem_of_getElem? (i := 43) rfl))) pa_nil))) (pa_cons (pe_callB (Rx.call_isX (R := R)) (by rfl) T.isi boot_isinstance (pa_cons (pv 0) (pa_cons (pe_gref rfl (T.g _ (List.mem_of_getElem? (i := 44) rfl))) pa_nil))) pa_nil)))))))
      (pss_cons (ps_set (i := 1) scF.nd rfl (.inl rfl) (pe_op op_cat (pv 1) (pe_lst (pa_cons (pe_callB (Rx.call_isX (R := R)) (by rfl) T.isi boot_isinstance (pa_cons (pv 0) (pa_cons (pe_gref rfl (T.g _ (List.mem_of_getElem? (i := 45) rfl))) pa_nil))) (pa_cons (pe_callB (Rx.call_isX (R := R)) (by rfl) T.isi boot_isinstance (pa_cons (pv 0) (pa_cons (pe_gref rfl (T.g _ (List.mem_of_getElem? (i := 46) rfl))) pa_nil))) (pa_cons (pe_callB (Rx.call_isX (R := R)) (by rfl) T.isi boot_isinstance (pa_cons (pv 0) (pa_cons (pe_gref rfl (T.g _ (List.mem_of_getElem? (i := 47) rfl))) pa_nil))) (pa_cons (pe_callB (Rx.call_isX (R := R)) (by rfl) T.isi boot_isinstance (pa_cons (pv 0) (pa_cons (pe_gref rfl (T.g _ (List.mem_of_getElem? (i := 48) rfl))) pa_nil))) pa_nil)))))))
      (pss_cons (ps_set (i := 1) scF.nd rfl (.inl rfl) (pe_op op_cat (pv 1) (pe_lst (pa_cons (pe_callB (Rx.call_isX (R := R)) (by rfl) T.isi boot_isinstance (pa_cons (pv 0) (pa_cons (pe_gref rfl (T.g _ (List.mem_of_getElem? (i := 49) rfl))) pa_nil))) (pa_cons (pe_callB (Rx.call_isX (R := R)) (by rfl) T.isi boot_isinstance (pa_cons (pv 0) (pa_cons (pe_gref rfl (T.g _ (List.mem_of_getElem? (i := 50) rfl))) pa_nil))) (pa_cons (pe_callB (Rx.call_isX (R := R)) (by rfl) T.isi boot_isinstance (pa_cons (pv 0) (pa_cons (pe_gref rfl (T.g _ (List.mem_of_getElem? (i := 51) rfl))) pa_nil))) (pa_cons (pe_callB (Rx.call_isX (R := R)) (by rfl) T.isi boot_isinstance (pa_cons (pv 0) (pa_cons (pe_gref rfl (T.g _ (List.mem_of_getElem? (i := 52) rfl))) pa_nil))) pa_nil)))))))
      (pss_cons (ps_set (i := 1) scF.nd rfl (.inl rfl) (pe_op op_cat (pv 1) (pe_lst (pa_cons (pe_callB (Rx.call_isX (R := R)) (by rfl) T.isi boot_isinstance (pa_cons (pv 0) (pa_cons (pe_gref rfl (T.g _ (List.mem_of_getElem? (i := 53) rfl))) pa_nil))) (pa_cons (pe_callB (Rx.call_isX (R := R)) (by rfl) T.isi boot_isinstance (pa_cons (pv 0) (pa_cons (pe_gref rfl (T.g _ (List.mem_of_getElem? (i := 54) rfl))) pa_nil))) (pa_cons (pe_callB (Rx.call_isX (R := R)) (by rfl) T.isi boot_isinstance (pa_cons (pv 0) (pa_cons (pe_gref rfl (T.g _ (List.mem_of_getElem? (i := 55) rfl))) pa_nil))) (pa_cons (pe_callB (Rx.call_isX (R := R)) (by rfl) T.isi boot_isinstance (pa_cons (pv 0) (pa_cons (pe_gref rfl (T.g _ (List.mem_of_getElem? (i := 56) rfl))) pa_nil))) pa_nil)))))))
      (pss_cons (ps_set (i := 1) scF.nd rfl (.inl rfl) (pe_op op_cat (pv 1) (pe_lst (pa_cons (pe_callB (Rx.call_isX (R := R)) (by rfl) T.isi boot_isinstance (pa_cons (pv 0) (pa_cons (pe_gref rfl (T.g _ (List.mem_of_getElem? (i := 57) rfl))) pa_nil))) (pa_cons (pe_callB (Rx.call_isX (R := R)) (by rfl) T.isi boot_isinstance (pa_cons (pv 0) (pa_cons (pe_gref rfl (T.g _ (List.mem_of_getElem? (i := 58) rfl))) pa_nil))) (pa_cons (pe_callB (Rx.call_isX (R := R)) (by rfl) T.isi boot_isinstance (pa_cons (pv 0) (pa_cons (pe_gref rfl (T.g _ (List.mem_of_getElem? (i := 59) rfl))) pa_nil))) (pa_cons (pe_callB (Rx.call_isX (R := R)) (by rfl) T.isi boot_isinstance (pa_cons (pv 0) (pa_cons (pe_gref rfl (T.g _ (List.mem_of_getElem? (i := 60) rfl))) pa_nil))) pa_nil)))))))
      (pss_cons (ps_set (i := 1) scF.nd rfl (.inl rfl) (pe_op op_cat (pv 1) (pe_lst (pa_cons (pe_callB (Rx.call_isX (R := R)) (by rfl) T.isi boot_isinstance (pa_cons (pv 0) (pa_cons (pe_gref rfl (T.g _ (List.mem_of_getElem? (i := 61) rfl))) pa_nil))) (pa_cons (pe_callB (Rx.call_isX (R := R)) (by rfl) T.isi boot_isinstance (pa_cons (pv 0) (pa_cons (pe_gref rfl (T.g _ (List.mem_of_getElem? (i := 62) rfl))) pa_nil))) (pa_cons (pe_callB (Rx.call_isX (R := R)) (by rfl) T.isi boot_isinstance (pa_cons (pv 0) (pa_cons (pe_gref rfl (T.g _ (List.mem_of_getElem? (i := 63) rfl))) pa_nil))) (pa_cons (pe_callB (Rx.call_isX (R := R)) (by rfl) T.isi boot_isinstance (pa_cons (pv 0) (pa_cons (pe_gref rfl (T.g _ (List.mem_of_getElem? (i := 64) rfl))) pa_nil))) pa_nil)))))))
      (pss_cons (ps_set (i := 1) scF.nd rfl (.inl rfl) (pe_op op_cat (pv 1) (pe_lst (pa_cons (pe_callB (Rx.call_isX (R := R)) (by rfl) T.isi boot_isinstance (pa_cons (pv 0) (pa_cons (pe_gref rfl (T.g _ (List.mem_of_getElem? (i := 65) rfl))) pa_nil))) (pa_cons (pe_callB (Rx.call_isX (R := R)) (by rfl) T.isi boot_isinstance (pa_cons (pv 0) (pa_cons (pe_gref rfl (T.g _ (List.mem_of_getElem? (i := 66) rfl))) pa_nil))) (pa_cons (pe_callB (Rx.call_isX (R := R)) (by rfl) T.isi boot_isinstance (pa_cons (pv 0) (pa_cons (pe_gref rfl (T.g _ (List.mem_of_getElem? (i := 67) rfl))) pa_nil))) (pa_cons (pe_callB (Rx.call_isX (R := R)) (by rfl) T.isi boot_isinstance (pa_cons (pv 0) (pa_cons (pe_gref rfl (T.g _ (List.mem_of_getElem? (i := 68) rfl))) pa_nil))) pa_nil)))))))
      (pss_cons (ps_set (i := 1) scF.nd rfl (.inl rfl) (pe_op op_cat (pv 1) (pe_lst (pa_cons (pe_callB (Rx.call_isX (R := R)) (by rfl) T.isi boot_isinstance (pa_cons (pv 0) (pa_cons (pe_gref rfl (T.g _ (List.mem_of_getElem? (i := 69) rfl))) pa_nil))) (pa_cons (pe_callB (Rx.call_isX (R := R)) (by rfl) T.isi boot_isinstance (pa_cons (pv 0) (pa_cons (pe_gref rfl (T.g _ (List.mem_of_getElem? (i := 70) rfl))) pa_nil))) (pa_cons (pe_callB (Rx.call_isX (R := R)) (by rfl) T.isi boot_isinstance (pa_cons (pv 0) (pa_cons (pe_gref rfl (T.g _ (List.mem_of_getElem? (i := 71) rfl))) pa_nil))) (pa_cons (pe_callB (Rx.call_isX (R := R)) (by rfl) T.isi boot_isinstance (pa_cons (pv 0) (pa_cons (pe_gref rfl (T.g _ (List.mem_of_getElem? (i := 72) rfl))) pa_nil))) pa_nil)))))))
      (pss_cons (ps_set (i := 1) scF.nd rfl (.inl rfl) (pe_op op_cat (pv 1) (pe_lst (pa_cons (pe_callB (Rx.call_isX (R := R)) (by rfl) T.isi boot_isinstance (pa_cons (pv 0) (pa_cons (pe_gref rfl (T.g _ (List.mem_of_getElem? (i := 73) rfl))) pa_nil))) (pa_cons (pe_callB (Rx.call_isX (R := R)) (by rfl) T.isi boot_isinstance (pa_cons (pv 0) (pa_cons (pe_gref rfl (T.g _ (List.mem_of_getElem? (i := 74) rfl))) pa_nil))) (pa_cons (pe_callB (Rx.call_isX (R := R)) (by rfl) T.isi boot_isinstance (pa_cons (pv 0) (pa_cons (pe_gref rfl (T.g _ (List.mem_of_getElem? (i := 75) rfl))) pa_nil))) (pa_cons (pe_callB (Rx.call_isX (R := R)) (by rfl) T.isi boot_isinstance (pa_cons (pv 0) (pa_cons (pe_gref rfl (T.g _ (List.mem_of_getElem? (i := 76) rfl))) pa_nil))) pa_nil)))))))
      (pss_cons (ps_set (i := 1) scF.nd rfl (.inl rfl) (pe_op op_cat (pv 1) (pe_lst (pa_cons (pe_callB (Rx.call_isX (R := R)) (by rfl) T.isi boot_isinstance (pa_cons (pv 0) (pa_cons (pe_gref rfl (T.g _ (List.mem_of_getElem? (i := 77) rfl))) pa_nil))) (pa_cons (pe_callB (Rx.call_isX (R := R)) (by rfl) T.isi boot_isinstance (pa_cons (pv 0) (pa_cons (pe_gref rfl (T.g _ (List.mem_of_getElem? (i := 78) rfl))) pa_nil))) (pa_cons (pe_callB (Rx.call_isX (R := R)) (by rfl) T.isi boot_isinstance (pa_cons (pv 0) (pa_cons (pe_gref rfl (T.g _ (List.mem_of_getElem? (i := 79) rfl))) pa_nil))) (pa_cons (pe_callB (Rx.call_isX (R := R)) (by rfl) T.isi boot_isinstance (pa_cons (pv 0) (pa_cons (pe_gref rfl (T.g _ (List.mem_of_getElem? (i := 80) rfl))) pa_nil))) pa_nil)))))))
      (pss_cons (ps_set (i := 1) scF.nd rfl (.inl rfl) (pe_op op_cat (pv 1) (pe_lst (pa_cons (pe_callB (Rx.call_isX (R := R)) (by rfl) T.isi boot_isinstance (pa_cons (pv 0) (pa_cons (pe_gref rfl (T.g _ (List.mem_of_getElem? (i := 81) rfl))) pa_nil))) (pa_cons (pe_callB (Rx.call_isX (R := R)) (by rfl) T.isi boot_isinstance (pa_cons (pv 0) (pa_cons (pe_gref rfl (T.g _ (List.mem_of_getElem? (i := 82) rfl))) pa_nil))) (pa_cons (pe_callB (Rx.call_isX (R := R)) (by rfl) T.isi boot_isinstance (pa_cons (pv 0) (pa_cons (pe_gref rfl (T.g _ (List.mem_of_getElem? (i := 83) rfl))) pa_nil))) (pa_cons (pe_callB (Rx.call_isX (R := R)) (by rfl) T.isi boot_isinstance (pa_cons (pv 0) (pa_cons (pe_gref rfl (T.g _ (List.mem_of_getElem? (i := 84) rfl))) pa_nil))) pa_nil)))))))
      (pss_one (ps_ret (pe_op op_cat (pv 1) (pe_lst (pa_cons (pe_callB (Rx.call_isX (R := R)) (by rfl) T.isi boot_isinstance (pa_cons (pv 0) (pa_cons (pe_gref rfl (T.g _ (List.mem_of_getElem? (i := 85) rfl))) pa_nil))) (pa_cons (pe_callB (Rx.call_isX (R := R)) (by rfl) T.isi boot_isinstance (pa_cons (pv 0) (pa_cons (pe_gref rfl (T.g _ (List.mem_of_getElem? (i := 86) rfl))) pa_nil))) (pa_cons (pe_callB (Rx.call_isX (R := R)) (by rfl) T.isi boot_isinstance (pa_cons (pv 0) (pa_cons (pe_gref rfl (T.g _ (List.mem_of_getElem? (i := 87) rfl))) pa_nil))) pa_nil)))))))))))))))))))))))))))), ?_⟩
    show tSeq (tAsg (tLst (taI K R gF0)) (gName 1)) (tGrow K R gFz gFs) _ [some (.ref a), none] H
    refine q_lstP (P := IsB) (eps_is T hE eC rfl gF0 (by decide +kernel)) (by rw [List.length_map]; decide +kernel) fun p0 z0 H0 n0 x0 h0 f0 => ?_
    refine grow_ok T hE eC (last := gFz) (by decide +kernel) gFs gF0 p0 z0 H0 (by decide +kernel) (by decide +kernel) x0 h0 f0 fun p H1 n1 e1 h1 => k p H1 n1 e1 ?_
    rw [h1]
    rfl
end
end K00
namespace Ez
open PySem L2 Evl
variable {α : Type}
def tChain (i : Nat) (rest : TS) : List TA → TS
  | [] => rest
  | g :: r => tSeq (tAsg (tOp rCat (tVar i) (tLst g)) (gName i)) (tChain i rest r)
theorem chain_ok {P : α → V → Hp → Prop} [Kept P] {i : Nat} {rest : TS} {D : Ends} {τ : L2.St} {H0 : Hp} (hi : i < τ.length) :
    ∀ (gs : List (TA × List α)) (dn : List α) (p : Addr) (zs : List V) (H : Hp), (∀ g ∈ gs, g.2.length ≤ 8 ∧ ∀ p H', Ex H0 H' → EvPs g.1 (τ.set i (some (.ref p))) H' P g.2) → dn.length + 8 * gs.length ≤ 10000 → Ex H0 H → H p = some (.lst zs) → F2 P H dn zs →
      (∀ p zs H1, Ex H0 H1 → H1 p = some (.lst zs) → F2 P H1 (dn ++ (gs.map (·.2)).flatten) zs → rest D (τ.set i (some (.ref p))) H1) →
      tChain i rest (gs.map (·.1)) D (τ.set i (some (.ref p))) H
  | [], dn, p, zs, H, _, hn, e, hp, f, k => k p zs H e hp (by simpa using f)
  | g :: gs, dn, p, zs, H, hg, hn, e, hp, f, k => by
    obtain ⟨g1, g2⟩ := hg g (by simp)
    simp only [List.length_cons] at hn
    refine q_catP (P := P) (i := i) (by simp [hi]) hp f (g2 p H e) ⟨by omega, by omega⟩ fun p2 z2 H2 n2 e2 h2 f2 => ?_
    rw [List.set_set]
    refine chain_ok hi gs (dn ++ g.2) p2 z2 H2 (fun y hy => hg y (by simp [hy])) (by simp; omega) (e.trans e2) h2 f2 fun p zs H1 h1 h2 h3 => k p zs H1 h1 h2 (by simpa using h3)
end Ez
namespace K00
open PySem PySem.Spec PyProof.Rows L2 Ez Evl
section
variable {P : Program} {w : World} {K : PySem.W.Frag} {mg : Str → Option Value} {base : Heap} {R : Addr}
def S1 (P : Program) (K : PySem.W.Frag) (R : Addr) (q : Str × Str) : Prop := ∃ st, Rx.SupT P K R (He.ga K q.1) st [q.2] ∧ Rx.Shape1 st q.2 ∧ (∀ v, Rx.SupB st [q.2] [v] [] [v]) ∧ (∀ v, Rx.SupB st [q.2] [] [(q.2, v)] [v]) ∧ q.2 ≠ "self" ∧ (q.2 == ("__debug__" : Str)) = false
def S2 (P : Program) (K : PySem.W.Frag) (R : Addr) (q : Str × Str × Str) : Prop := ∃ st, Rx.SupT P K R (He.ga K q.1) st [q.2.1, q.2.2] ∧ Rx.Shape2 st q.2.1 q.2.2 ∧ (∀ v v2, Rx.SupB st [q.2.1, q.2.2] [v, v2] [] [v, v2]) ∧ (∀ v v2, Rx.SupB st [q.2.1, q.2.2] [] [(q.2.2, v2), (q.2.1, v)] [v, v2]) ∧
  q.2.1 ≠ "self" ∧ q.2.2 ≠ "self" ∧ q.2.1 ≠ q.2.2 ∧ (q.2.1 == ("__debug__" : Str)) = false ∧ (q.2.2 == ("__debug__" : Str)) = false
section
variable {X : Cx} {x f f2 : Str} {e : Expr} {es : List Expr} {kws : List Keyword} {p pos : Pos} {ta tk : TA}
theorem pe_s1 (S : S1 X.prog X.K R (x, f)) (hs : X.mg "super" = none) (hr : Room 2 X.A) (gC : X.mg x = some (.ref (He.ga X.K x))) (hg : Gl X x) (ha : PA X (e :: es) ta) (hdb : (x == ("__debug__" : Str)) = false := by decide)
    (he : starEach (e :: es) X.env = (false, eval e X.env) :: starEach es X.env := by rfl) (hpl : (backTo pos (starEach es X.env)).any (·.1) = false := by rfl) : PE X (.Call (.Name x p) (e :: es) [] pos) (Rx.tMkS (He.ga X.K x) ta (Rx.mk1 f)) := by
  obtain ⟨st, T, sh, b1, b2, n1, n2⟩ := S
  exact Rx.pe_mkS1 T sh b1 n1 n2 hs hr gC hg ha hdb he hpl
theorem pe_s2 (S : S2 X.prog X.K R (x, f, f2)) (hs : X.mg "super" = none) (hr : Room 2 X.A) (gC : X.mg x = some (.ref (He.ga X.K x))) (hg : Gl X x) (ha : PA X (e :: es) ta) (hdb : (x == ("__debug__" : Str)) = false := by decide)
    (he : starEach (e :: es) X.env = (false, eval e X.env) :: starEach es X.env := by rfl) (hpl : (backTo pos (starEach es X.env)).any (·.1) = false := by rfl) : PE X (.Call (.Name x p) (e :: es) [] pos) (Rx.tMkS (He.ga X.K x) ta (Rx.mk2 f f2)) := by
  obtain ⟨st, T, sh, b1, b2, n1, n2, n3, n4, n5⟩ := S
  exact Rx.pe_mkS2 T sh b1 n1 n2 n3 n4 n5 hs hr gC hg ha hdb he hpl
theorem pe_k1 (S : S1 X.prog X.K R (x, f)) (hs : X.mg "super" = none) (hr : Room 2 X.A) (gC : X.mg x = some (.ref (He.ga X.K x))) (hg : Gl X x) (hkw : PK X kws tk)
    (hall : (backToKw pos (keywordEach kws X.env)).all (·.1.isSome) = true := by rfl) (hks : (backToKw pos (keywordEach kws X.env)).filterMap (·.1) = [f] := by rfl) (hdb : (x == ("__debug__" : Str)) = false := by decide)
    (hpl : ((backTo pos (starEach [] X.env)).any (·.1) || (backToKw pos (keywordEach kws X.env)).any (·.1.isNone)) = false := by rfl) : PE X (.Call (.Name x p) [] kws pos) (Rx.tMkS (He.ga X.K x) tk (Rx.mk1 f)) := by
  obtain ⟨st, T, sh, b1, b2, n1, n2⟩ := S
  exact Rx.pe_mkK1 T sh b2 n1 n2 hs hr gC hg hkw hall hks hdb hpl
theorem pe_k2 (S : S2 X.prog X.K R (x, f, f2)) (hs : X.mg "super" = none) (hr : Room 2 X.A) (gC : X.mg x = some (.ref (He.ga X.K x))) (hg : Gl X x) (hkw : PK X kws tk)
    (hall : (backToKw pos (keywordEach kws X.env)).all (·.1.isSome) = true := by rfl) (hks : (backToKw pos (keywordEach kws X.env)).filterMap (·.1) = [f2, f] := by rfl) (hdb : (x == ("__debug__" : Str)) = false := by decide)
    (hpl : ((backTo pos (starEach [] X.env)).any (·.1) || (backToKw pos (keywordEach kws X.env)).any (·.1.isNone)) = false := by rfl) : PE X (.Call (.Name x p) [] kws pos) (Rx.tMkS (He.ga X.K x) tk (Rx.mk2r f f2)) := by
  obtain ⟨st, T, sh, b1, b2, n1, n2, n3, n4, n5⟩ := S
  exact Rx.pe_mkK2 T sh b2 n1 n2 n3 n4 n5 hs hr gC hg hkw hall hks hdb hpl
end
/-- a make of the law: C(text), C(number), C(number, other) -/
inductive Mk where
  | p (x : Str) | s (x f : Str) | d (x f f2 : Str)
def Mk.nm : Mk → Str | .p x => x | .s x _ => x | .d x _ _ => x
def teMk (K : PySem.W.Frag) : Mk → TE
  | .p x => Rx.tMkP (He.ga K x) (tCons (tVar 3) tNil)
  | .s x f => Rx.tMkS (He.ga K x) (tCons (tVar 4) tNil) (Rx.mk1 f)
  | .d x f f2 => Rx.tMkS (He.ga K x) (tCons (tVar 4) (tCons (tVar 5) tNil)) (Rx.mk2 f f2)
def taMk (K : PySem.W.Frag) : List Mk → TA
  | [] => tNil
  | m :: r => tCons (teMk K m) (taMk K r)
/-- an error of the class at C -/
def IsE (C : Addr) (v : V) (H : Hp) : Prop := ∃ a fs, v = .ref a ∧ Rx.ErrO H a C fs
instance : Kept IsE := ⟨fun _ _ _ _ e h => h.elim fun a h => h.elim fun fs q => ⟨a, fs, q.1, q.2.ext e⟩⟩
theorem exo_ext {H : Hp} {a dx : Addr} {o1 o2 : HO} (ha : H a = none) (hd : H dx = none) : Ex H (upd (upd H dx o1) a o2) := fun b o e => by
  rw [upd_ne (ne_of_none e ha), upd_ne (ne_of_none e hd)]
  exact e
theorem evp_mk {H : Hp} {σ : L2.St} {tx : Str} {n o : Int} (h3 : σ[3]? = some (some (.str tx))) (h4 : σ[4]? = some (some (.int n))) (h5 : σ[5]? = some (some (.int o))) : ∀ m : Mk, EvP (teMk K m) σ H (IsE (He.ga K m.nm))
  | .p x => fun H1 e Q q => ⟨_, h3, by show 1 ≤ 1000; decide, fun a ha => q _ _ (Ex.new ha) ⟨a, [], rfl, .inl ⟨rfl, upd_same⟩⟩⟩
  | .s x f => fun H1 e Q q => ⟨_, h4, _, rfl, fun a dx ha hd ne => q _ _ (exo_ext ha hd) ⟨a, _, rfl, .inr ⟨dx, upd_same, by rw [upd_ne ne, upd_same]⟩⟩⟩
  | .d x f f2 => fun H1 e Q q => ⟨_, h4, _, h5, _, rfl, fun a dx ha hd ne => q _ _ (exo_ext ha hd) ⟨a, _, rfl, .inr ⟨dx, upd_same, by rw [upd_ne ne, upd_same]⟩⟩⟩
theorem eps_mk {H : Hp} {σ : L2.St} {tx : Str} {n o : Int} (h3 : σ[3]? = some (some (.str tx))) (h4 : σ[4]? = some (some (.int n))) (h5 : σ[5]? = some (some (.int o))) : ∀ g : List Mk, EvPs (taMk K g) σ H IsE (g.map fun m => He.ga K m.nm)
  | [] => eps_nil
  | m :: g => eps_cons (evp_mk h3 h4 h5 m) (eps_mk h3 h4 h5 g)
/-- C(number).f, C(f=number).f -/
def teXf (K : PySem.W.Frag) (R : Addr) (q : Str × Str) : TE := Rx.tXf K R q.2 (Rx.tMkS (He.ga K q.1) (tCons (tVar 4) tNil) (Rx.mk1 q.2))
def taXf (K : PySem.W.Frag) (R : Addr) : List (Str × Str) → TA
  | [] => tNil
  | m :: r => tCons (teXf K R m) (taXf K R r)
theorem eps_xf {H : Hp} {σ : L2.St} {n : Int} (h4 : σ[4]? = some (some (.int n))) : ∀ g : List (Str × Str), (∀ q ∈ g, S1 P K R q) → EvPs (taXf K R g) σ H IsI (g.map fun _ => n)
  | [], _ => eps_nil
  | q :: g, hg => by
    refine eps_cons (fun H1 e Q k => ?_) (eps_xf h4 g fun y hy => hg y (by simp [hy]))
    obtain ⟨st, T, _⟩ := hg q (by simp)
    exact ⟨_, h4, _, rfl, fun a dx ha hd ne => ⟨a, _, _, .int n, rfl, .inr ⟨dx, upd_same, by rw [upd_ne ne, upd_same]⟩, T.err, T.no _ (by simp), by simp, k _ _ (exo_ext ha hd) rfl⟩⟩
/-- the pair of the two attributes, made in order or the other way round -/
def teX2 (K : PySem.W.Frag) (R : Addr) (q : (Str × Str × Str) × Bool) : TE :=
  let mk : TE := if q.2 then Rx.tMkS (He.ga K q.1.1) (tCons (tVar 5) (tCons (tVar 4) tNil)) (Rx.mk2r q.1.2.1 q.1.2.2) else Rx.tMkS (He.ga K q.1.1) (tCons (tVar 4) (tCons (tVar 5) tNil)) (Rx.mk2 q.1.2.1 q.1.2.2)
  tTup (tCons (Rx.tXf K R q.1.2.1 mk) (tCons (Rx.tXf K R q.1.2.2 mk) tNil))
def taX2 (K : PySem.W.Frag) (R : Addr) : List ((Str × Str × Str) × Bool) → TA
  | [] => tNil
  | m :: r => tCons (teX2 K R m) (taX2 K R r)
theorem ev_x2 {H : Hp} {σ : L2.St} {n o : Int} (h4 : σ[4]? = some (some (.int n))) (h5 : σ[5]? = some (some (.int o))) {q : (Str × Str × Str) × Bool} (S : S2 P K R q.1) :
    EvP (teX2 K R q) σ H (IsT2 (n, o)) := by
  obtain ⟨⟨x, f, f2⟩, b⟩ := q
  obtain ⟨st, T, _, _, _, _, _, ne12, _⟩ := S
  have l1 : ([(f2, V.int o), (f, V.int n)] : List (Str × V)).lookup f = some (.int n) := by
    have : (f == f2) = false := by simpa using ne12
    simp [List.lookup, this]
  have l2 : ([(f2, V.int o), (f, V.int n)] : List (Str × V)).lookup f2 = some (.int o) := by simp [List.lookup]
  cases b with
  | false =>
    intro H1 e Q k
    refine ⟨_, h4, _, h5, _, rfl, fun a dx ha hd ne => ⟨a, _, _, .int n, rfl, .inr ⟨dx, upd_same, by rw [upd_ne ne, upd_same]⟩, T.err, T.no _ (by simp), l1, ?_⟩⟩
    refine ⟨_, h4, _, h5, _, rfl, fun a2 dx2 ha2 hd2 ne2 => ⟨a2, _, _, .int o, rfl, .inr ⟨dx2, upd_same, by rw [upd_ne ne2, upd_same]⟩, T.err, T.no _ (by simp), l2, ?_⟩⟩
    exact ⟨by show 2 ≤ sizeLine; decide, fun t ht => k _ _ (((exo_ext ha hd).trans (exo_ext ha2 hd2)).trans (Ex.new ht)) ⟨t, rfl, upd_same⟩⟩
  | true =>
    intro H1 e Q k
    refine ⟨_, h5, _, h4, _, rfl, fun a dx ha hd ne => ⟨a, _, _, .int n, rfl, .inr ⟨dx, upd_same, by rw [upd_ne ne, upd_same]⟩, T.err, T.no _ (by simp), l1, ?_⟩⟩
    refine ⟨_, h5, _, h4, _, rfl, fun a2 dx2 ha2 hd2 ne2 => ⟨a2, _, _, .int o, rfl, .inr ⟨dx2, upd_same, by rw [upd_ne ne2, upd_same]⟩, T.err, T.no _ (by simp), l2, ?_⟩⟩
    exact ⟨by show 2 ≤ sizeLine; decide, fun t ht => k _ _ (((exo_ext ha hd).trans (exo_ext ha2 hd2)).trans (Ex.new ht)) ⟨t, rfl, upd_same⟩⟩
theorem eps_x2 {H : Hp} {σ : L2.St} {n o : Int} (h4 : σ[4]? = some (some (.int n))) (h5 : σ[5]? = some (some (.int o))) : ∀ g : List ((Str × Str × Str) × Bool), (∀ q ∈ g, S2 P K R q.1) → EvPs (taX2 K R g) σ H IsT2 (g.map fun _ => (n, o))
  | [], _ => eps_nil
  | q :: g, hg => eps_cons (ev_x2 h4 h5 (hg q (by simp))) (eps_x2 h4 h5 g fun y hy => hg y (by simp [hy]))
end
end K00
namespace K00
open PySem PySem.Spec PyProof.Rows L2 Ez Evl
abbrev sLaw : Stmt := top 95
def lS1 : List (Str × Str) := [("BadAsks", "number"), ("BadChoices", "number"), ("BadLine", "number"), ("BadLink", "fault"), ("BadLog", "number"), ("BadModules", "fault"), ("BadRows", "number"), ("BadSigns", "at"), ("BadText", "at"), ("CannotDo", "word"), ("Clash", "name"), ("IllTyped", "clash"), ("NoStamp", "at"), ("NoSuch", "name"), ("NotAsked", "name"), ("NotBegin", "first"), ("NotRenaming", "fault"), ("NotSayable", "name"), ("NotThere", "at"), ("Twice", "at"), ("Unfit", "name"), ("Unjoined", "name"), ("Unlike", "place"), ("UnlikeReply", "number"), ("UnlikeRow", "number"), ("Unshelved", "number"), ("Wanting", "name")]
def lS2 : List (Str × Str × Str) := [("CannotDeal", "word", "name"), ("CannotMerge", "word", "name"), ("Refused", "number", "at")]
def gM0 : List Mk := [.p "BadArguments", .s "BadAsks" "number", .p "BadBase", .p "BadBook", .p "BadBundle", .p "BadCase"]
def gMs : List (List Mk) := [[.p "BadCellRow", .p "BadChanged", .s "BadChoices" "number", .p "BadClause", .p "BadCode", .p "BadCodes"], [.p "BadCount", .p "BadDeal", .p "BadDeed", .p "BadEdit", .p "BadHeight", .p "BadInputs"], [.p "BadJournal", .p "BadKept", .p "BadKinds", .s "BadLine" "number", .s "BadLink" "fault", .p "BadList"], [.s "BadLog" "number", .p "BadMerge", .s "BadModules" "fault", .p "BadMoment", .p "BadName", .p "BadNames"], [.p "BadNumber", .p "BadObjects", .p "BadOrder", .p "BadPairs", .p "BadPieces", .p "BadPlace"], [.p "BadPlaces", .p "BadProgram", .p "BadRegister", .s "BadRows" "number", .p "BadSheet", .p "BadShelf"], [.s "BadSigns" "at", .p "BadStamp", .p "BadStamped", .p "BadStamps", .p "BadStates", .p "BadStore"], [.p "BadSummary", .s "BadText" "at", .p "BadThing", .p "BadTrace", .p "BadValue", .p "BadWay"], [.p "BadWord", .d "CannotDeal" "word" "name", .s "CannotDo" "word", .d "CannotMerge" "word" "name", .s "Clash" "name", .p "Empty"], [.p "FirstStays", .s "IllTyped" "clash", .p "Large", .p "LineFull", .p "NoLine", .s "NoStamp" "at"], [.s "NoSuch" "name", .s "NotAsked" "name", .s "NotBegin" "first", .p "NotEven", .p "NotFree", .s "NotRenaming" "fault"], [.s "NotSayable" "name", .s "NotThere" "at", .p "NothingDone", .p "NothingUndone", .d "Refused" "number" "at", .p "TooGreat"], [.s "Twice" "at", .s "Unfit" "name", .s "Unjoined" "name", .s "Unlike" "place", .p "UnlikeData", .s "UnlikeReply" "number"], [.s "UnlikeRow" "number", .s "Unshelved" "number", .s "Wanting" "name"]]
def gT0 : List (Str × Str) := [("BadAsks", "number"), ("BadAsks", "number"), ("BadChoices", "number"), ("BadChoices", "number"), ("BadLine", "number"), ("BadLine", "number")]
def gTs : List (List (Str × Str)) := [[("BadLink", "fault"), ("BadLink", "fault"), ("BadLog", "number"), ("BadLog", "number"), ("BadModules", "fault"), ("BadModules", "fault")], [("BadRows", "number"), ("BadRows", "number"), ("BadSigns", "at"), ("BadSigns", "at"), ("BadText", "at"), ("BadText", "at")], [("CannotDo", "word"), ("CannotDo", "word"), ("Clash", "name"), ("Clash", "name"), ("IllTyped", "clash"), ("IllTyped", "clash")], [("NoStamp", "at"), ("NoStamp", "at"), ("NoSuch", "name"), ("NoSuch", "name"), ("NotAsked", "name"), ("NotAsked", "name")], [("NotBegin", "first"), ("NotBegin", "first"), ("NotRenaming", "fault"), ("NotRenaming", "fault"), ("NotSayable", "name"), ("NotSayable", "name")], [("NotThere", "at"), ("NotThere", "at"), ("Twice", "at"), ("Twice", "at"), ("Unfit", "name"), ("Unfit", "name")], [("Unjoined", "name"), ("Unjoined", "name"), ("Unlike", "place"), ("Unlike", "place"), ("UnlikeReply", "number"), ("UnlikeReply", "number")], [("UnlikeRow", "number"), ("UnlikeRow", "number"), ("Unshelved", "number"), ("Unshelved", "number"), ("Wanting", "name"), ("Wanting", "name")]]
def gB0 : List ((Str × Str × Str) × Bool) := [(("CannotDeal", "word", "name"), false), (("CannotDeal", "word", "name"), true)]
def gBs : List (List ((Str × Str × Str) × Bool)) := [[(("CannotMerge", "word", "name"), false), (("CannotMerge", "word", "name"), true)], [(("Refused", "number", "at"), false), (("Refused", "number", "at"), true)]]
section
variable {P : Program} {w : World} {K : PySem.W.Frag} {mg : Str → Option Value} {base : Heap} {R : Addr}
/-- further facts -/
structure Sp2 (P : Program) (K : PySem.W.Frag) (mg : Str → Option Value) (R : Addr) : Prop where
  s1 : ∀ q ∈ lS1, S1 P K R q
  s2 : ∀ q ∈ lS2, S2 P K R q
  pl : ∀ x ∈ nPlain, PySem.W.excIn K (He.ga K x) PySem.HandSPX.veTail "ValueError.__new__" = true
  sup : mg "super" = none
  ve : mg "ValueError" = none
  range : mg "range" = none
  len : mg "len" = none
  min : mg "min" = none
  enum : mg "enumerate" = none
  repr : mg "repr" = none
/-- the law's own defs -/
structure Lk (K : PySem.W.Frag) (mg : Str → Option Value) (fB fD fP fF : Addr) (fdB fdD fdP fdF : FuncData) : Prop where
  mgB : mg "_law_begun" = some (.ref fB)
  kpB : PySem.W.keepIn K (.ref fB) = true
  bB : Binds K fdB ["script"] []
  mgD : mg "_law_draw" = some (.ref fD)
  kpD : PySem.W.keepIn K (.ref fD) = true
  bD : Binds K fdD ["state", "size_here"] []
  mgP : mg "_law_pick" = some (.ref fP)
  kpP : PySem.W.keepIn K (.ref fP) = true
  bP : Binds K fdP ["state", "several"] []
  mgF : mg "_law_k00_flags" = some (.ref fF)
  kpF : PySem.W.keepIn K (.ref fF) = true
  bF : Binds K fdF ["error"] []
theorem scL : FnScope ["script", "state", "turn", "text", "number", "other", "made", "at", "error", "base", "told", "both", "place"] ["script"] (defScope sLaw) := ⟨rfl, rfl, rfl, by decide +kernel, rfl, by decide +kernel, by decide +kernel⟩
def spLaw (K : PySem.W.Frag) : Sp := fun vs H Q _ => ∃ a, ∃ cs : List Int, vs = [.ref a] ∧ SqL K H a (cs.map V.int) ∧ cs.length ≤ 63 ∧ ∀ H', Q (.bl true) H'
end
end K00
namespace K00
open PySem PySem.Spec PyProof.Rows L2 Ez Evl
section
variable {P : Program} {K : PySem.W.Frag} {mg : Str → Option Value} {R : Addr}
def tLenA (K : PySem.W.Frag) (i : Nat) : TE := tCB (fun xs H Q => ∃ p ys, xs = [.ref p] ∧ (SqL K H p ys ∨ SqT K H p ys) ∧ Q (.int ys.length) H) (tCons (tVar i) tNil)
def tFlags (K : PySem.W.Frag) (R : Addr) (i : Nat) : TE := tCall (spFlags K R) [] E0 (tCons (tVar i) tNil)
def tIsR (K : PySem.W.Frag) (R : Addr) (te : TE) : TE := tCB (Rx.rIsX K R) (tCons te (tCons (tC (.ref (He.ga K "RunError"))) tNil))
def tIsV (K : PySem.W.Frag) (R : Addr) (te : TE) : TE := tCB (Rx.rIsX K R) (tCons te (tCons (tC (.ty "ValueError")) tNil))
def tIsN (K : PySem.W.Frag) : TE := tCB (Rx.rIsV K) (tCons (Rx.tMkV (tCons (tVar 3) tNil)) (tCons (tC (.ref (He.ga K "RunError"))) tNil))
def tRF : TS := tRet (tC (.bl false))
def tEnumB (K : PySem.W.Frag) (R : Addr) : TS :=
  tSeq (tIfS (tTest (tOp (rNeD K) (tFlags K R 8) (tLc (iRng1 (tCons (tLenA K 6) tNil)) (gName 12) tYes (tOp rEq (tVar 12) (tVar 7)) [12]))) tRF tNext)
    (tIfS (tOr (tNot (tB (tIsR K R (tVar 8)))) (tNot (tB (tIsV K R (tVar 8))))) tRF tNext)
def tEnum (K : PySem.W.Frag) (R : Addr) : TS := tFor (iEnum K (tCons (tVar 6) tNil)) (gTup K 2 (gCons (gName 7) (gCons (gName 8) gNil))) (tEnumB K R)
theorem bools_dp {H : Hp} : ∀ bs : List Bool, DpAll K H (bs.map V.bl) (bs.map PyData.bool)
  | [] => .nil
  | b :: bs => .cons (.bl b) (bools_dp bs)
theorem bools_lay : ∀ bs : List Bool, PyData.canLayAll0 (bs.map PyData.bool) = true
  | [] => rfl
  | _ :: r => by simp [PyData.canLayAll0, PyData.canLay0, bools_lay r]
theorem bools_depth : ∀ bs : List Bool, PyData.depthAll (bs.map PyData.bool) = 0
  | [] => rfl
  | _ :: r => by simp [PyData.depthAll, PyData.depth, bools_depth r]
theorem bools_shaped (bs : List Bool) : SeqAt.shaped (.list (bs.map PyData.bool)) = true := by simp [SeqAt.shaped, PyData.canLay0, PyData.depth, bools_lay, bools_depth]
theorem isR_ev (T : Er K mg R) {te : TE} {σ : L2.St} {H : Hp} {C : Addr} (h : EvP te σ H (IsE C)) (eC : Rx.ErrC K R C) : Ev (tIsR K R te) σ H (.bl true) := fun H1 e Q q =>
  h H1 e _ fun v H2 e2 ⟨a, fs, hv, hE⟩ => by
    subst hv
    have hm : (PySem.Str.ofString "RunError") ∈ nErr := List.mem_of_getElem? (i := 0) rfl
    refine ⟨a, C, fs, .ref (He.ga K "RunError"), .ref (He.ga K "RunError"), _, rfl, hE, eC, fun u r => r, eC.kit (T.c _ hm), ?_⟩
    rw [show decide (He.ga K "RunError" = R) = true from decide_eq_true T.r.symm, Bool.or_true]
    exact q H2 e2
theorem isV_ev {te : TE} {σ : L2.St} {H : Hp} {C : Addr} (h : EvP te σ H (IsE C)) (eC : Rx.ErrC K R C) : Ev (tIsV K R te) σ H (.bl true) := fun H1 e Q q =>
  h H1 e _ fun v H2 e2 ⟨a, fs, hv, hE⟩ => by
    subst hv
    exact ⟨a, C, fs, .ty "ValueError", .type "ValueError", true, rfl, hE, eC, fun u r => r, eC.kitVE, q H2 e2⟩
theorem isN_ev (T : Er K mg R) {σ : L2.St} {H : Hp} {tx : Str} (h3 : σ[3]? = some (some (.str tx))) : Ev (tIsN K) σ H (.bl false) := fun H1 e Q q => by
  have hm : (PySem.Str.ofString "RunError") ∈ nErr := List.mem_of_getElem? (i := 0) rfl
  exact ⟨_, h3, by show 1 ≤ 1000; decide, fun a ha => ⟨a, .ref (He.ga K "RunError"), .ref (He.ga K "RunError"), false, rfl, upd_same, fun u r => r, Rx.kitVE_ref (T.c _ hm), q _ (Ex.new ha)⟩⟩
theorem flags_at (T : Er K mg R) {i : Nat} {C : Addr} (hC : (nErr.tail.map (He.ga K))[i]? = some C) :
    (nErr.tail.map fun x => decide (C = He.ga K x)) = (List.range 87).map fun (j : Nat) => decide (V.int (0 + ((j : Nat) : Int)) = V.int ((i : Nat) : Int)) := by
  have hl : nErr.tail.length = 87 := by decide +kernel
  have nd : (nErr.tail.map (He.ga K)).Nodup := by
    have := T.nd
    rw [show nErr = PySem.Str.ofString "RunError" :: nErr.tail from rfl, List.map_cons, List.nodup_cons] at this
    exact this.2
  obtain ⟨hi, rfl⟩ := List.getElem?_eq_some_iff.mp hC
  refine List.ext_getElem (by rw [List.length_map, List.length_map, List.length_range, hl]) fun j h1 h2 => ?_
  simp only [List.getElem_map, List.getElem_range]
  have hj : j < (nErr.tail.map (He.ga K)).length := by simpa using h1
  have e : ((nErr.tail.map (He.ga K))[i] = (nErr.tail.map (He.ga K))[j]) ↔ i = j := List.getElem_inj nd
  simp only [List.getElem_map] at e
  rw [Bool.eq_iff_iff, decide_eq_true_iff, decide_eq_true_iff, e]
  constructor
  · rintro rfl; simp
  · intro z; have := V.int.inj z; omega
theorem yes_t {σ : L2.St} {H : Hp} {A B : Hp → Prop} (h : A H) : tYes σ H fun b H3 => if b = true then A H3 else B H3 := by
  show (if true = true then A H else B H)
  exact iteT h
theorem rd_enum (T : Er K mg R) {D : Ends} {a0 p2 a1 a7 a8 a9 a10 a11 a12 : Option V} {ml : Addr} {tx : Str} {n o : Int} {H : Hp} {zs : List V} (hl : H ml = some (.lst zs)) (f : F2 IsE H (nErr.tail.map (He.ga K)) zs)
    (k : ∀ H1 a7 a8, Ex H H1 → D.nx [a0, p2, a1, some (.str tx), some (.int n), some (.int o), some (.ref ml), a7, a8, a9, a10, a11, a12] H1) :
    tEnum K R D [a0, p2, a1, some (.str tx), some (.int n), some (.int o), some (.ref ml), a7, a8, a9, a10, a11, a12] H := by
  have hz : zs.length = 87 := by rw [f.len, List.length_map]; decide +kernel
  refine ⟨_, rfl, ml, zs, rfl, SqL.of hl, for_enum (K := K) (a := ml) (xs := zs) (fun i σ H' => Ex H H' ∧ ∃ a7 a8, σ = [a0, p2, a1, some (.str tx), some (.int n), some (.int o), some (.ref ml), a7, a8, a9, a10, a11, a12]) ⟨Ex.refl H, _, _, rfl⟩
    (fun i σ H' ⟨e, _⟩ => SqL.of (e _ _ hl)) ?_ ?_⟩
  · rintro i x t σ H' hx ⟨e, a7, a8, rfl⟩ ht
    obtain ⟨C, hC, b, fs, rfl, hE⟩ := f.at hx
    have hCm : C ∈ nErr.tail.map (He.ga K) := List.mem_of_getElem? hC
    obtain ⟨y, hy, rfl⟩ := List.mem_map.mp hCm
    have eC := T.c y (T.tl hy)
    have e1 : Ex H (upd H' t (.tup [.int (i : Nat), .ref b])) := e.trans (Ex.new ht)
    generalize hH : upd H' t (.tup [.int (i : Nat), .ref b]) = H1 at e1
    have h1t : H1 t = some (.tup [.int (i : Nat), .ref b]) := by rw [← hH, upd_same]
    refine ⟨t, _, rfl, SqT.of h1t, rfl, _, _, rfl, _, _, rfl, rfl, ?_⟩
    -- flags(error) != [..]
    refine ⟨_, rfl, b, _, fs, rfl, hE.ext e1, eC, fun q Hq nq eq hq => ?_⟩
    refine ⟨_, rfl, ml, zs, rfl, .inl (SqL.of (eq _ _ (e1 _ _ hl))), _, rfl, by omega, by omega, fun d hd => ?_⟩
    refine lc_range (lo := 0) (n := ((zs.length : Nat) : Int).toNat) (fun j H' => Ex Hq H' ∧ H' d = some (.lst (((List.range j).map fun (j : Nat) => decide (V.int (0 + ((j : Nat) : Int)) = V.int ((i : Nat) : Int))).map V.bl))) ⟨Ex.new hd, upd_same⟩ ?_ ?_
    · rintro j H2 hj ⟨e2, h2⟩
      refine ⟨rfl, yes_t ?_⟩
      refine ⟨_, rfl, _, rfl, rfl, _, h2, ?_, Ex.mut e2 hd, ?_⟩
      · rw [List.length_map, List.length_map, List.length_range]; exact sz_lt (by omega)
      · rw [upd_same, List.range_succ, List.map_append, List.map_append]; rfl
    · rintro H2 ⟨e2, h2⟩
      have hn : ((zs.length : Nat) : Int).toNat = 87 := by omega
      rw [hn, ← flags_at T hC] at h2
      refine ⟨.list (((nErr.tail.map fun x => decide (He.ga K y = He.ga K x))).map PyData.bool), .list (((nErr.tail.map fun x => decide (He.ga K y = He.ga K x))).map PyData.bool), .lst (SqL.of (e2 _ _ hq)) (bools_dp _), .lst (SqL.of h2) (bools_dp _), bools_shaped _, bools_shaped _, _, rfl, ?_⟩
      rw [SeqAt.eqv_refl _ (SeqAt.canLay_of_shaped (bools_shaped _))]
      refine iteF ?_
      have e12 : Ex H H2 := (e1.trans eq).trans e2
      have evb : EvP (tVar 8) [a0, p2, a1, some (.str tx), some (.int n), some (.int o), some (.ref ml), some (.int (i : Nat)), some (.ref b), a9, a10, a11, a12] H2 (IsE (He.ga K y)) := fun H3 e3 Q q => ⟨_, rfl, q _ _ (Ex.refl _) ⟨b, fs, rfl, hE.ext (e12.trans e3)⟩⟩
      have et : EvT (tOr (tNot (tB (tIsR K R (tVar 8)))) (tNot (tB (tIsV K R (tVar 8))))) [a0, p2, a1, some (.str tx), some (.int n), some (.int o), some (.ref ml), some (.int (i : Nat)), some (.ref b), a9, a10, a11, a12] H2 false :=
        et_or (a := false) (b := false) (et_not (et_B (isR_ev T evb eC))) fun _ => et_not (et_B (isV_ev evb eC))
      refine et H2 (Ex.refl _) _ fun H3 e3 => iteF ?_
      exact ⟨e12.trans e3, _, _, rfl⟩
  · rintro σ H' ⟨e, a7, a8, rfl⟩
    exact k H' a7 a8 e
end
end K00
namespace K00
open PySem PySem.Spec PyProof.Rows L2 Ez Evl
section
variable {P : Program} {K : PySem.W.Frag} {mg : Str → Option Value} {R : Addr}
def tBase (K : PySem.W.Frag) : TS := tAsg (Rx.tMkP (He.ga K "RunError") (tCons (tVar 3) tNil)) (gName 9)
def tTest2 (K : PySem.W.Frag) (R : Addr) : TS := tIfS (tOr (tTest (tOp (rIn K false) (tC (.bl true)) (tFlags K R 9))) (tOr (tNot (tB (tIsV K R (tVar 9)))) (tB (tIsN K)))) tRF tNext
def tRepr (K : PySem.W.Frag) (te : TE) (i : Nat) (m : Int) : TS := tIfS (tTest (tOp rNe (tCB (Rp.rRepr K) (tCons (tVar i) tNil)) (tCB (Rp.rRepr K) (tCons (tOp rRep (tLst (tCons te tNil)) (tC (.int m))) tNil)))) tRF tNext
theorem flat_bools : ∀ bs : List Bool, (bs.map V.bl).all flatV = true
  | [] => rfl
  | b :: bs => by rw [List.map_cons, List.all_cons, flat_bools bs]; rfl
theorem rd_base (T : Er K mg R) {D : Ends} {a0 p2 a1 a6 a7 a8 a9 a10 a11 a12 : Option V} {tx : Str} {n o : Int} {H : Hp} {rest : TS}
    (k : ∀ H1 a9, Ex H H1 → rest D [a0, p2, a1, some (.str tx), some (.int n), some (.int o), a6, a7, a8, a9, a10, a11, a12] H1) :
    tSeq (tBase K) (tSeq (tTest2 K R) rest) D [a0, p2, a1, some (.str tx), some (.int n), some (.int o), a6, a7, a8, a9, a10, a11, a12] H := by
  have hm : (PySem.Str.ofString "RunError") ∈ nErr := List.mem_of_getElem? (i := 0) rfl
  refine ⟨_, rfl, by show 1 ≤ 1000; decide, fun a ha => ?_⟩
  have e1 : Ex H (upd H a (exo a (He.ga K "RunError") none)) := Ex.new ha
  generalize hH : upd H a (exo a (He.ga K "RunError") none) = H1 at e1
  have hE : Rx.ErrO H1 a (He.ga K "RunError") [] := .inl ⟨rfl, by rw [← hH, upd_same]⟩
  have eC := T.c _ hm
  have ev9 : ∀ H2, Ex H1 H2 → EvP (tVar 9) [a0, p2, a1, some (.str tx), some (.int n), some (.int o), a6, a7, a8, some (.ref a), a10, a11, a12] H2 (IsE (He.ga K "RunError")) := fun H2 e2 H3 e3 Q q => ⟨_, rfl, q _ _ (Ex.refl _) ⟨a, [], rfl, hE.ext (e2.trans e3)⟩⟩
  show tTest2 K R { D with nx := rest D } [a0, p2, a1, some (.str tx), some (.int n), some (.int o), a6, a7, a8, some (.ref a), a10, a11, a12] H1
  refine ⟨_, rfl, a, _, [], rfl, hE, eC, fun q Hq nq eq hq => ?_⟩
  refine ⟨q, _, rfl, .inl (SqL.of hq), rfl, flat_bools _, _, rfl, ?_⟩
  have hn : inV (V.bl true) ((nErr.tail.map fun x => decide (He.ga K (PySem.Str.ofString "RunError") = He.ga K x)).map V.bl) = false := by
    unfold inV
    rw [List.any_eq_false]
    intro z hz
    obtain ⟨b, hb, rfl⟩ := List.mem_map.mp hz
    obtain ⟨x, hx, rfl⟩ := List.mem_map.mp hb
    rw [decide_eq_false (fun z => T.ne hx (z.symm.trans T.r.symm))]
    simp [eqV]
  rw [hn]
  refine iteF ?_
  have et : EvT (tOr (tNot (tB (tIsV K R (tVar 9)))) (tB (tIsN K))) [a0, p2, a1, some (.str tx), some (.int n), some (.int o), a6, a7, a8, some (.ref a), a10, a11, a12] Hq false :=
    et_or (a := false) (b := false) (et_not (et_B (isV_ev (ev9 Hq eq) eC))) fun _ => et_B (isN_ev T rfl)
  exact et Hq (Ex.refl _) _ fun H3 e3 => iteF (k H3 _ ((e1.trans eq).trans e3))
theorem F2.dp {α : Type} {P : α → V → Hp → Prop} {dat : α → PyData} {H : Hp} (hd : ∀ a v, P a v H → Dp K H v (dat a)) {as : List α} {vs : List V} (f : F2 P H as vs) : DpAll K H vs (as.map dat) := by
  induction f with
  | nil => exact .nil
  | cons p _ ih => exact .cons (hd _ _ p) ih
theorem F2.rep {α : Type} {P : α → V → Hp → Prop} {H : Hp} {a : α} {v : V} (p : P a v H) : ∀ m : Nat, F2 P H (List.replicate m a) (List.replicate m v)
  | 0 => .nil
  | m + 1 => .cons p (F2.rep p m)
theorem flat_rep {α : Type} (v : α) : ∀ m : Nat, (List.replicate m [v]).flatten = List.replicate m v
  | 0 => rfl
  | m + 1 => by rw [List.replicate_succ, List.flatten_cons, flat_rep v m]; rfl
theorem rd_repr {α : Type} {P : α → V → Hp → Prop} [Kept P] {dat : α → PyData} (hd : ∀ a v H, P a v H → Dp K H v (dat a)) {D : Ends} {te : TE} {σ : L2.St} {H : Hp} {i m : Nat} {l : Addr} {zs : List V} {a : α} (hi : σ[i]? = some (some (.ref l))) (hl : H l = some (.lst zs))
    (f : F2 P H (List.replicate m a) zs) (he : EvP te σ H (P a)) (hm : m ≤ 1000) (sh : Rp.Sh (.list ((List.replicate m a).map dat))) (k : ∀ H1, Ex H H1 → D.nx σ H1) : tRepr K te i (m : Int) D σ H := by
  refine ⟨_, hi, .ref l, _, rfl, .lst (SqL.of hl) (F2.dp (fun a v p => hd a v H p) f), sh, ?_⟩
  refine he H (Ex.refl _) _ fun v H1 e1 p => ⟨by show 1 ≤ sizeLine; decide, fun q hq => ?_⟩
  have e2 : Ex H1 (upd H1 q (.lst [v])) := Ex.new hq
  refine ⟨q, m, [v], rfl, rfl, upd_same, by omega, by omega, ?_, fun r hr => ?_⟩
  · rw [Int.toNat_natCast, List.length_singleton, Nat.one_mul]
    exact sz_of (by omega)
  · rw [Int.toNat_natCast, flat_rep]
    have e3 : Ex (upd H1 q (.lst [v])) (upd (upd H1 q (.lst [v])) r (.lst (List.replicate m v))) := Ex.new hr
    refine ⟨.ref r, _, rfl, .lst (SqL.of upd_same) ?_, sh, rfl, _, rfl, ?_⟩
    · exact F2.dp (fun a v p => hd a v _ p) (F2.rep (Kept.keep _ _ _ _ (e2.trans e3) p) m)
    · rw [decide_eq_true rfl]
      exact iteF (k _ ((e1.trans e2).trans e3))
end
end K00
namespace K00
open PySem PySem.Spec PyProof.Rows L2 Ez Evl
section
variable {P : Program} {K : PySem.W.Frag} {mg : Str → Option Value} {R : Addr}
def tPick : TE := tCall Dr.spPick [] E0 (tCons (tVar 1) (tCons (tLst (tCons (tC (.str "")) (tCons (tC (.str "a")) (tCons (tC (.str "no row")) tNil)))) tNil))
def tDraw (n : Int) : TE := tCall Dr.spDraw [] E0 (tCons (tVar 1) (tCons (tC (.int n)) tNil))
def tTail (K : PySem.W.Frag) (R : Addr) : TS := tSeq (tEnum K R) (tSeq (tBase K) (tSeq (tTest2 K R) (tSeq (tAsg (tLst (taXf K R gT0)) (gName 10)) (tChain 10
  (tSeq (tRepr K (tVar 4) 10 54) (tSeq (tAsg (tLst (taX2 K R gB0)) (gName 11)) (tChain 11 (tRepr K (tTup (tCons (tVar 4) (tCons (tVar 5) tNil))) 11 6) (gBs.map (taX2 K R))))) (gTs.map (taXf K R))))))
def tTurn (K : PySem.W.Frag) (R : Addr) : TS := tSeq (tPar3 3 4 5 (tCons tPick (tCons (tDraw 100) (tCons (tDraw 100) tNil)))) (tSeq (tAsg (tLst (taMk K gM0)) (gName 6)) (tChain 6 (tTail K R) (gMs.map (taMk K))))
theorem int_dp {K : PySem.W.Frag} (a : Int) (v : V) (H : Hp) (h : IsI a v H) : Dp K H v (.int a) := by
  obtain rfl : v = .int a := h
  exact .int a
theorem t2_dp {K : PySem.W.Frag} (a : Int × Int) (v : V) (H : Hp) (h : IsT2 a v H) : Dp K H v (.tuple [.int a.1, .int a.2]) := by
  obtain ⟨t, rfl, ht⟩ := h
  exact .tup (SqT.of ht) (.cons (.int _) (.cons (.int _) .nil))
theorem small_sh {n : Int} (h0 : 0 ≤ n) (h1 : n < 100) : Rs.ShN 0 2 (.int n) := Rs.sh_nat (n := 0) (k := 2) h0 (by decide) (by simpa using h1) (Nat.lt_of_le_of_lt (Nat.log2_le_self _) (by omega))
theorem told_sh {n : Int} (h0 : 0 ≤ n) (h1 : n < 100) : Rp.Sh (.list ((List.replicate 54 n).map PyData.int)) := by
  refine (Rs.sh_list (k := 0) (m := 2) fun d hd => ?_).Sh (by decide) (by simp; decide)
  obtain ⟨z, hz, rfl⟩ := List.mem_map.mp hd
  rw [List.eq_of_mem_replicate hz]
  exact small_sh h0 h1
theorem both_sh {n o : Int} (h0 : 0 ≤ n) (h1 : n < 100) (h2 : 0 ≤ o) (h3 : o < 100) : Rp.Sh (.list ((List.replicate 6 (n, o)).map fun q => .tuple [.int q.1, .int q.2])) := by
  refine (Rs.sh_list (k := 1) (m := 11) fun d hd => ?_).Sh (by decide) (by simp; decide)
  obtain ⟨z, hz, rfl⟩ := List.mem_map.mp hd
  rw [List.eq_of_mem_replicate hz]
  refine (Rs.sh_tuple (k := 0) (m := 2) fun d hd => ?_).le (by decide) (by simp)
  simp only [List.mem_cons, List.not_mem_nil, or_false] at hd
  rcases hd with rfl | rfl
  · exact small_sh h0 h1
  · exact small_sh h2 h3
theorem evp_t2 {σ : L2.St} {H : Hp} {n o : Int} (h4 : σ[4]? = some (some (.int n))) (h5 : σ[5]? = some (some (.int o))) : EvP (tTup (tCons (tVar 4) (tCons (tVar 5) tNil))) σ H (IsT2 (n, o)) := fun H8 e8 Q q =>
  ⟨_, h4, _, h5, by show 2 ≤ sizeLine; decide, fun t ht => q _ _ (Ex.new ht) ⟨t, rfl, upd_same⟩⟩
theorem rd_tail (T : Er K mg R) (S : Sp2 P K mg R) {D : Ends} {a0 p2 a1 a7 a8 a9 a10 a11 a12 : Option V} {ml : Addr} {tx : Str} {n o : Int} {H : Hp} {zs : List V} (hn : 0 ≤ n ∧ n < 100) (ho : 0 ≤ o ∧ o < 100) (hl : H ml = some (.lst zs)) (f : F2 IsE H (nErr.tail.map (He.ga K)) zs)
    (k : ∀ H1 a6 a7 a8 a9 a10 a11, Ex H H1 → D.nx [a0, p2, a1, some (.str tx), some (.int n), some (.int o), a6, a7, a8, a9, a10, a11, a12] H1) :
    tTail K R D [a0, p2, a1, some (.str tx), some (.int n), some (.int o), some (.ref ml), a7, a8, a9, a10, a11, a12] H := by
  refine rd_enum T hl f fun H1 a7 a8 e1 => ?_
  refine rd_base T fun H2 a9 e2 => ?_
  refine q_lstP (P := IsI) (eps_xf (P := P) rfl gT0 fun q hq => S.s1 q (by revert q; decide +kernel)) (by rw [List.length_map]; decide +kernel) fun p z H3 n3 e3 h3 f3 => ?_
  refine chain_ok (P := IsI) (τ := [a0, p2, a1, some (.str tx), some (.int n), some (.int o), some (.ref ml), a7, a8, a9, a10, a11, a12]) (i := 10) (by simp) (H0 := H3) (gTs.map fun g => (taXf K R g, g.map fun _ => n)) _ p z H3 ?_ (by simp; decide +kernel) (Ex.refl _) h3 f3 fun pt z H4 e4 h4 f4 => ?_
  · intro g hg
    obtain ⟨g', hg', rfl⟩ := List.mem_map.mp hg
    have this : ∀ g ∈ gTs, g.length ≤ 8 ∧ ∀ q ∈ g, q ∈ lS1 := by decide +kernel
    obtain ⟨t1, t2⟩ := this g' hg'
    exact ⟨by rw [List.length_map]; exact t1, fun p H' _ => eps_xf (P := P) rfl g' fun q hq => S.s1 q (t2 q hq)⟩
  have e54 : (gT0.map fun _ => n) ++ ((gTs.map fun g => (taXf K R g, g.map fun _ => n)).map (·.2)).flatten = List.replicate 54 n := by rfl
  rw [e54] at f4
  refine rd_repr (P := IsI) (dat := PyData.int) (m := 54) int_dp rfl h4 f4 (evp_of (ev_var (v := .int n) rfl) fun _ => rfl) (by decide) (told_sh hn.1 hn.2) fun H5 e5 => ?_
  refine q_lstP (P := IsT2) (eps_x2 (P := P) (n := n) (o := o) rfl rfl gB0 fun q hq => S.s2 q.1 ?_) (by rw [List.length_map]; decide +kernel) fun p z H6 n6 e6 h6 f6 => ?_
  · have : ∀ q ∈ gB0, q.1 ∈ lS2 := by decide +kernel
    exact this q hq
  refine chain_ok (P := IsT2) (τ := [a0, p2, a1, some (.str tx), some (.int n), some (.int o), some (.ref ml), a7, a8, a9, some (.ref pt), a11, a12]) (i := 11) (by simp) (H0 := H6) (gBs.map fun g => (taX2 K R g, g.map fun _ => (n, o))) _ p z H6 ?_ (by simp; decide +kernel) (Ex.refl _) h6 f6 fun p z H7 e7 h7 f7 => ?_
  · intro g hg
    obtain ⟨g', hg', rfl⟩ := List.mem_map.mp hg
    have this : ∀ g ∈ gBs, g.length ≤ 8 ∧ ∀ q ∈ g, q.1 ∈ lS2 := by decide +kernel
    obtain ⟨t1, t2⟩ := this g' hg'
    exact ⟨by rw [List.length_map]; exact t1, fun p H' _ => eps_x2 (P := P) rfl rfl g' fun q hq => S.s2 q.1 (t2 q hq)⟩
  have e6' : (gB0.map fun _ => (n, o)) ++ ((gBs.map fun g => (taX2 K R g, g.map fun _ => (n, o))).map (·.2)).flatten = List.replicate 6 (n, o) := by rfl
  rw [e6'] at f7
  refine rd_repr (P := IsT2) (dat := fun q => .tuple [.int q.1, .int q.2]) (m := 6) t2_dp rfl h7 f7 (evp_t2 rfl rfl) (by decide) (both_sh hn.1 hn.2 ho.1 ho.2) fun H8 e8 => ?_
  exact k H8 _ _ _ _ _ _ (((((((e1.trans e2).trans e3).trans e4).trans e5).trans e6).trans e7).trans e8)
theorem St.ext {H H' : Hp} {p g c : Addr} {m : Nat} (S : Dr.St H p g c m) (e : Ex H H') : Dr.St H' p g c m := by
  obtain ⟨⟨gs, cs, l, t, ht, h1, h2, h3, h4⟩, ne⟩ := S
  exact ⟨⟨gs, cs, l, t, ht, e _ _ h1, e _ _ h2, e _ _ h3, h4⟩, ne⟩
theorem St.g {H : Hp} {p g c : Addr} {m : Nat} (S : Dr.St H p g c m) : ∃ xs, H g = some (.lst xs) := by
  obtain ⟨⟨gs, cs, l, t, ht, h1, h2, h3, h4⟩, ne⟩ := S
  exact ⟨_, h2⟩
theorem three_strs : ∀ (i : Nat) (x : V), ([.str "", .str "a", .str "no row"] : List V)[i]? = some x → ∃ tx : Str, x = .str tx
  | 0, x, h => ⟨_, (Option.some.inj h).symm⟩
  | 1, x, h => ⟨_, (Option.some.inj h).symm⟩
  | 2, x, h => ⟨_, (Option.some.inj h).symm⟩
  | n + 3, x, h => by simp at h
theorem rd_turn (T : Er K mg R) (S : Sp2 P K mg R) {D : Ends} {a0 a2 a3 a4 a5 a6 a7 a8 a9 a10 a11 a12 : Option V} {p g c : Addr} {m : Nat} {H : Hp} (hS : Dr.St H p g c m) (hm : m + 3 < 2 ^ 40)
    (k : ∀ H1 a3 a4 a5 a6 a7 a8 a9 a10 a11, Dr.St H1 p g c (m + 3) → D.nx [a0, some (.ref p), a2, a3, a4, a5, a6, a7, a8, a9, a10, a11, a12] H1) :
    tTurn K R D [a0, some (.ref p), a2, a3, a4, a5, a6, a7, a8, a9, a10, a11, a12] H := by
  refine ⟨_, rfl, by show 3 ≤ sizeLine; decide, fun l hl => ?_⟩
  have e1 : Ex H (upd H l (.lst [.str "", .str "a", .str "no row"])) := Ex.new hl
  obtain ⟨gx, hg⟩ := St.g hS
  refine ⟨p, g, c, m, l, _, rfl, upd_same, (fun z => by rw [z, hg] at hl; cases hl), by decide, by decide, St.ext hS e1, by omega, fun i x H1 hx ex1 S1 => ?_⟩
  obtain ⟨tx, rfl⟩ := three_strs i x hx
  refine ⟨_, rfl, p, g, c, m + 1, 100, rfl, by decide, by decide, S1, by omega, fun n H2 n0 n1 ex2 S2 => ?_⟩
  refine ⟨_, rfl, p, g, c, m + 2, 100, rfl, by decide, by decide, S2, by omega, fun o H3 o0 o1 ex3 S3 => ?_⟩
  refine ⟨_, _, _, rfl, ?_⟩
  refine q_lstP (P := IsE) (eps_mk (n := n) (o := o) (tx := tx) rfl rfl rfl gM0) (by rw [List.length_map]; decide +kernel) fun q z H4 n4 e4 h4 f4 => ?_
  refine chain_ok (P := IsE) (τ := [a0, some (.ref p), a2, some (.str tx), some (.int n), some (.int o), a6, a7, a8, a9, a10, a11, a12]) (i := 6) (by simp) (H0 := H4) (gMs.map fun g => (taMk K g, g.map fun m => He.ga K m.nm)) _ q z H4 ?_ (by simp; decide +kernel) (Ex.refl _) h4 f4 fun q z H5 e5 h5 f5 => ?_
  · intro g hg
    obtain ⟨g', hg', rfl⟩ := List.mem_map.mp hg
    have this : ∀ g ∈ gMs, g.length ≤ 8 := by decide +kernel
    exact ⟨by rw [List.length_map]; exact this g' hg', fun p H' _ => eps_mk rfl rfl rfl g'⟩
  have en : (gM0.map fun m => He.ga K m.nm) ++ ((gMs.map fun g => (taMk K g, g.map fun m => He.ga K m.nm)).map (·.2)).flatten = nErr.tail.map (He.ga K) := by rfl
  rw [en] at f5
  exact rd_tail T S ⟨n0, n1⟩ ⟨o0, o1⟩ h5 f5 fun H6 a6 a7 a8 a9 a10 a11 e6 => k H6 _ _ _ _ _ _ _ _ _ (St.ext S3 ((e4.trans e5).trans e6))
def tLaw (K : PySem.W.Frag) (R : Addr) : TS := tSeq (tAsg (tCall (Dr.spBegun (K := K)) [] E0 (tCons (tVar 0) tNil)) (gName 1))
  (tSeq (tFor (iRng1 (tCons (tOp (rI0 fun i j => .int (i + j)) (tC (.int 1)) (tCB (fun xs H Q => ∃ i j, xs = [.int i, .int j] ∧ Q (.int (if j < i then j else i)) H) (tCons (tLenA K 0) (tCons (tC (.int 3)) tNil)))) tNil)) (gName 2) (tTurn K R)) (tRet (tC (.bl true))))
theorem rd_law (T : Er K mg R) (S : Sp2 P K mg R) {D : Ends} {a : Addr} {cs : List Int} {H : Hp} (ha : SqL K H a (cs.map V.int)) (la : cs.length ≤ 63) (k : ∀ H', D.rt (.bl true) H') :
    tLaw K R D [some (.ref a), none, none, none, none, none, none, none, none, none, none, none, none] H := by
  refine ⟨_, rfl, a, cs, rfl, ha, la, fun p g c H1 hp hg hc ex S0 => ?_⟩
  have ha1 := ex_l ex ha
  refine ⟨_, rfl, a, _, rfl, .inl ha1, _, _, rfl, _, _, rfl, rfl, ?_⟩
  obtain ⟨z, hz⟩ : ∃ z : Int, z = ((1 : Int) + if (3 : Int) < (((cs.map V.int).length : Nat) : Int) then 3 else (((cs.map V.int).length : Nat) : Int)) := ⟨_, rfl⟩
  have hz1 : 0 ≤ z ∧ z ≤ 4 := by
    rw [hz]
    split <;> omega
  refine ⟨z, by subst hz; rfl, by omega, by omega, for_range (lo := 0) (n := z.toNat) (fun i σ H' => (∃ a2 a3 a4 a5 a6 a7 a8 a9 a10 a11, σ = [some (.ref a), some (.ref p), a2, a3, a4, a5, a6, a7, a8, a9, a10, a11, none]) ∧ Dr.St H' p g c (3 * i)) ⟨⟨_, _, _, _, _, _, _, _, _, _, rfl⟩, S0⟩ ?_ ?_⟩
  · rintro i σ H' hi ⟨⟨a2, a3, a4, a5, a6, a7, a8, a9, a10, a11, rfl⟩, Si⟩
    have e40 : (2 : Nat) ^ 40 = 1099511627776 := by decide
    exact rd_turn T S Si (by rw [e40]; omega) fun H2 a3 a4 a5 a6 a7 a8 a9 a10 a11 S2 => ⟨⟨_, _, _, _, _, _, _, _, _, _, rfl⟩, S2⟩
  · rintro σ H' ⟨⟨a2, a3, a4, a5, a6, a7, a8, a9, a10, a11, rfl⟩, Si⟩
    exact k H'
end
end K00
namespace K00
open PySem PySem.Spec PyProof.Rows L2 Ez Evl
section
variable {P : Program} {w : World} {K : PySem.W.Frag} {mg : Str → Option Value} {base : Heap} {R : Addr}
theorem ok_law {f fB fD fP fF : Addr} {fd fdB fdD fdP fdF : FuncData} (F : Dr.FnP K "law" sLaw f fd) (T : Er K mg R) (S : Sp2 P K mg R) (L : Lk K mg fB fD fP fF fdB fdD fdP fdF)
    (GB : FnOk P w K mg base CX0 1 fB fdB ["script"] (Dr.spBegun (K := K))) (GD : FnOk P w K mg base CX0 2 fD fdD ["state", "size_here"] Dr.spDraw) (GP : FnOk P w K mg base CX0 3 fP fdP ["state", "several"] Dr.spPick) (GF : FnOk P w K mg base CX0 1 fF fdF ["error"] (spFlags K R)) :
    Rg.FnG P w K mg base CX0 4 f fd ["script"] (spLaw K) := by
  refine Rg.okG F scL (fun vs H Q E h => ?_) (fun cdv A outer s H vs Q E hgd0 hr h => ?_)
  · obtain ⟨a, cs, rfl, _⟩ := h
    rfl
  · obtain ⟨a, cs, rfl, ha, la, k⟩ := h
    have hu := hu_of hr
    have hr3 := hr.mono (show 1 ≤ 3 by decide)
    have hr2 := hr.mono (show 2 ≤ 3 by decide)
    have hr1 := hr.mono (show 1 ≤ 3 by decide)
    have hgd := hgd0
    refine ⟨_, PSs.nox (pss_cons (ps_set (i := 1) scL.nd rfl (.inl rfl) (pe_call GB hr3 rfl L.mgB L.kpB L.bB .nil pass0 (pa_cons (pv 0) pa_nil)))
    (pss_cons (ps_for PassesOwn.never rfl (pi_range1 (by rfl) S.range (pa_cons (pe_op op_add pe_int (pe_callB (call_min2 rfl) (by rfl) S.min (by decide +kernel) (pa_cons (pe_callB call_len_seq (by rfl) S.len PySem.boot_len (pa_cons (pv 0) pa_nil)) (pa_cons pe_int pa_nil)))) pa_nil)) (pg_name (i := 2) scL.nd rfl (.inl rfl))
      (pss_cons (ps_par3 (i := 3) (j := 4) (l := 5) (by rfl) scL.nd rfl rfl rfl (by decide) (by decide) (by decide) rfl rfl rfl (pa_cons (pe_call GP hr rfl L.mgP L.kpP L.bP .nil pass0 (pa_cons (pv 1) (pa_cons (pe_lst (pa_cons pe_str (pa_cons pe_str (pa_cons pe_str pa_nil)))) pa_nil))) (pa_cons (pe_call GD hr2 rfl L.mgD L.kpD L.bD .nil pass0 (pa_cons (pv 1) (pa_cons pe_int pa_nil))) (pa_cons (pe_call GD hr2 rfl L.mgD L.kpD L.bD .nil pass0 (pa_cons (pv 1) (pa_cons pe_int pa_nil))) pa_nil))) (by rfl))
      (pss_cons (ps_set (i := 6) scL.nd rfl (.inl rfl) (pe_lst (pa_cons (Rx.pe_mkP (S.pl _ (List.mem_of_getElem? (i := 1) rfl)) (T.c _ (List.mem_of_getElem? (i := 1) rfl)).kp (T.g _ (List.mem_of_getElem? (i := 1) rfl)) (by rfl) (pa_cons (pv 3) pa_nil)) (pa_cons (pe_s1 (S.s1 _ (List.mem_of_getElem? (i := 0) rfl)) S.sup hr2 (T.g _ (List.mem_of_getElem? (i := 2) rfl)) (by rfl) (pa_cons (pv 4) pa_nil)) (pa_cons (Rx.pe_mkP (S.pl _ (List.mem_of_getElem? (i := 2) rfl)) (T.c _ (List.mem_of_getElem? (i := 3) rfl)).kp (T.g _ (List.mem_of_getElem? (i := 3) rfl)) (by rfl) (pa_cons (pv 3) pa_nil)) (pa_cons (Rx.pe_mkP (S.pl _ (List.mem_of_getElem? (i := 3) rfl)) (T.c _ (List.mem_of_getElem? (i := 4) rfl)).kp (T.g _ (List.mem_of_getElem? (i := 4) rfl)) (by rfl) (pa_cons (pv 3) pa_nil)) (pa_cons (Rx.pe_mkP (S.pl _ (List.mem_of_getElem? (i := 4) rfl)) (T.c _ (List.mem_of_getElem? (i := 5) rfl)).kp (T.g _ (List.mem_of_getElem? (i := 5) rfl)) (by rfl) (pa_cons (pv 3) pa_nil)) (pa_cons (Rx.pe_mkP (S.pl _ (List.mem_of_getElem? (i := 5) rfl)) (T.c _ (List.mem_of_getElem? (i := 6) rfl)).kp (T.g _ (List.mem_of_getElem? (i := 6) rfl)) (by rfl) (pa_cons (pv 3) pa_nil)) pa_nil))))))))
      (pss_cons (ps_set (i := 6) scL.nd rfl (.inl rfl) (pe_op op_cat (pv 6) (pe_lst (pa_cons (Rx.pe_mkP (S.pl _ (List.mem_of_getElem? (i := 6) rfl)) (T.c _ (List.mem_of_getElem? (i := 7) rfl)).kp (T.g _ (List.mem_of_getElem? (i := 7) rfl)) (by rfl) (pa_cons (pv 3) pa_nil)) (pa_cons (Rx.pe_mkP (S.pl _ (List.mem_of_getElem? (i := 7) rfl)) (T.c _ (List.mem_of_getElem? (i := 8) rfl)).kp (T.g _ (List.mem_of_getElem? (i := 8) rfl)) (by rfl) (pa_cons (pv 3) pa_nil)) (pa_cons (pe_s1 (S.s1 _ (List.mem_of_getElem? (i := 1) rfl)) S.sup hr2 (T.g _ (List.mem_of_getElem? (i := 9) rfl)) (by rfl) (pa_cons (pv 4) pa_nil)) (pa_cons (Rx.pe_mkP (S.pl _ (List.mem_of_getElem? (i := 8) rfl)) (T.c _ (List.mem_of_getElem? (i := 10) rfl)).kp (T.g _ (List.mem_of_getElem? (i := 10) rfl)) (by rfl) (pa_cons (pv 3) pa_nil)) (pa_cons (Rx.pe_mkP (S.pl _ (List.mem_of_getElem? (i := 9) rfl)) (T.c _ (List.mem_of_getElem? (i := 11) rfl)).kp (T.g _ (List.mem_of_getElem? (i := 11) rfl)) (by rfl) (pa_cons (pv 3) pa_nil)) (pa_cons (Rx.pe_mkP (S.pl _ (List.mem_of_getElem? (i := 10) rfl)) (T.c _ (List.mem_of_getElem? (i := 12) rfl)).kp (T.g _ (List.mem_of_getElem? (i := 12) rfl)) (by rfl) (pa_cons (pv 3) pa_nil)) pa_nil)))))))))
      (pss_cons (ps_set (i := 6) scL.nd rfl (.inl rfl) (pe_op op_cat (pv 6) (pe_lst (pa_cons (Rx.pe_mkP (S.pl _ (List.mem_of_getElem? (i := 11) rfl)) (T.c _ (List.mem_of_getElem? (i := 13) rfl)).kp (T.g _ (List.mem_of_getElem? (i := 13) rfl)) (by rfl) (pa_cons (pv 3) pa_nil)) (pa_cons (Rx.pe_mkP (S.pl _ (List.mem_of_getElem? (i := 12) rfl)) (T.c _ (List.mem_of_getElem? (i := 14) rfl)).kp (T.g _ (List.mem_of_getElem? (i := 14) rfl)) (by rfl) (pa_cons (pv 3) pa_nil)) (pa_cons (Rx.pe_mkP (S.pl _ (List.mem_of_getElem? (i := 13) rfl)) (T.c _ (List.mem_of_getElem? (i := 15) rfl)).kp (T.g _ (List.mem_of_getElem? (i := 15) rfl)) (by rfl) (pa_cons (pv 3) pa_nil)) (pa_cons (Rx.pe_mkP (S.pl _ (List.mem_of_getElem? (i := 14) rfl)) (T.c _ (List.mem_of_getElem? (i := 16) rfl)).kp (T.g _ (List.mem_of_getElem? (i := 16) rfl)) (by rfl) (pa_cons (pv 3) pa_nil)) (pa_cons (Rx.pe_mkP (S.pl _ (List.mem_of_getElem? (i := 15) rfl)) (T.c _ (List.mem_of_getElem? (i := 17) rfl)).kp (T.g _ (List.mem_of_getElem? (i := 17) rfl)) (by rfl) (pa_cons (pv 3) pa_nil)) (pa_cons (Rx.pe_mkP (S.pl _ (List.mem_of_getElem? (i := 16) rfl)) (T.c _ (List.mem_of_getElem? (i := 18) rfl)).kp (T.g _ (List.mem_of_getElem? (i := 18) rfl)) (by rfl) (pa_cons (pv 3) pa_nil)) pa_nil)))))))))
      (pss_cons (ps_set (i := 6) scL.nd rfl (.inl rfl) (pe_op op_cat (pv 6) (pe_lst (pa_cons (Rx.pe_mkP (S.pl _ (List.mem_of_getElem? (i := 17) rfl)) (T.c _ (List.mem_of_getElem? (i := 19) rfl)).kp (T.g _ (List.mem_of_getElem? (i := 19) rfl)) (by rfl) (pa_cons (pv 3) pa_nil)) (pa_cons (Rx.pe_mkP (S.pl _ (List.mem_of_getElem? (i := 18) rfl)) (T.c _ (List.mem_of_getElem? (i := 20) rfl)).kp (T.g _ (List.mem_of_getElem? (i := 20) rfl)) (by rfl) (pa_cons (pv 3) pa_nil)) (pa_cons (Rx.pe_mkP (S.pl _ (List.mem_of_getElem? (i := 19) rfl)) (T.c _ (List.mem_of_getElem? (i := 21) rfl)).kp (T.g _ (List.mem_of_getElem? (i := 21) rfl)) (by rfl) (pa_cons (pv 3) pa_nil)) (pa_cons (pe_s1 (S.s1 _ (List.mem_of_getElem? (i := 2) rfl)) S.sup hr2 (T.g _ (List.mem_of_getElem? (i := 22) rfl)) (by rfl) (pa_cons (pv 4) pa_nil)) (pa_cons (pe_s1 (S.s1 _ (List.mem_of_getElem? (i := 3) rfl)) S.sup hr2 (T.g _ (List.mem_of_getElem? (i := 23) rfl)) (by rfl) (pa_cons (pv 4) pa_nil)) (pa_cons (Rx.pe_mkP (S.pl _ (List.mem_of_getElem? (i := 20) rfl)) (T.c _ (List.mem_of_getElem? (i := 24) rfl)).kp (T.g _ (List.mem_of_getElem? (i := 24) rfl)) (by rfl) (pa_cons (pv 3) pa_nil)) pa_nil)))))))))
      (pss_cons (ps_set (i := 6) scL.nd rfl (.inl rfl) (pe_op op_cat (pv 6) (pe_lst (pa_cons (pe_s1 (S.s1 _ (List.mem_of_getElem? (i := 4) rfl)) S.sup hr2 (T.g _ (List.mem_of_getElem? (i := 25) rfl)) (by rfl) (pa_cons (pv 4) pa_nil)) (pa_cons (Rx.pe_mkP (S.pl _ (List.mem_of_getElem? (i := 21) rfl)) (T.c _ (List.mem_of_getElem? (i := 26) rfl)).kp (T.g _ (List.mem_of_getElem? (i := 26) rfl)) (by rfl) (pa_cons (pv 3) pa_nil)) (pa_cons (pe_s1 (S.s1 _ (List.mem_of_getElem? (i := 5) rfl)) S.sup hr2 (T.g _ (List.mem_of_getElem? (i := 27) rfl)) (by rfl) (pa_cons (pv 4) pa_nil)) (pa_cons (Rx.pe_mkP (S.pl _ (List.mem_of_getElem? (i := 22) rfl)) (T.c _ (List.mem_of_getElem? (i := 28) rfl)).kp (T.g _ (List.mem_of_getElem? (i := 28) rfl)) (by rfl) (pa_cons (pv 3) pa_nil)) (pa_cons (Rx.pe_mkP (S.pl _ (List.mem_of_getElem? (i := 23) rfl)) (T.c _ (List.mem_of_getElem? (i := 29) rfl)).kp (T.g _ (List.mem_of_getElem? (i := 29) rfl)) (by rfl) (pa_cons (pv 3) pa_nil)) (pa_cons (Rx.pe_mkP (S.pl _ (List.mem_of_getElem? (i := 24) rfl)) (T.c _ (List.mem_of_getElem? (i := 30) rfl)).kp (T.g _ (List.mem_of_getElem? (i := 30) rfl)) (by rfl) (pa_cons (pv 3) pa_nil)) pa_nil)))))))))
      (pss_cons (ps_set (i := 6) scL.nd rfl (.inl rfl) (pe_op op_cat (pv 6) (pe_lst (pa_cons (Rx.pe_mkP (S.pl _ (List.mem_of_getElem? (i := 25) rfl)) (T.c _ (List.mem_of_getElem? (i := 31) rfl)).kp (T.g _ (List.mem_of_getElem? (i := 31) rfl)) (by rfl) (pa_cons (pv 3) pa_nil)) (pa_cons (Rx.pe_mkP (S.pl _ (List.mem_of_getElem? (i := 26) rfl)) (T.c _ (List.mem_of_getElem? (i := 32) rfl)).kp (T.g _ (List.mem_of_getElem? (i := 32) rfl)) (by rfl) (pa_cons (pv 3) pa_nil)) (pa_cons (Rx.pe_mkP (S.pl _ (List.mem_of_getElem? (i := 27) rfl)) (T.c _ (List.mem_of_getElem? (i := 33) rfl)).kp (T.g _ (List.mem_of_getElem? (i := 33) rfl)) (by rfl) (pa_cons (pv 3) pa_nil)) (pa_cons (Rx.pe_mkP (S.pl _ (List.mem_of_getElem? (i := 28) rfl)) (T.c _ (List.mem_of_getElem? (i := 34) rfl)).kp (T.g _ (List.mem_of_getElem? (i := 34) rfl)) (by rfl) (pa_cons (pv 3) pa_nil)) (pa_cons (Rx.pe_mkP (S.pl _ (List.mem_of_getElem? (i := 29) rfl)) (T.c _ (List.mem_of_getElem? (i := 35) rfl)).kp (T.g _ (List.mem_of_getElem? (i := 35) rfl)) (by rfl) (pa_cons (pv 3) pa_nil)) (pa_cons (Rx.pe_mkP (S.pl _ (List.mem_of_getElem? (i := 30) rfl)) (T.c _ (List.mem_of_getElem? (i := 36) rfl)).kp (T.g _ (List.mem_of_getElem? (i := 36) rfl)) (by rfl) (pa_cons (pv 3) pa_nil)) pa_nil)))))))))
      (pss_cons (ps_set (i := 6) scL.nd rfl (.inl rfl) (pe_op op_cat (pv 6) (pe_lst (pa_cons (Rx.pe_mkP (S.pl _ (List.mem_of_getElem? (i := 31) rfl)) (T.c _ (List.mem_of_getElem? (i := 37) rfl)).kp (T.g _ (List.mem_of_getElem? (i := 37) rfl)) (by rfl) (pa_cons (pv 3) pa_nil)) (pa_cons (Rx.pe_mkP (S.pl _ (List.mem_of_getElem? (i := 32) rfl)) (T.c _ (List.mem_of_getElem? (i := 38) rfl)).kp (T.g _ (List.mem_of_getElem? (i := 38) rfl)) (by rfl) (pa_cons (pv 3) pa_nil)) (pa_cons (Rx.pe_mkP (S.pl _ (List.mem_of_getElem? (i := 33) rfl)) (T.c _ (List.mem_of_getElem? (i := 39) rfl)).kp (T.g _ (List.mem_of_getElem? (i := 39) rfl)) (by rfl) (pa_cons (pv 3) pa_nil)) (pa_cons (pe_s1 (S.s1 _ (List.mem_of_getElem? (i := 6) rfl)) S.sup hr2 (T.g _ (List.mem_of_getElem? (i := 40) rfl)) (by rfl) (pa_cons (pv 4) pa_nil)) (pa_cons (Rx.pe_mkP (S.pl _ (List.mem_of_getElem? (i := 34) rfl)) (T.c _ (List.mem_of_getElem? (i := 41) rfl)).kp (T.g _ (List.mem_of_getElem? (i := 41) rfl)) (by rfl) (pa_cons (pv 3) pa_nil)) (pa_cons (Rx.pe_mkP (S.pl _ (List.mem_of_getElem? (i := 35) rfl)) (T.c _ (List.mem_of_getElem? (i := 42) rfl)).kp (T.g _ (List.mem_of_getElem? (i := 42) rfl)) (by rfl) (pa_cons (pv 3) pa_nil)) pa_nil)))))))))
      (pss_cons (ps_set (i := 6) scL.nd rfl (.inl rfl) (pe_op op_cat (pv 6) (pe_lst (pa_cons (pe_s1 (S.s1 _ (List.mem_of_getElem? (i := 7) rfl)) S.sup hr2 (T.g _ (List.mem_of_getElem? (i := 43) rfl)) (by rfl) (pa_cons (pv 4) pa_nil)) (pa_cons (Rx.pe_mkP (S.pl _ (List.mem_of_getElem? (i := 36) rfl)) (T.c _ (List.mem_of_getElem? (i := 44) rfl)).kp (T.g _ (List.mem_of_getElem? (i := 44) rfl)) (by rfl) (pa_cons (pv 3) pa_nil)) (pa_cons (Rx.pe_mkP (S.pl _ (List.mem_of_getElem? (i := 37) rfl)) (T.c _ (List.mem_of_getElem? (i := 45) rfl)).kp (T.g _ (List.mem_of_getElem? (i := 45) rfl)) (by rfl) (pa_cons (pv 3) pa_nil)) (pa_cons (Rx.pe_mkP (S.pl _ (List.mem_of_getElem? (i := 38) rfl)) (T.c _ (List.mem_of_getElem? (i := 46) rfl)).kp (T.g _ (List.mem_of_getElem? (i := 46) rfl)) (by rfl) (pa_cons (pv 3) pa_nil)) (pa_cons (Rx.pe_mkP (S.pl _ (List.mem_of_getElem? (i := 39) rfl)) (T.c _ (List.mem_of_getElem? (i := 47) rfl)).kp (T.g _ (List.mem_of_getElem? (i := 47) rfl)) (by rfl) (pa_cons (pv 3) pa_nil)) (pa_cons (Rx.pe_mkP (S.pl _ (List.mem_of_getElem? (i := 40) rfl)) (T.c _ (List.mem_of_getElem? (i := 48) rfl)).kp (T.g _ (List.mem_of_getElem? (i := 48) rfl)) (by rfl) (pa_cons (pv 3) pa_nil)) pa_nil)))))))))
      (pss_cons (ps_set (i := 6) scL.nd rfl (.inl rfl) (pe_op op_cat (pv 6) (pe_lst (pa_cons (Rx.pe_mkP (S.pl _ (List.mem_of_getElem? (i := 41) rfl)) (T.c _ (List.mem_of_getElem? (i := 49) rfl)).kp (T.g _ (List.mem_of_getElem? (i := 49) rfl)) (by rfl) (pa_cons (pv 3) pa_nil)) (pa_cons (pe_s1 (S.s1 _ (List.mem_of_getElem? (i := 8) rfl)) S.sup hr2 (T.g _ (List.mem_of_getElem? (i := 50) rfl)) (by rfl) (pa_cons (pv 4) pa_nil)) (pa_cons (Rx.pe_mkP (S.pl _ (List.mem_of_getElem? (i := 42) rfl)) (T.c _ (List.mem_of_getElem? (i := 51) rfl)).kp (T.g _ (List.mem_of_getElem? (i := 51) rfl)) (by rfl) (pa_cons (pv 3) pa_nil)) (pa_cons (Rx.pe_mkP (S.pl _ (List.mem_of_getElem? (i := 43) rfl)) (T.c _ (List.mem_of_getElem? (i := 52) rfl)).kp (T.g _ (List.mem_of_getElem? (i := 52) rfl)) (by rfl) (pa_cons (pv 3) pa_nil)) (pa_cons (Rx.pe_mkP (S.pl _ (List.mem_of_getElem? (i := 44) rfl)) (T.c _ (List.mem_of_getElem? (i := 53) rfl)).kp (T.g _ (List.mem_of_getElem? (i := 53) rfl)) (by rfl) (pa_cons (pv 3) pa_nil)) (pa_cons (Rx.pe_mkP (S.pl _ (List.mem_of_getElem? (i := 45) rfl)) (T.c _ (List.mem_of_getElem? (i := 54) rfl)).kp (T.g _ (List.mem_of_getElem? (i := 54) rfl)) (by rfl) (pa_cons (pv 3) pa_nil)) pa_nil)))))))))
      (pss_cons (ps_set (i := 6) scL.nd rfl (.inl rfl) (pe_op op_cat (pv 6) (pe_lst (pa_cons (Rx.pe_mkP (S.pl _ (List.mem_of_getElem? (i := 46) rfl)) (T.c _ (List.mem_of_getElem? (i := 55) rfl)).kp (T.g _ (List.mem_of_getElem? (i := 55) rfl)) (by rfl) (pa_cons (pv 3) pa_nil)) (pa_cons (pe_s2 (S.s2 _ (List.mem_of_getElem? (i := 0) rfl)) S.sup hr2 (T.g _ (List.mem_of_getElem? (i := 56) rfl)) (by rfl) (pa_cons (pv 4) (pa_cons (pv 5) pa_nil))) (pa_cons (pe_s1 (S.s1 _ (List.mem_of_getElem? (i := 9) rfl)) S.sup hr2 (T.g _ (List.mem_of_getElem? (i := 57) rfl)) (by rfl) (pa_cons (pv 4) pa_nil)) (pa_cons (pe_s2 (S.s2 _ (List.mem_of_getElem? (i := 1) rfl)) S.sup hr2 (T.g _ (List.mem_of_getElem? (i := 58) rfl)) (by rfl) (pa_cons (pv 4) (pa_cons (pv 5) pa_nil))) (pa_cons (pe_s1 (S.s1 _ (List.mem_of_getElem? (i := 10) rfl)) S.sup hr2 (T.g _ (List.mem_of_getElem? (i := 59) rfl)) (by rfl) (pa_cons (pv 4) pa_nil)) (pa_cons (Rx.pe_mkP (S.pl _ (List.mem_of_getElem? (i := 47) rfl)) (T.c _ (List.mem_of_getElem? (i := 60) rfl)).kp (T.g _ (List.mem_of_getElem? (i := 60) rfl)) (by rfl) (pa_cons (pv 3) pa_nil)) pa_nil)))))))))
      (pss_cons (ps_set (i := 6) scL.nd rfl (.inl rfl) (pe_op op_cat (pv 6) (pe_lst (pa_cons (Rx.pe_mkP (S.pl _ (List.mem_of_getElem? (i := 48) rfl)) (T.c _ (List.mem_of_getElem? (i := 61) rfl)).kp (T.g _ (List.mem_of_getElem? (i := 61) rfl)) (by rfl) (pa_cons (pv 3) pa_nil)) (pa_cons (pe_s1 (S.s1 _ (List.mem_of_getElem? (i := 11) rfl)) S.sup hr2 (T.g _ (List.mem_of_getElem? (i := 62) rfl)) (by rfl) (pa_cons (pv 4) pa_nil)) (pa_cons (Rx.pe_mkP (S.pl _ (List.mem_of_getElem? (i := 49) rfl)) (T.c _ (List.mem_of_getElem? (i := 63) rfl)).kp (T.g _ (List.mem_of_getElem? (i := 63) rfl)) (by rfl) (pa_cons (pv 3) pa_nil)) (pa_cons (Rx.pe_mkP (S.pl _ (List.mem_of_getElem? (i := 50) rfl)) (T.c _ (List.mem_of_getElem? (i := 64) rfl)).kp (T.g _ (List.mem_of_getElem? (i := 64) rfl)) (by rfl) (pa_cons (pv 3) pa_nil)) (pa_cons (Rx.pe_mkP (S.pl _ (List.mem_of_getElem? (i := 51) rfl)) (T.c _ (List.mem_of_getElem? (i := 65) rfl)).kp (T.g _ (List.mem_of_getElem? (i := 65) rfl)) (by rfl) (pa_cons (pv 3) pa_nil)) (pa_cons (pe_s1 (S.s1 _ (List.mem_of_getElem? (i := 12) rfl)) S.sup hr2 (T.g _ (List.mem_of_getElem? (i := 66) rfl)) (by rfl) (pa_cons (pv 4) pa_nil)) pa_nil)))))))))
      (pss_cons (ps_set (i := 6) scL.nd rfl (.inl rfl) (pe_op op_cat (pv 6) (pe_lst (pa_cons (pe_s1 (S.s1 _ (List.mem_of_getElem? (i := 13) rfl)) S.sup hr2 (T.g _ (List.mem_of_getElem? (i := 67) rfl)) (by rfl) (pa_cons (pv 4) pa_nil)) (pa_cons (pe_s1 (S.s1 _ (List.mem_of_getElem? (i := 14) rfl)) S.sup hr2 (T.g _ (List.mem_of_getElem? (i := 68) rfl)) (by rfl) (pa_cons (pv 4) pa_nil)) (pa_cons (pe_s1 (S.s1 _ (List.mem_of_getElem? (i := 15) rfl)) S.sup hr2 (T.g _ (List.mem_of_getElem? (i := 69) rfl)) (by rfl) (pa_cons (pv 4) pa_nil)) (pa_cons (Rx.pe_mkP (S.pl _ (List.mem_of_getElem? (i := 52) rfl)) (T.c _ (List.mem_of_getElem? (i := 70) rfl)).kp (T.g _ (List.mem_of_getElem? (i := 70) rfl)) (by rfl) (pa_cons (pv 3) pa_nil)) (pa_cons (Rx.pe_mkP (S.pl _ (List.mem_of_getElem? (i := 53) rfl)) (T.c _ (List.mem_of_getElem? (i := 71) rfl)).kp (T.g _ (List.mem_of_getElem? (i := 71) rfl)) (by rfl) (pa_cons (pv 3) pa_nil)) (pa_cons (pe_s1 (S.s1 _ (List.mem_of_getElem? (i := 16) rfl)) S.sup hr2 (T.g _ (List.mem_of_getElem? (i := 72) rfl)) (by rfl) (pa_cons (pv 4) pa_nil)) pa_nil)))))))))
      (pss_cons (ps_set (i := 6) scL.nd rfl (.inl rfl) (pe_op op_cat (pv 6) (pe_lst (pa_cons (pe_s1 (S.s1 _ (List.mem_of_getElem? (i := 17) rfl)) S.sup hr2 (T.g _ (List.mem_of_getElem? (i := 73) rfl)) (by rfl) (pa_cons (pv 4) pa_nil)) (pa_cons (pe_s1 (S.s1 _ (List.mem_of_getElem? (i := 18) rfl)) S.sup hr2 (T.g _ (List.mem_of_getElem? (i := 74) rfl)) (by rfl) (pa_cons (pv 4) pa_nil)) (pa_cons (Rx.pe_mkP (S.pl _ (List.mem_of_getElem? (i := 54) rfl)) (T.c _ (List.mem_of_getElem? (i := 75) rfl)).kp (T.g _ (List.mem_of_getElem? (i := 75) rfl)) (by rfl) (pa_cons (pv 3) pa_nil)) (pa_cons (Rx.pe_mkP (S.pl _ (List.mem_of_getElem? (i := 55) rfl)) (T.c _ (List.mem_of_getElem? (i := 76) rfl)).kp (T.g _ (List.mem_of_getElem? (i := 76) rfl)) (by rfl) (pa_cons (pv 3) pa_nil)) (pa_cons (pe_s2 (S.s2 _ (List.mem_of_getElem? (i := 2) rfl)) S.sup hr2 (T.g _ (List.mem_of_getElem? (i := 77) rfl)) (by rfl) (pa_cons (pv 4) (pa_cons (pv 5) pa_nil))) (pa_cons (Rx.pe_mkP (S.pl _ (List.mem_of_getElem? (i := 56) rfl)) (T.c _ (List.mem_of_getElem? (i := 78) rfl)).kp (T.g _ (List.mem_of_getElem? (i := 78) rfl)) (by rfl) (pa_cons (pv 3) pa_nil)) pa_nil)))))))))
      (pss_cons (ps_set (i := 6) scL.nd rfl (.inl rfl) (pe_op op_cat (pv 6) (pe_lst (pa_cons (pe_s1 (S.s1 _ (List.mem_of_getElem? (i := 19) rfl)) S.sup hr2 (T.g _ (List.mem_of_getElem? (i := 79) rfl)) (by rfl) (pa_cons (pv 4) pa_nil)) (pa_cons (pe_s1 (S.s1 _ (List.mem_of_getElem? (i := 20) rfl)) S.sup hr2 (T.g _ (List.mem_of_getElem? (i := 80) rfl)) (by rfl) (pa_cons (pv 4) pa_nil)) (pa_cons (pe_s1 (S.s1 _ (List.mem_of_getElem? (i := 21) rfl)) S.sup hr2 (T.g _ (List.mem_of_getElem? (i := 81) rfl)) (by rfl) (pa_cons (pv 4) pa_nil)) (pa_cons (pe_s1 (S.s1 _ (List.mem_of_getElem? (i := 22) rfl)) S.sup hr2 (T.g _ (List.mem_of_getElem? (i := 82) rfl)) (by rfl) (pa_cons (pv 4) pa_nil)) (pa_cons (Rx.pe_mkP (S.pl _ (List.mem_of_getElem? (i := 57) rfl)) (T.c _ (List.mem_of_getElem? (i := 83) rfl)).kp (T.g _ (List.mem_of_getElem? (i := 83) rfl)) (by rfl) (pa_cons (pv 3) pa_nil)) (pa_cons (pe_s1 (S.s1 _ (List.mem_of_getElem? (i := 23) rfl)) S.sup hr2 (T.g _ (List.mem_of_getElem? (i := 84) rfl)) (by rfl) (pa_cons (pv 4) pa_nil)) pa_nil)))))))))
      (pss_cons (ps_set (i := 6) scL.nd rfl (.inl rfl) (pe_op op_cat (pv 6) (pe_lst (pa_cons (pe_s1 (S.s1 _ (List.mem_of_getElem? (i := 24) rfl)) S.sup hr2 (T.g _ (List.mem_of_getElem? (i := 85) rfl)) (by rfl) (pa_cons (pv 4) pa_nil)) (pa_cons (pe_s1 (S.s1 _ (List.mem_of_getElem? (i := 25) rfl)) S.sup hr2 (T.g _ (List.mem_of_getElem? (i := 86) rfl)) (by rfl) (pa_cons (pv 4) pa_nil)) (pa_cons (pe_s1 (S.s1 _ (List.mem_of_getElem? (i := 26) rfl)) S.sup hr2 (T.g _ (List.mem_of_getElem? (i := 87) rfl)) (by rfl) (pa_cons (pv 4) pa_nil)) pa_nil))))))
      (pss_cons (ps_for PassesOwn.never rfl (pi_enum (by rfl) S.enum (pa_cons (pv 6) pa_nil)) (pg_tup (by rfl) (pgs_cons (pg_name (i := 7) scL.nd rfl (.inr rfl)) (pgs_cons (pg_name (i := 8) scL.nd rfl (.inl rfl)) pgs_nil)))
        (pss_cons (ps_if (pt_cmpR (op_neD hr.units) (pe_call GF hr1 rfl L.mgF L.kpF L.bF .nil pass0 (pa_cons (pv 8) pa_nil)) (pe_lc (own := [("place", 12)]) (g := gName 12) (by rfl) scL.nd (pi_range1 (by rfl) S.range (pa_cons (pe_callB call_len_seq (by rfl) S.len PySem.boot_len (pa_cons (pv 6) pa_nil)) pa_nil)) (blkOk_by (own := [("place", 12)]) (N := ["script", "state", "turn", "text", "number", "other", "made", "at", "error", "base", "told", "both", "place"]) (sc := defScope sLaw) (by decide +kernel)) (fun _ _ _ _ _ => pg_name (i := 12) scL.nd rfl (Or.inl rfl)) (fun _ _ _ _ _ => pts_nil) (fun _ _ _ _ _ => pe_cmpR op_eq (pv 12) (pv 7) (nomark _))) (nomark _)) (pss_one (ps_ret pe_bl)) pss_nil)
        (pss_one (ps_if (PW.pt (pw_or (pt_not (pt_val (pe_callB (Rx.call_isX (R := R)) (by rfl) T.isi boot_isinstance (pa_cons (pv 8) (pa_cons (pe_gref rfl (T.g _ (List.mem_of_getElem? (i := 0) rfl))) pa_nil))))) (pw_or1 (pt_not (pt_val (pe_callB (Rx.call_isX (R := R)) (by rfl) T.isi boot_isinstance (pa_cons (pv 8) (pa_cons (pe_bltn (v := .ty "ValueError") (u := .type "ValueError") (by rfl) S.ve (by decide +kernel) rfl) pa_nil)))))))) (pss_one (ps_ret pe_bl)) pss_nil))))
      (pss_cons (ps_set (i := 9) scL.nd rfl (.inl rfl) (Rx.pe_mkP (S.pl _ (List.mem_of_getElem? (i := 0) rfl)) (T.c _ (List.mem_of_getElem? (i := 0) rfl)).kp (T.g _ (List.mem_of_getElem? (i := 0) rfl)) (by rfl) (pa_cons (pv 3) pa_nil)))
      (pss_cons (ps_if (PW.pt (pw_or (pt_cmpR op_in_seq pe_bl (pe_call GF hr1 rfl L.mgF L.kpF L.bF .nil pass0 (pa_cons (pv 9) pa_nil)) (by rfl)) (pw_or (pt_not (pt_val (pe_callB (Rx.call_isX (R := R)) (by rfl) T.isi boot_isinstance (pa_cons (pv 9) (pa_cons (pe_bltn (v := .ty "ValueError") (u := .type "ValueError") (by rfl) S.ve (by decide +kernel) rfl) pa_nil))))) (pw_or1 (pt_val (pe_callB Rx.call_isV (by rfl) T.isi boot_isinstance (pa_cons (Rx.pe_mkV S.ve (by rfl) (pa_cons (pv 3) pa_nil)) (pa_cons (pe_gref rfl (T.g _ (List.mem_of_getElem? (i := 0) rfl))) pa_nil)))))))) (pss_one (ps_ret pe_bl)) pss_nil)
      (pss_cons (ps_set (i := 10) scL.nd rfl (.inl rfl) (pe_lst (pa_cons (Rx.pe_xf (R := R) (pe_s1 (S.s1 _ (List.mem_of_getElem? (i := 0) rfl)) S.sup hr2 (T.g _ (List.mem_of_getElem? (i := 2) rfl)) (by rfl) (pa_cons (pv 4) pa_nil))) (pa_cons (Rx.pe_xf (R := R) (pe_k1 (S.s1 _ (List.mem_of_getElem? (i := 0) rfl)) S.sup hr2 (T.g _ (List.mem_of_getElem? (i := 2) rfl)) (by rfl) (pk_cons (pv 4) pk_nil))) (pa_cons (Rx.pe_xf (R := R) (pe_s1 (S.s1 _ (List.mem_of_getElem? (i := 1) rfl)) S.sup hr2 (T.g _ (List.mem_of_getElem? (i := 9) rfl)) (by rfl) (pa_cons (pv 4) pa_nil))) (pa_cons (Rx.pe_xf (R := R) (pe_k1 (S.s1 _ (List.mem_of_getElem? (i := 1) rfl)) S.sup hr2 (T.g _ (List.mem_of_getElem? (i := 9) rfl)) (by rfl) (pk_cons (pv 4) pk_nil))) (pa_cons (Rx.pe_xf (R := R) (pe_s1 (S.s1 _ (List.mem_of_getElem? (i := 2) rfl)) S.sup hr2 (T.g _ (List.mem_of_getElem? (i := 22) rfl)) (by rfl) (pa_cons (pv 4) pa_nil))) (pa_cons (Rx.pe_xf (R := R) (pe_k1 (S.s1 _ (List.mem_of_getElem? (i := 2) rfl)) S.sup hr2 (T.g _ (List.mem_of_getElem? (i := 22) rfl)) (by rfl) (pk_cons (pv 4) pk_nil))) pa_nil))))))))
      (pss_cons (ps_set (i := 10) scL.nd rfl (.inl rfl) (pe_op op_cat (pv 10) (pe_lst (pa_cons (Rx.pe_xf (R := R) (pe_s1 (S.s1 _ (List.mem_of_getElem? (i := 3) rfl)) S.sup hr2 (T.g _ (List.mem_of_getElem? (i := 23) rfl)) (by rfl) (pa_cons (pv 4) pa_nil))) (pa_cons (Rx.pe_xf (R := R) (pe_k1 (S.s1 _ (List.mem_of_getElem? (i := 3) rfl)) S.sup hr2 (T.g _ (List.mem_of_getElem? (i := 23) rfl)) (by rfl) (pk_cons (pv 4) pk_nil))) (pa_cons (Rx.pe_xf (R := R) (pe_s1 (S.s1 _ (List.mem_of_getElem? (i := 4) rfl)) S.sup hr2 (T.g _ (List.mem_of_getElem? (i := 25) rfl)) (by rfl) (pa_cons (pv 4) pa_nil))) (pa_cons (Rx.pe_xf (R := R) (pe_k1 (S.s1 _ (List.mem_of_getElem? (i := 4) rfl)) S.sup hr2 (T.g _ (List.mem_of_getElem? (i := 25) rfl)) (by rfl) (pk_cons (pv 4) pk_nil))) (pa_cons (Rx.pe_xf (R := R) (pe_s1 (S.s1 _ (List.mem_of_getElem? (i := 5) rfl)) S.sup hr2 (T.g _ (List.mem_of_getElem? (i := 27) rfl)) (by rfl) (pa_cons (pv 4) pa_nil))) (pa_cons (Rx.pe_xf (R := R) (pe_k1 (S.s1 _ (List.mem_of_getElem? (i := 5) rfl)) S.sup hr2 (T.g _ (List.mem_of_getElem? (i := 27) rfl)) (by rfl) (pk_cons (pv 4) pk_nil))) pa_nil)))))))))
      (pss_cons (ps_set (i := 10) scL.nd rfl (.inl rfl) (pe_op op_cat (pv 10) (pe_lst (pa_cons (Rx.pe_xf (R := R) (pe_s1 (S.s1 _ (List.mem_of_getElem? (i := 6) rfl)) S.sup hr2 (T.g _ (List.mem_of_getElem? (i := 40) rfl)) (by rfl) (pa_cons (pv 4) pa_nil))) (pa_cons (Rx.pe_xf (R := R) (pe_k1 (S.s1 _ (List.mem_of_getElem? (i := 6) rfl)) S.sup hr2 (T.g _ (List.mem_of_getElem? (i := 40) rfl)) (by rfl) (pk_cons (pv 4) pk_nil))) (pa_cons (Rx.pe_xf (R := R) (pe_s1 (S.s1 _ (List.mem_of_getElem? (i := 7) rfl)) S.sup hr2 (T.g _ (List.mem_of_getElem? (i := 43) rfl)) (by rfl) (pa_cons (pv 4) pa_nil))) (pa_cons (Rx.pe_xf (R := R) (pe_k1 (S.s1 _ (List.mem_of_getElem? (i := 7) rfl)) S.sup hr2 (T.g _ (List.mem_of_getElem? (i := 43) rfl)) (by rfl) (pk_cons (pv 4) pk_nil))) (pa_cons (Rx.pe_xf (R := R) (pe_s1 (S.s1 _ (List.mem_of_getElem? (i := 8) rfl)) S.sup hr2 (T.g _ (List.mem_of_getElem? (i := 50) rfl)) (by rfl) (pa_cons (pv 4) pa_nil))) (pa_cons (Rx.pe_xf (R := R) (pe_k1 (S.s1 _ (List.mem_of_getElem? (i := 8) rfl)) S.sup hr2 (T.g _ (List.mem_of_getElem? (i := 50) rfl)) (by rfl) (pk_cons (pv 4) pk_nil))) pa_nil)))))))))
      (pss_cons (ps_set (i := 10) scL.nd rfl (.inl rfl) (pe_op op_cat (pv 10) (pe_lst (pa_cons (Rx.pe_xf (R := R) (pe_s1 (S.s1 _ (List.mem_of_getElem? (i := 9) rfl)) S.sup hr2 (T.g _ (List.mem_of_getElem? (i := 57) rfl)) (by rfl) (pa_cons (pv 4) pa_nil))) (pa_cons (Rx.pe_xf (R := R) (pe_k1 (S.s1 _ (List.mem_of_getElem? (i := 9) rfl)) S.sup hr2 (T.g _ (List.mem_of_getElem? (i := 57) rfl)) (by rfl) (pk_cons (pv 4) pk_nil))) (pa_cons (Rx.pe_xf (R := R) (pe_s1 (S.s1 _ (List.mem_of_getElem? (i := 10) rfl)) S.sup hr2 (T.g _ (List.mem_of_getElem? (i := 59) rfl)) (by rfl) (pa_cons (pv 4) pa_nil))) (pa_cons (Rx.pe_xf (R := R) (pe_k1 (S.s1 _ (List.mem_of_getElem? (i := 10) rfl)) S.sup hr2 (T.g _ (List.mem_of_getElem? (i := 59) rfl)) (by rfl) (pk_cons (pv 4) pk_nil))) (pa_cons (Rx.pe_xf (R := R) (pe_s1 (S.s1 _ (List.mem_of_getElem? (i := 11) rfl)) S.sup hr2 (T.g _ (List.mem_of_getElem? (i := 62) rfl)) (by rfl) (pa_cons (pv 4) pa_nil))) (pa_cons (Rx.pe_xf (R := R) (pe_k1 (S.s1 _ (List.mem_of_getElem? (i := 11) rfl)) S.sup hr2 (T.g _ (List.mem_of_getElem? (i := 62) rfl)) (by rfl) (pk_cons (pv 4) pk_nil))) pa_nil)))))))))
      (pss_cons (ps_set (i := 10) scL.nd rfl (.inl rfl) (pe_op op_cat (pv 10) (pe_lst (pa_cons (Rx.pe_xf (R := R) (pe_s1 (S.s1 _ (List.mem_of_getElem? (i := 12) rfl)) S.sup hr2 (T.g _ (List.mem_of_getElem? (i := 66) rfl)) (by rfl) (pa_cons (pv 4) pa_nil))) (pa_cons (Rx.pe_xf (R := R) (pe_k1 (S.s1 _ (List.mem_of_getElem? (i := 12) rfl)) S.sup hr2 (T.g _ (List.mem_of_getElem? (i := 66) rfl)) (by rfl) (pk_cons (pv 4) pk_nil))) (pa_cons (Rx.pe_xf (R := R) (pe_s1 (S.s1 _ (List.mem_of_getElem? (i := 13) rfl)) S.sup hr2 (T.g _ (List.mem_of_getElem? (i := 67) rfl)) (by rfl) (pa_cons (pv 4) pa_nil))) (pa_cons (Rx.pe_xf (R := R) (pe_k1 (S.s1 _ (List.mem_of_getElem? (i := 13) rfl)) S.sup hr2 (T.g _ (List.mem_of_getElem? (i := 67) rfl)) (by rfl) (pk_cons (pv 4) pk_nil))) (pa_cons (Rx.pe_xf (R := R) (pe_s1 (S.s1 _ (List.mem_of_getElem? (i := 14) rfl)) S.sup hr2 (T.g _ (List.mem_of_getElem? (i := 68) rfl)) (by rfl) (pa_cons (pv 4) pa_nil))) (pa_cons (Rx.pe_xf (R := R) (pe_k1 (S.s1 _ (List.mem_of_getElem? (i := 14) rfl)) S.sup hr2 (T.g _ (List.mem_of_getElem? (i := 68) rfl)) (by rfl) (pk_cons (pv 4) pk_nil))) pa_nil)))))))))
      (pss_cons (ps_set (i := 10) scL.nd rfl (.inl rfl) (pe_op op_cat (pv 10) (pe_lst (pa_cons (Rx.pe_xf (R := R) (pe_s1 (S.s1 _ (List.mem_of_getElem? (i := 15) rfl)) S.sup hr2 (T.g _ (List.mem_of_getElem? (i := 69) rfl)) (by rfl) (pa_cons (pv 4) pa_nil))) (pa_cons (Rx.pe_xf (R := R) (pe_k1 (S.s1 _ (List.mem_of_getElem? (i := 15) rfl)) S.sup hr2 (T.g _ (List.mem_of_getElem? (i := 69) rfl)) (by rfl) (pk_cons (pv 4) pk_nil))) (pa_cons (Rx.pe_xf (R := R) (pe_s1 (S.s1 _ (List.mem_of_getElem? (i := 16) rfl)) S.sup hr2 (T.g _ (List.mem_of_getElem? (i := 72) rfl)) (by rfl) (pa_cons (pv 4) pa_nil))) (pa_cons (Rx.pe_xf (R := R) (pe_k1 (S.s1 _ (List.mem_of_getElem? (i := 16) rfl)) S.sup hr2 (T.g _ (List.mem_of_getElem? (i := 72) rfl)) (by rfl) (pk_cons (pv 4) pk_nil))) (pa_cons (Rx.pe_xf (R := R) (pe_s1 (S.s1 _ (List.mem_of_getElem? (i := 17) rfl)) S.sup hr2 (T.g _ (List.mem_of_getElem? (i := 73) rfl)) (by rfl) (pa_cons (pv 4) pa_nil))) (pa_cons (Rx.pe_xf (R := R) (pe_k1 (S.s1 _ (List.mem_of_getElem? (i := 17) rfl)) S.sup hr2 (T.g _ (List.mem_of_getElem? (i := 73) rfl)) (by rfl) (pk_cons (pv 4) pk_nil))) pa_nil)))))))))
      (pss_cons (ps_set (i := 10) scL.nd rfl (.inl rfl) (pe_op op_cat (pv 10) (pe_lst (pa_cons (Rx.pe_xf (R := R) (pe_s1 (S.s1 _ (List.mem_of_getElem? (i := 18) rfl)) S.sup hr2 (T.g _ (List.mem_of_getElem? (i := 74) rfl)) (by rfl) (pa_cons (pv 4) pa_nil))) (pa_cons (Rx.pe_xf (R := R) (pe_k1 (S.s1 _ (List.mem_of_getElem? (i := 18) rfl)) S.sup hr2 (T.g _ (List.mem_of_getElem? (i := 74) rfl)) (by rfl) (pk_cons (pv 4) pk_nil))) (pa_cons (Rx.pe_xf (R := R) (pe_s1 (S.s1 _ (List.mem_of_getElem? (i := 19) rfl)) S.sup hr2 (T.g _ (List.mem_of_getElem? (i := 79) rfl)) (by rfl) (pa_cons (pv 4) pa_nil))) (pa_cons (Rx.pe_xf (R := R) (pe_k1 (S.s1 _ (List.mem_of_getElem? (i := 19) rfl)) S.sup hr2 (T.g _ (List.mem_of_getElem? (i := 79) rfl)) (by rfl) (pk_cons (pv 4) pk_nil))) (pa_cons (Rx.pe_xf (R := R) (pe_s1 (S.s1 _ (List.mem_of_getElem? (i := 20) rfl)) S.sup hr2 (T.g _ (List.mem_of_getElem? (i := 80) rfl)) (by rfl) (pa_cons (pv 4) pa_nil))) (pa_cons (Rx.pe_xf (R := R) (pe_k1 (S.s1 _ (List.mem_of_getElem? (i := 20) rfl)) S.sup hr2 (T.g _ (List.mem_of_getElem? (i := 80) rfl)) (by rfl) (pk_cons (pv 4) pk_nil))) pa_nil)))))))))
      (pss_cons (ps_set (i := 10) scL.nd rfl (.inl rfl) (pe_op op_cat (pv 10) (pe_lst (pa_cons (Rx.pe_xf (R := R) (pe_s1 (S.s1 _ (List.mem_of_getElem? (i := 21) rfl)) S.sup hr2 (T.g _ (List.mem_of_getElem? (i := 81) rfl)) (by rfl) (pa_cons (pv 4) pa_nil))) (pa_cons (Rx.pe_xf (R := R) (pe_k1 (S.s1 _ (List.mem_of_getElem? (i := 21) rfl)) S.sup hr2 (T.g _ (List.mem_of_getElem? (i := 81) rfl)) (by rfl) (pk_cons (pv 4) pk_nil))) (pa_cons (Rx.pe_xf (R := R) (pe_s1 (S.s1 _ (List.mem_of_getElem? (i := 22) rfl)) S.sup hr2 (T.g _ (List.mem_of_getElem? (i := 82) rfl)) (by rfl) (pa_cons (pv 4) pa_nil))) (pa_cons (Rx.pe_xf (R := R) (pe_k1 (S.s1 _ (List.mem_of_getElem? (i := 22) rfl)) S.sup hr2 (T.g _ (List.mem_of_getElem? (i := 82) rfl)) (by rfl) (pk_cons (pv 4) pk_nil))) (pa_cons (Rx.pe_xf (R := R) (pe_s1 (S.s1 _ (List.mem_of_getElem? (i := 23) rfl)) S.sup hr2 (T.g _ (List.mem_of_getElem? (i := 84) rfl)) (by rfl) (pa_cons (pv 4) pa_nil))) (pa_cons (Rx.pe_xf (R := R) (pe_k1 (S.s1 _ (List.mem_of_getElem? (i := 23) rfl)) S.sup hr2 (T.g _ (List.mem_of_getElem? (i := 84) rfl)) (by rfl) (pk_cons (pv 4) pk_nil))) pa_nil)))))))))
      (pss_cons (ps_set (i := 10) scL.nd rfl (.inl rfl) (pe_op op_cat (pv 10) (pe_lst (pa_cons (Rx.pe_xf (R := R) (pe_s1 (S.s1 _ (List.mem_of_getElem? (i := 24) rfl)) S.sup hr2 (T.g _ (List.mem_of_getElem? (i := 85) rfl)) (by rfl) (pa_cons (pv 4) pa_nil))) (pa_cons (Rx.pe_xf (R := R) (pe_k1 (S.s1 _ (List.mem_of_getElem? (i := 24) rfl)) S.sup hr2 (T.g _ (List.mem_of_getElem? (i := 85) rfl)) (by rfl) (pk_cons (pv 4) pk_nil))) (pa_cons (Rx.pe_xf (R := R) (pe_s1 (S.s1 _ (List.mem_of_getElem? (i := 25) rfl)) S.sup hr2 (T.g _ (List.mem_of_getElem? (i := 86) rfl)) (by rfl) (pa_cons (pv 4) pa_nil))) (pa_cons (Rx.pe_xf (R := R) (pe_k1 (S.s1 _ (List.mem_of_getElem? (i := 25) rfl)) S.sup hr2 (T.g _ (List.mem_of_getElem? (i := 86) rfl)) (by rfl) (pk_cons (pv 4) pk_nil))) (pa_cons (Rx.pe_xf (R := R) (pe_s1 (S.s1 _ (List.mem_of_getElem? (i := 26) rfl)) S.sup hr2 (T.g _ (List.mem_of_getElem? (i := 87) rfl)) (by rfl) (pa_cons (pv 4) pa_nil))) (pa_cons (Rx.pe_xf (R := R) (pe_k1 (S.s1 _ (List.mem_of_getElem? (i := 26) rfl)) S.sup hr2 (T.g _ (List.mem_of_getElem? (i := 87) rfl)) (by rfl) (pk_cons (pv 4) pk_nil))) pa_nil)))))))))
      (pss_cons (ps_if (pt_cmpR op_ne (pe_callB (Rp.call_repr hgd hr) (by rfl) S.repr boot_repr (pa_cons (pv 10) pa_nil)) (pe_callB (Rp.call_repr hgd hr) (by rfl) S.repr boot_repr (pa_cons (pe_op op_rep (pe_lst (pa_cons (pv 4) pa_nil)) pe_int) pa_nil)) (nomark _)) (pss_one (ps_ret pe_bl)) pss_nil)
      (pss_cons (ps_set (i := 11) scL.nd rfl (.inl rfl) (pe_lst (pa_cons (pe_tup (pa_cons (Rx.pe_xf (R := R) (pe_s2 (S.s2 _ (List.mem_of_getElem? (i := 0) rfl)) S.sup hr2 (T.g _ (List.mem_of_getElem? (i := 56) rfl)) (by rfl) (pa_cons (pv 4) (pa_cons (pv 5) pa_nil)))) (pa_cons (Rx.pe_xf (R := R) (pe_s2 (S.s2 _ (List.mem_of_getElem? (i := 0) rfl)) S.sup hr2 (T.g _ (List.mem_of_getElem? (i := 56) rfl)) (by rfl) (pa_cons (pv 4) (pa_cons (pv 5) pa_nil)))) pa_nil))) (pa_cons (pe_tup (pa_cons (Rx.pe_xf (R := R) (pe_k2 (S.s2 _ (List.mem_of_getElem? (i := 0) rfl)) S.sup hr2 (T.g _ (List.mem_of_getElem? (i := 56) rfl)) (by rfl) (pk_cons (pv 5) (pk_cons (pv 4) pk_nil)))) (pa_cons (Rx.pe_xf (R := R) (pe_k2 (S.s2 _ (List.mem_of_getElem? (i := 0) rfl)) S.sup hr2 (T.g _ (List.mem_of_getElem? (i := 56) rfl)) (by rfl) (pk_cons (pv 5) (pk_cons (pv 4) pk_nil)))) pa_nil))) pa_nil))))
      (pss_cons (ps_set (i := 11) scL.nd rfl (.inl rfl) (pe_op op_cat (pv 11) (pe_lst (pa_cons (pe_tup (pa_cons (Rx.pe_xf (R := R) (pe_s2 (S.s2 _ (List.mem_of_getElem? (i := 1) rfl)) S.sup hr2 (T.g _ (List.mem_of_getElem? (i := 58) rfl)) (by rfl) (pa_cons (pv 4) (pa_cons (pv 5) pa_nil)))) (pa_cons (Rx.pe_xf (R := R) (pe_s2 (S.s2 _ (List.mem_of_getElem? (i := 1) rfl)) S.sup hr2 (T.g _ (List.mem_of_getElem? (i := 58) rfl)) (by rfl) (pa_cons (pv 4) (pa_cons (pv 5) pa_nil)))) pa_nil))) (pa_cons (pe_tup (pa_cons (Rx.pe_xf (R := R) (pe_k2 (S.s2 _ (List.mem_of_getElem? (i := 1) rfl)) S.sup hr2 (T.g _ (List.mem_of_getElem? (i := 58) rfl)) (by rfl) (pk_cons (pv 5) (pk_cons (pv 4) pk_nil)))) (pa_cons (Rx.pe_xf (R := R) (pe_k2 (S.s2 _ (List.mem_of_getElem? (i := 1) rfl)) S.sup hr2 (T.g _ (List.mem_of_getElem? (i := 58) rfl)) (by rfl) (pk_cons (pv 5) (pk_cons (pv 4) pk_nil)))) pa_nil))) pa_nil)))))
      (pss_cons (ps_set (i := 11) scL.nd rfl (.inl rfl) (pe_op op_cat (pv 11) (pe_lst (pa_cons (pe_tup (pa_cons (Rx.pe_xf (R := R) (pe_s2 (S.s2 _ (List.mem_of_getElem? (i := 2) rfl)) S.sup hr2 (T.g _ (List.mem_of_getElem? (i := 77) rfl)) (by rfl) (pa_cons (pv 4) (pa_cons (pv 5) pa_nil)))) (pa_cons (Rx.pe_xf (R := R) (pe_s2 (S.s2 _ (List.mem_of_getElem? (i := 2) rfl)) S.sup hr2 (T.g _ (List.mem_of_getElem? (i := 77) rfl)) (by rfl) (pa_cons (pv 4) (pa_cons (pv 5) pa_nil)))) pa_nil))) (pa_cons (pe_tup (pa_cons (Rx.pe_xf (R := R) (pe_k2 (S.s2 _ (List.mem_of_getElem? (i := 2) rfl)) S.sup hr2 (T.g _ (List.mem_of_getElem? (i := 77) rfl)) (by rfl) (pk_cons (pv 5) (pk_cons (pv 4) pk_nil)))) (pa_cons (Rx.pe_xf (R := R) (pe_k2 (S.s2 _ (List.mem_of_getElem? (i := 2) rfl)) S.sup hr2 (T.g _ (List.mem_of_getElem? (i := 77) rfl)) (by rfl) (pk_cons (pv 5) (pk_cons (pv 4) pk_nil)))) pa_nil))) pa_nil)))))
      (pss_one (ps_if (pt_cmpR op_ne (pe_callB (Rp.call_repr hgd hr) (by rfl) S.repr boot_repr (pa_cons (pv 11) pa_nil)) (pe_callB (Rp.call_repr hgd hr) (by rfl) S.repr boot_repr (pa_cons (pe_op op_rep (pe_lst (pa_cons (pe_tup (pa_cons (pv 4) (pa_cons (pv 5) pa_nil))) pa_nil)) pe_int) pa_nil)) (nomark _)) (pss_one (ps_ret pe_bl)) pss_nil)))))))))))))))))))))))))))))))))))
    (pss_one (ps_ret pe_bl)))), ?_⟩
    show tLaw K R _ _ H
    exact rd_law T S ha la k
end
end K00
namespace K00
open PySem PySem.Spec PyProof.Rows L2 Ez Evl
section
variable {P : Program} {w : World} {K : PySem.W.Frag} {mg : Str → Option Value} {h : Heap}

theorem all_s1 (c : Rh.Says fF K) (hP : fF.file = P.main.file) (tp : (P.main.scope.names.lookup ("super" : Str)).isSome = false) : ∀ q ∈ lS1, S1 P K (He.ga K "RunError") q := by
  have q0 : S1 P K (He.ga K "RunError") ("BadAsks", "number") := ⟨inClass (top 3) 0, c.supT (d := ⟨"BadAsks", inClass (top 3) 0, ["number"]⟩) (List.mem_of_getElem? (i := 0) rfl) hP ⟨_, rfl, rfl⟩ rfl rfl tp, ⟨_, _, _, _, _, _, _, _, _, _, _, _, rfl, rfl⟩, fun v _ _ _ _ _ _ _ _ => rfl, fun v _ _ _ _ _ _ _ _ => rfl, by decide, by decide⟩
  have q1 : S1 P K (He.ga K "RunError") ("BadChoices", "number") := ⟨inClass (top 10) 0, c.supT (d := ⟨"BadChoices", inClass (top 10) 0, ["number"]⟩) (List.mem_of_getElem? (i := 1) rfl) hP ⟨_, rfl, rfl⟩ rfl rfl tp, ⟨_, _, _, _, _, _, _, _, _, _, _, _, rfl, rfl⟩, fun v _ _ _ _ _ _ _ _ => rfl, fun v _ _ _ _ _ _ _ _ => rfl, by decide, by decide⟩
  have q2 : S1 P K (He.ga K "RunError") ("BadLine", "number") := ⟨inClass (top 23) 0, c.supT (d := ⟨"BadLine", inClass (top 23) 0, ["number"]⟩) (List.mem_of_getElem? (i := 2) rfl) hP ⟨_, rfl, rfl⟩ rfl rfl tp, ⟨_, _, _, _, _, _, _, _, _, _, _, _, rfl, rfl⟩, fun v _ _ _ _ _ _ _ _ => rfl, fun v _ _ _ _ _ _ _ _ => rfl, by decide, by decide⟩
  have q3 : S1 P K (He.ga K "RunError") ("BadLink", "fault") := ⟨inClass (top 24) 0, c.supT (d := ⟨"BadLink", inClass (top 24) 0, ["fault"]⟩) (List.mem_of_getElem? (i := 3) rfl) hP ⟨_, rfl, rfl⟩ rfl rfl tp, ⟨_, _, _, _, _, _, _, _, _, _, _, _, rfl, rfl⟩, fun v _ _ _ _ _ _ _ _ => rfl, fun v _ _ _ _ _ _ _ _ => rfl, by decide, by decide⟩
  have q4 : S1 P K (He.ga K "RunError") ("BadLog", "number") := ⟨inClass (top 26) 0, c.supT (d := ⟨"BadLog", inClass (top 26) 0, ["number"]⟩) (List.mem_of_getElem? (i := 4) rfl) hP ⟨_, rfl, rfl⟩ rfl rfl tp, ⟨_, _, _, _, _, _, _, _, _, _, _, _, rfl, rfl⟩, fun v _ _ _ _ _ _ _ _ => rfl, fun v _ _ _ _ _ _ _ _ => rfl, by decide, by decide⟩
  have q5 : S1 P K (He.ga K "RunError") ("BadModules", "fault") := ⟨inClass (top 28) 0, c.supT (d := ⟨"BadModules", inClass (top 28) 0, ["fault"]⟩) (List.mem_of_getElem? (i := 5) rfl) hP ⟨_, rfl, rfl⟩ rfl rfl tp, ⟨_, _, _, _, _, _, _, _, _, _, _, _, rfl, rfl⟩, fun v _ _ _ _ _ _ _ _ => rfl, fun v _ _ _ _ _ _ _ _ => rfl, by decide, by decide⟩
  have q6 : S1 P K (He.ga K "RunError") ("BadRows", "number") := ⟨inClass (top 41) 0, c.supT (d := ⟨"BadRows", inClass (top 41) 0, ["number"]⟩) (List.mem_of_getElem? (i := 6) rfl) hP ⟨_, rfl, rfl⟩ rfl rfl tp, ⟨_, _, _, _, _, _, _, _, _, _, _, _, rfl, rfl⟩, fun v _ _ _ _ _ _ _ _ => rfl, fun v _ _ _ _ _ _ _ _ => rfl, by decide, by decide⟩
  have q7 : S1 P K (He.ga K "RunError") ("BadSigns", "at") := ⟨inClass (top 44) 0, c.supT (d := ⟨"BadSigns", inClass (top 44) 0, ["at"]⟩) (List.mem_of_getElem? (i := 7) rfl) hP ⟨_, rfl, rfl⟩ rfl rfl tp, ⟨_, _, _, _, _, _, _, _, _, _, _, _, rfl, rfl⟩, fun v _ _ _ _ _ _ _ _ => rfl, fun v _ _ _ _ _ _ _ _ => rfl, by decide, by decide⟩
  have q8 : S1 P K (He.ga K "RunError") ("BadText", "at") := ⟨inClass (top 51) 0, c.supT (d := ⟨"BadText", inClass (top 51) 0, ["at"]⟩) (List.mem_of_getElem? (i := 8) rfl) hP ⟨_, rfl, rfl⟩ rfl rfl tp, ⟨_, _, _, _, _, _, _, _, _, _, _, _, rfl, rfl⟩, fun v _ _ _ _ _ _ _ _ => rfl, fun v _ _ _ _ _ _ _ _ => rfl, by decide, by decide⟩
  have q9 : S1 P K (He.ga K "RunError") ("CannotDo", "word") := ⟨inClass (top 58) 0, c.supT (d := ⟨"CannotDo", inClass (top 58) 0, ["word"]⟩) (List.mem_of_getElem? (i := 10) rfl) hP ⟨_, rfl, rfl⟩ rfl rfl tp, ⟨_, _, _, _, _, _, _, _, _, _, _, _, rfl, rfl⟩, fun v _ _ _ _ _ _ _ _ => rfl, fun v _ _ _ _ _ _ _ _ => rfl, by decide, by decide⟩
  have q10 : S1 P K (He.ga K "RunError") ("Clash", "name") := ⟨inClass (top 60) 0, c.supT (d := ⟨"Clash", inClass (top 60) 0, ["name"]⟩) (List.mem_of_getElem? (i := 12) rfl) hP ⟨_, rfl, rfl⟩ rfl rfl tp, ⟨_, _, _, _, _, _, _, _, _, _, _, _, rfl, rfl⟩, fun v _ _ _ _ _ _ _ _ => rfl, fun v _ _ _ _ _ _ _ _ => rfl, by decide, by decide⟩
  have q11 : S1 P K (He.ga K "RunError") ("IllTyped", "clash") := ⟨inClass (top 63) 0, c.supT (d := ⟨"IllTyped", inClass (top 63) 0, ["clash"]⟩) (List.mem_of_getElem? (i := 13) rfl) hP ⟨_, rfl, rfl⟩ rfl rfl tp, ⟨_, _, _, _, _, _, _, _, _, _, _, _, rfl, rfl⟩, fun v _ _ _ _ _ _ _ _ => rfl, fun v _ _ _ _ _ _ _ _ => rfl, by decide, by decide⟩
  have q12 : S1 P K (He.ga K "RunError") ("NoStamp", "at") := ⟨inClass (top 67) 0, c.supT (d := ⟨"NoStamp", inClass (top 67) 0, ["at"]⟩) (List.mem_of_getElem? (i := 14) rfl) hP ⟨_, rfl, rfl⟩ rfl rfl tp, ⟨_, _, _, _, _, _, _, _, _, _, _, _, rfl, rfl⟩, fun v _ _ _ _ _ _ _ _ => rfl, fun v _ _ _ _ _ _ _ _ => rfl, by decide, by decide⟩
  have q13 : S1 P K (He.ga K "RunError") ("NoSuch", "name") := ⟨inClass (top 68) 0, c.supT (d := ⟨"NoSuch", inClass (top 68) 0, ["name"]⟩) (List.mem_of_getElem? (i := 15) rfl) hP ⟨_, rfl, rfl⟩ rfl rfl tp, ⟨_, _, _, _, _, _, _, _, _, _, _, _, rfl, rfl⟩, fun v _ _ _ _ _ _ _ _ => rfl, fun v _ _ _ _ _ _ _ _ => rfl, by decide, by decide⟩
  have q14 : S1 P K (He.ga K "RunError") ("NotAsked", "name") := ⟨inClass (top 69) 0, c.supT (d := ⟨"NotAsked", inClass (top 69) 0, ["name"]⟩) (List.mem_of_getElem? (i := 16) rfl) hP ⟨_, rfl, rfl⟩ rfl rfl tp, ⟨_, _, _, _, _, _, _, _, _, _, _, _, rfl, rfl⟩, fun v _ _ _ _ _ _ _ _ => rfl, fun v _ _ _ _ _ _ _ _ => rfl, by decide, by decide⟩
  have q15 : S1 P K (He.ga K "RunError") ("NotBegin", "first") := ⟨inClass (top 70) 0, c.supT (d := ⟨"NotBegin", inClass (top 70) 0, ["first"]⟩) (List.mem_of_getElem? (i := 17) rfl) hP ⟨_, rfl, rfl⟩ rfl rfl tp, ⟨_, _, _, _, _, _, _, _, _, _, _, _, rfl, rfl⟩, fun v _ _ _ _ _ _ _ _ => rfl, fun v _ _ _ _ _ _ _ _ => rfl, by decide, by decide⟩
  have q16 : S1 P K (He.ga K "RunError") ("NotRenaming", "fault") := ⟨inClass (top 73) 0, c.supT (d := ⟨"NotRenaming", inClass (top 73) 0, ["fault"]⟩) (List.mem_of_getElem? (i := 18) rfl) hP ⟨_, rfl, rfl⟩ rfl rfl tp, ⟨_, _, _, _, _, _, _, _, _, _, _, _, rfl, rfl⟩, fun v _ _ _ _ _ _ _ _ => rfl, fun v _ _ _ _ _ _ _ _ => rfl, by decide, by decide⟩
  have q17 : S1 P K (He.ga K "RunError") ("NotSayable", "name") := ⟨inClass (top 74) 0, c.supT (d := ⟨"NotSayable", inClass (top 74) 0, ["name"]⟩) (List.mem_of_getElem? (i := 19) rfl) hP ⟨_, rfl, rfl⟩ rfl rfl tp, ⟨_, _, _, _, _, _, _, _, _, _, _, _, rfl, rfl⟩, fun v _ _ _ _ _ _ _ _ => rfl, fun v _ _ _ _ _ _ _ _ => rfl, by decide, by decide⟩
  have q18 : S1 P K (He.ga K "RunError") ("NotThere", "at") := ⟨inClass (top 75) 0, c.supT (d := ⟨"NotThere", inClass (top 75) 0, ["at"]⟩) (List.mem_of_getElem? (i := 20) rfl) hP ⟨_, rfl, rfl⟩ rfl rfl tp, ⟨_, _, _, _, _, _, _, _, _, _, _, _, rfl, rfl⟩, fun v _ _ _ _ _ _ _ _ => rfl, fun v _ _ _ _ _ _ _ _ => rfl, by decide, by decide⟩
  have q19 : S1 P K (He.ga K "RunError") ("Twice", "at") := ⟨inClass (top 80) 0, c.supT (d := ⟨"Twice", inClass (top 80) 0, ["at"]⟩) (List.mem_of_getElem? (i := 22) rfl) hP ⟨_, rfl, rfl⟩ rfl rfl tp, ⟨_, _, _, _, _, _, _, _, _, _, _, _, rfl, rfl⟩, fun v _ _ _ _ _ _ _ _ => rfl, fun v _ _ _ _ _ _ _ _ => rfl, by decide, by decide⟩
  have q20 : S1 P K (He.ga K "RunError") ("Unfit", "name") := ⟨inClass (top 81) 0, c.supT (d := ⟨"Unfit", inClass (top 81) 0, ["name"]⟩) (List.mem_of_getElem? (i := 23) rfl) hP ⟨_, rfl, rfl⟩ rfl rfl tp, ⟨_, _, _, _, _, _, _, _, _, _, _, _, rfl, rfl⟩, fun v _ _ _ _ _ _ _ _ => rfl, fun v _ _ _ _ _ _ _ _ => rfl, by decide, by decide⟩
  have q21 : S1 P K (He.ga K "RunError") ("Unjoined", "name") := ⟨inClass (top 82) 0, c.supT (d := ⟨"Unjoined", inClass (top 82) 0, ["name"]⟩) (List.mem_of_getElem? (i := 24) rfl) hP ⟨_, rfl, rfl⟩ rfl rfl tp, ⟨_, _, _, _, _, _, _, _, _, _, _, _, rfl, rfl⟩, fun v _ _ _ _ _ _ _ _ => rfl, fun v _ _ _ _ _ _ _ _ => rfl, by decide, by decide⟩
  have q22 : S1 P K (He.ga K "RunError") ("Unlike", "place") := ⟨inClass (top 83) 0, c.supT (d := ⟨"Unlike", inClass (top 83) 0, ["place"]⟩) (List.mem_of_getElem? (i := 25) rfl) hP ⟨_, rfl, rfl⟩ rfl rfl tp, ⟨_, _, _, _, _, _, _, _, _, _, _, _, rfl, rfl⟩, fun v _ _ _ _ _ _ _ _ => rfl, fun v _ _ _ _ _ _ _ _ => rfl, by decide, by decide⟩
  have q23 : S1 P K (He.ga K "RunError") ("UnlikeReply", "number") := ⟨inClass (top 85) 0, c.supT (d := ⟨"UnlikeReply", inClass (top 85) 0, ["number"]⟩) (List.mem_of_getElem? (i := 26) rfl) hP ⟨_, rfl, rfl⟩ rfl rfl tp, ⟨_, _, _, _, _, _, _, _, _, _, _, _, rfl, rfl⟩, fun v _ _ _ _ _ _ _ _ => rfl, fun v _ _ _ _ _ _ _ _ => rfl, by decide, by decide⟩
  have q24 : S1 P K (He.ga K "RunError") ("UnlikeRow", "number") := ⟨inClass (top 86) 0, c.supT (d := ⟨"UnlikeRow", inClass (top 86) 0, ["number"]⟩) (List.mem_of_getElem? (i := 27) rfl) hP ⟨_, rfl, rfl⟩ rfl rfl tp, ⟨_, _, _, _, _, _, _, _, _, _, _, _, rfl, rfl⟩, fun v _ _ _ _ _ _ _ _ => rfl, fun v _ _ _ _ _ _ _ _ => rfl, by decide, by decide⟩
  have q25 : S1 P K (He.ga K "RunError") ("Unshelved", "number") := ⟨inClass (top 87) 0, c.supT (d := ⟨"Unshelved", inClass (top 87) 0, ["number"]⟩) (List.mem_of_getElem? (i := 28) rfl) hP ⟨_, rfl, rfl⟩ rfl rfl tp, ⟨_, _, _, _, _, _, _, _, _, _, _, _, rfl, rfl⟩, fun v _ _ _ _ _ _ _ _ => rfl, fun v _ _ _ _ _ _ _ _ => rfl, by decide, by decide⟩
  have q26 : S1 P K (He.ga K "RunError") ("Wanting", "name") := ⟨inClass (top 88) 0, c.supT (d := ⟨"Wanting", inClass (top 88) 0, ["name"]⟩) (List.mem_of_getElem? (i := 29) rfl) hP ⟨_, rfl, rfl⟩ rfl rfl tp, ⟨_, _, _, _, _, _, _, _, _, _, _, _, rfl, rfl⟩, fun v _ _ _ _ _ _ _ _ => rfl, fun v _ _ _ _ _ _ _ _ => rfl, by decide, by decide⟩
  intro q hq
  simp only [lS1, List.mem_cons, List.not_mem_nil, or_false] at hq
  rcases hq with rfl | rfl | rfl | rfl | rfl | rfl | rfl | rfl | rfl | rfl | rfl | rfl | rfl | rfl | rfl | rfl | rfl | rfl | rfl | rfl | rfl | rfl | rfl | rfl | rfl | rfl | rfl
  all_goals assumption
theorem all_s2 (c : Rh.Says fF K) (hP : fF.file = P.main.file) (tp : (P.main.scope.names.lookup ("super" : Str)).isSome = false) : ∀ q ∈ lS2, S2 P K (He.ga K "RunError") q := by
  have q0 : S2 P K (He.ga K "RunError") ("CannotDeal", "word", "name") := ⟨inClass (top 57) 0, c.supT (d := ⟨"CannotDeal", inClass (top 57) 0, ["word", "name"]⟩) (List.mem_of_getElem? (i := 9) rfl) hP ⟨_, rfl, rfl⟩ rfl rfl tp, ⟨_, _, _, _, _, _, _, _, _, _, _, _, _, _, _, _, rfl, rfl⟩, fun v v2 _ _ _ _ _ _ _ _ => rfl, fun v v2 _ _ _ _ _ _ _ _ => rfl, by decide, by decide, by decide, by decide, by decide⟩
  have q1 : S2 P K (He.ga K "RunError") ("CannotMerge", "word", "name") := ⟨inClass (top 59) 0, c.supT (d := ⟨"CannotMerge", inClass (top 59) 0, ["word", "name"]⟩) (List.mem_of_getElem? (i := 11) rfl) hP ⟨_, rfl, rfl⟩ rfl rfl tp, ⟨_, _, _, _, _, _, _, _, _, _, _, _, _, _, _, _, rfl, rfl⟩, fun v v2 _ _ _ _ _ _ _ _ => rfl, fun v v2 _ _ _ _ _ _ _ _ => rfl, by decide, by decide, by decide, by decide, by decide⟩
  have q2 : S2 P K (He.ga K "RunError") ("Refused", "number", "at") := ⟨inClass (top 78) 0, c.supT (d := ⟨"Refused", inClass (top 78) 0, ["number", "at"]⟩) (List.mem_of_getElem? (i := 21) rfl) hP ⟨_, rfl, rfl⟩ rfl rfl tp, ⟨_, _, _, _, _, _, _, _, _, _, _, _, _, _, _, _, rfl, rfl⟩, fun v v2 _ _ _ _ _ _ _ _ => rfl, fun v v2 _ _ _ _ _ _ _ _ => rfl, by decide, by decide, by decide, by decide, by decide⟩
  intro q hq
  simp only [lS2, List.mem_cons, List.not_mem_nil, or_false] at hq
  rcases hq with rfl | rfl | rfl
  all_goals assumption
theorem facts {fa : Addr} (hP : fF.file = P.main.file) (tp : (P.main.scope.names.lookup ("super" : Str)).isSome = false) (X : K.In h) (G : h.Ns mainGlobals mg) (hfa : mg "law" = some (.ref fa)) (c : Rh.Says fF K) :
    ∃ fd, (∀ (s : Shared) (u : Value), BindsTo s fd ⟨[u], []⟩ [("script", u)]) ∧ ∀ base : Heap, K.In base → base.Ns mainGlobals mg → Rg.FnG P w K mg base CX0 4 fa fd ["script"] (spLaw K) := by
  have free : ∀ {x : Str} (i : Nat), fF.free[i]? = some x → mg x = none := fun i hi => c.free X G (List.mem_of_getElem? hi)
  have T : Er K mg (He.ga K "RunError") := ⟨fun x hx => c.errG X G hx, fun x hx => c.err hx, rfl, c.nodup, free 4 rfl⟩
  have S : Sp2 P K mg (He.ga K "RunError") := ⟨all_s1 c hP tp, all_s2 c hP tp, fun x hx => c.exc hx, free 9 rfl, free 0 rfl, free 7 rfl, free 5 rfl, free 6 rfl, free 2 rfl, free 8 rfl⟩
  have B : Dr.Bl mg := ⟨free 1 rfl, free 3 rfl, free 5 rfl⟩
  obtain ⟨fdB, FB⟩ := c.def_ (d := dd "_law_begun" 90) (List.mem_of_getElem? (i := 0) rfl)
  obtain ⟨fdL, FL⟩ := c.def_ (d := dd "_law_blended" 91) (List.mem_of_getElem? (i := 1) rfl)
  obtain ⟨fdD, FD⟩ := c.def_ (d := dd "_law_draw" 92) (List.mem_of_getElem? (i := 2) rfl)
  obtain ⟨fdP, FP⟩ := c.def_ (d := dd "_law_pick" 93) (List.mem_of_getElem? (i := 3) rfl)
  obtain ⟨fdF, FF⟩ := c.def_ (d := dd "_law_k00_flags" 94) (List.mem_of_getElem? (i := 4) rfl)
  obtain ⟨fd, FW⟩ := c.def_ (d := dd "law" 95) (List.mem_of_getElem? (i := 5) rfl)
  have g : ∀ {d : He.DefD} (i : Nat), fF.defs[i]? = some d → mg d.name = some (.ref (He.ga K d.name)) := fun i hi => c.defG X G (List.mem_of_getElem? hi)
  have e : fa = He.ga K "law" := Value.ref.inj (Option.some.inj (hfa.symm.trans (g (d := dd "law" 95) 5 rfl)))
  subst e
  have bB : Binds K fdB ["script"] [] := FunD.bindsN (ps := ["script"]) FB fun _ _ _ _ _ _ us hl => match us, hl with | [_], _ => rfl
  have bL : Binds K fdL ["state"] [] := FunD.bindsN (ps := ["state"]) FL fun _ _ _ _ _ _ us hl => match us, hl with | [_], _ => rfl
  have bD : Binds K fdD ["state", "size_here"] [] := FunD.bindsN (ps := ["state", "size_here"]) FD fun _ _ _ _ _ _ us hl => match us, hl with | [_, _], _ => rfl
  have bP : Binds K fdP ["state", "several"] [] := FunD.bindsN (ps := ["state", "several"]) FP fun _ _ _ _ _ _ us hl => match us, hl with | [_, _], _ => rfl
  have bF : Binds K fdF ["error"] [] := FunD.bindsN (ps := ["error"]) FF fun _ _ _ _ _ _ us hl => match us, hl with | [_], _ => rfl
  have b := FunD.bindsA (ps := ["script"]) FW fun _ _ _ _ _ _ us hl => match us, hl with | [_], _ => rfl
  refine ⟨fd, fun s u => b s [u] rfl, fun base _ _ => ?_⟩
  have GB := Dr.ok_begun (P := P) (w := w) (base := base) FB B
  have GL := Dr.ok_blended (P := P) (w := w) (base := base) FL B
  have GD := Dr.ok_draw (P := P) (w := w) (base := base) FD B GL (g 1 rfl) FL.kp bL
  have GP := Dr.ok_pick (P := P) (w := w) (base := base) FP B GD (g 2 rfl) FD.kp bD
  have GF := ok_flags (P := P) (w := w) (base := base) FF T
  exact ok_law FW T S ⟨g 0 rfl, FB.kp, bB, g 2 rfl, FD.kp, bD, g 3 rfl, FP.kp, bP, g 4 rfl, FF.kp, bF⟩ GB GD GP GF
end
end K00
noncomputable section
namespace K00
open PySem PySem.W PySem.Calls PyProof.Rows HandSHeadRun
theorem all_split {α : Type} {p : α → Bool} {l : List α} (n : Nat) (h1 : (l.take n).all p = true) (h2 : (l.drop n).all p = true) : l.all p = true := by
  rw [← List.take_append_drop n l, List.all_append, h1, h2]
  rfl
theorem b3 (w : World) : Rk.prsO ((boot_heap w.params).get? mainGlobals) = some (ps0 w) := by
  unfold ps0
  have h : (Rk.prsO ((boot_heap w.params).get? mainGlobals)).isSome = true := by kernel_rfl
  cases e : Rk.prsO ((boot_heap w.params).get? mainGlobals) with
  | none => rw [e] at h; cases h
  | some l => rfl
theorem b2 (w : World) : Rk.prsO ((boot_heap w.params).get? cStatics) = some [] := by kernel_rfl
theorem kb (w : World) : ((keysV w).all fun k => startupNames.contains k || rR.prog.boundNames.contains k) = true := by kernel_rfl
theorem kk (w : World) : ((keysV w).all fun k => startupNames.contains k || (looseW qV loose).contains k || [dLaw.name].contains k || ((litsOf qV).map (·.1)).contains k || ((clssOf qV (looseW qV loose)).map (·.name)).contains k) = true := by kernel_rfl
theorem hx (s : Shared) : (fun s => xlAt qV [] s && recOk rR.toRowW.records s) s = true := by kernel_rfl
theorem and_t {a b : Bool} (h : a = true) (g : b = true) : (a && b) = true := by rw [h, g]; rfl
theorem run (w : World) : RunEq rR qV (Rk.hookL fF) (fun s => Rk.obsL fF (getT s)) 20500 loose w := by
  intro os
  obtain ⟨s, hs, e1⟩ := Option.map_eq_some_iff.mp (r1 w os)
  have at_ : ∀ {β : Type} {f : SharedT → β} {v : β}, (En w os).map f = some v → f s = v := fun {β f v} h => by
    rw [hs] at h
    exact Option.some.inj h
  have v2 := at_ (v2 w os)
  have v2b := at_ (v2b w os)
  have v3 := at_ (v3 w os)
  have v3b := at_ (v3b w os)
  have vp := at_ (v4 w os)
  have v5 := at_ (v5 w os)
  have v6 := at_ (v6 w os)
  have v7 := at_ (v7 w os)
  have v7b := at_ (v7b w os)
  have v9a := at_ (v9 w os)
  have v9b := at_ (v9b w os)
  obtain ⟨v4, v4b⟩ := He.ba vp
  have v9 : lSup.map (fun d => Rh.fnS (Rk.partL fF (getT s)) d.name) = lSup.map Rh.SupD.val := by
    rw [← List.take_append_drop 14 lSup, List.map_append, List.map_append, v9a, v9b]
  have eg : getT s = s.abs.heap.get? := funext (getT_eq s)
  have e1 : ob1 s = _ := e1
  unfold ob1 ob2 at e1
  simp only [Prod.mk.injEq] at e1
  obtain ⟨e3, g2, gm, gn, e2, v1, v8⟩ := e1
  obtain ⟨ps, g3, e3⟩ := Option.map_eq_some_iff.mp e3
  obtain ⟨psM, gm, hm⟩ := Option.map_eq_some_iff.mp gm
  simp only [Prod.mk.injEq] at e3
  obtain ⟨hk, ld, hsh, htb, hbm⟩ := e3
  obtain ⟨psB, g0, hb⟩ := Option.map_eq_some_iff.mp e2
  rw [eg] at g3 g2 gm hsh htb hbm g0
  show (En w os).map _ = _
  rw [hs]
  refine congrArg some (Prod.ext ?_ (Prod.ext ?_ ?_))
  · exact Rk.looks_of g3 g2 (b3 w) (b2 w) hk (kb w) gn ld
  · show seenQ qV loose (importedModules rR.prog.main.body) (fun s => xlAt qV [] s && recOk rR.toRowW.records s) s.abs = openGood qV loose
    rw [← seenQ_eq]
    have em : importedModules rR.prog.main.body = [] := by kernel_rfl
    rw [em]
    exact Rk.seen_of (p := rR.prog) (d := dLaw) g3 g2 g0 gm hb hm hk gn (by kernel_rfl) (by kernel_rfl) hsh htb hbm (kk w) (fun s => by kernel_rfl) (hx _) (fun s => by kernel_rfl) (fun s => by kernel_rfl)
  · show Rk.obsL fF (getT s) = (true, Rh.valA fF)
    refine Prod.ext v1 (Prod.ext ?_ (Prod.ext v8.2 v9))
    show Rh.chk fF (Rk.partL fF (getT s)) = true
    obtain ⟨f1, f2⟩ := He.ba v2
    obtain ⟨f3, f4⟩ := He.ba f2
    have c1 : (fF.errs.all fun x => Rh.gloB (Rk.partL fF (getT s)) x && Rx.errB (Rk.partL fF (getT s)) (He.ga (Rk.partL fF (getT s)) "RunError") (He.ga (Rk.partL fF (getT s)) x)) = true := all_split 44 (all_split 22 f4 v2b) (all_split 22 v3 v3b)
    have c2 : (fF.plain.all fun x => PySem.W.excIn (Rk.partL fF (getT s)) (He.ga (Rk.partL fF (getT s)) x) PySem.HandSPX.veTail "ValueError.__new__") = true := all_split 30 v4 v4b
    have c3 : decide ((fF.errs.map (He.ga (Rk.partL fF (getT s)))).Nodup) = true := decide_eq_true (by rw [show fF.errs.map (He.ga (Rk.partL fF (getT s))) = adC0 ++ adC1 from v5]; decide +kernel)
    have c4 : (fF.sups.all fun d => d.ok fF.file (Rk.partL fF (getT s)) (He.ga (Rk.partL fF (getT s)) "RunError")) = true := all_split 9 v6 (all_split 9 v7 v7b)
    have c5 : (fF.defs.all fun d => Rh.gloB (Rk.partL fF (getT s)) d.name && d.ok (Rk.partL fF (getT s))) = true := v8.1
    exact and_t (and_t (and_t f1 (and_t rfl f3)) (and_t c1 (and_t c2 (and_t c3 c4)))) (and_t c5 rfl)
end K00
end
open PySem PySem.W PySem.Calls PyProof.Rows
theorem PySem.Challenge.cw_runsledon_k00_errors_apart_holds : PySem.Challenge.rw_runsledon_k00_errors_apart.Holds := by
  w_on; o_law
  refine HandSHeadRun.head_any (r := OpenLaw.row PySem.Challenge.rw_runsledon_k00_errors_apart) (q := K00.qV) (H := Rk.hookL K00.fF) (ob := fun s => Rk.obsL K00.fF (HandSHeadRun.getT s)) (M := 20500) (loose := K00.loose) (d := HandSHeadRun.topDef (OpenLaw.row PySem.Challenge.rw_runsledon_k00_errors_apart).prog 95) (kwd := []) (fun s => Rk.obsL_eq (HandSHeadRun.getT_eq s))
    (by kernel_rfl) (fun s => by kernel_rfl) K00.run (by kernel_rfl) (by kernel_rfl) (by kernel_rfl) (by rfl) (by first | assumption | decide +kernel) (by decide +kernel) ⟨rfl, rfl, rfl, rfl, rfl, by decide +kernel⟩ ?hw ?hc
  case hw => w_witness2
  case hc =>
    refine Rp.walk_G (l := PySem.Challenge.rw_runsledon_k00_errors_apart) (n := 63) (k := 4) (x := "script") (CX := L2.CX0) rfl (by decide) (by kernel_rfl) ⟨rfl, by decide, by decide⟩ ?F (fun _ _ _ _ z => z)
    intro w mg fa h Y G hmg0
    obtain ⟨K, KX, c⟩ := Y
    have hmg : mg ("law" : PySem.Str) = some (.ref fa) := by
      have e : (HandSHeadRun.topDef (OpenLaw.row PySem.Challenge.rw_runsledon_k00_errors_apart).prog 95).name = ("law" : PySem.Str) := by kernel_rfl
      rw [← e]
      exact hmg0
    obtain ⟨fd, hb, hF⟩ := K00.facts (P := (PySem.Challenge.rw_runsledon_k00_errors_apart).prog) (w := w) rfl (by rfl) KX G hmg c
    exact ⟨K, fd, K00.spLaw K, KX, hb, fun H a ns hl _ hS => ⟨a, ns, rfl, hS, hl, fun _ => rfl⟩, hF⟩
