import PyProof.Rows.All
import Wide.All
import OpenK.AllK
import Wide.FinOn
import HandS.ForExc
import HandS.ForDict
import HandS.ForMost
import HandS.Lambda
import HandS.Flow
import HandS.IsInst
import HandS.StrMore
import HandS.Style
import HandS.TupAny
import HandS.TupLe
import HandS.TupMul
import HandS.Wide
import HandS.ExcValue
import HandS.ExcIs
import HandS.RaiseMore
import HandS.Conv
import HandS.HeadHook4
import HandS.HeadWalk
import HandS.Head2
import HandS.EndBits
import HandS.ExcInit
import KE.KExcSuper
import HandS.ExcField
import PySem.Challenge.RW_pricedreels_k00_errors_apart
set_option Elab.async false
set_option linter.all false
set_option maxRecDepth 100000
set_option maxHeartbeats 8000000
namespace G
open PySem PySem.Spec PyProof.Rows L2 LamX
/-! ## looks at what a top left: definitions alone (a text of its own: a large top's run stands ahead of all else) -/
def asY (g : Addr → Option Obj) (n : Nat) : List Addr := cStatics :: (He.asD g n ++ (He.asD g n).flatMap fun a => match g a with
  | some ⟨_, _, .func fd, _⟩ => fd.closure.map (·.2)
  | _ => [])
/-- an error class x whose __init__ keeps fld; ar, body, scope: its __init__'s -/
structure IniD where
  x : Str
  fld : Str
  qual : Str
  params : Arguments
  body : List Stmt
  scope : Scope
abbrev IniW : Type := Option (Str × Str × Arguments × FuncBody × Scope × Addr × List Str × Addr)
def iniO (K : PySem.W.Frag) (x : Str) : IniW := match K.lookup (He.fAd K (x, some "__init__")) with
  | some ⟨_, _, .func fd, _⟩ => some (fd.name, fd.qualname, fd.params, fd.body, fd.scope, fd.globals, fd.closure.map (·.1), fd.builtins)
  | _ => none
def IniD.val (d : IniD) : IniW := some ("__init__", d.qual, d.params, .stmts d.body, d.scope, mainGlobals, ["__class__"], builtinsNs)
def oexB (K : PySem.W.Frag) (C : Addr) : Bool := match K.lookup C with
  | some ⟨.type t, _, .cls cd, sl⟩ => decide (t = "type") && (match cd.mro, sl.toList with
    | .ref c2 :: bm, [_, _, _, _, some (.builtin n), _] => decide (c2 = C) && (decide (n = "ValueError.__new__") && (!cd.hasDel && (cd.hasDict && PySem.HandSPX.refsVE bm)))
    | _, _ => false)
  | _ => false
theorem oexB_ok {K : PySem.W.Frag} {C : Addr} (h : oexB K C = true) : ∃ nm q N bs bm sn sub ab col dd k0 k1 k2 k3 k5, K.lookup C = some (excClassObj nm q C N bs bm true sn sub ab col dd k0 k1 k2 k3 k5 "ValueError.__new__") ∧ PySem.HandSPX.refsVE bm = true := by
  unfold oexB at h
  split at h
  · rename_i t dd cd sl e
    obtain ⟨h1, h2⟩ := He.ba h
    split at h2
    · rename_i c2 bm s0 s1 s2 s3 n s5 hm hs
      obtain ⟨a1, h2⟩ := He.ba h2
      obtain ⟨a2, h2⟩ := He.ba h2
      obtain ⟨a3, h2⟩ := He.ba h2
      obtain ⟨a4, a5⟩ := He.ba h2
      obtain ⟨nm, bs, mro, ns, qn, hd, sn, sub, ab, col, dl⟩ := cd
      obtain ⟨l⟩ := sl
      have b1 := of_decide_eq_true a1
      have b2 := of_decide_eq_true a2
      have b0 := of_decide_eq_true h1
      dsimp only at hm hs a3 a4
      have b3 : dl = false := by cases dl <;> first | rfl | cases a3
      subst b0 b1 b2 b3 hm hs a4
      exact ⟨nm, qn, ns, bs, bm, sn, sub, ab, col, dd, s0, s1, s2, s3, s5, e, a5⟩
    · cases h2
  · cases h
def fileB (P : Program) (o : Option Obj) : Bool := match o with
  | some ⟨_, _, .fields vs, _⟩ => (match (vs[2]? : Option Value) with
    | some (Value.str file _) => (P.main.file : Str) == file
    | _ => false)
  | _ => false
def cellB (C : Addr) (o : Option Obj) : Bool := match o with
  | some ⟨_, _, .cell (some (.ref c)), _⟩ => decide (c = C)
  | _ => false
def fdB (K : PySem.W.Frag) (P : Program) (C : Addr) (qual : Str) (fd : FuncData) : Bool := PySem.W.codeIn K fd.code qual && (decide (fd.defaults = .none) && ((match fd.code with
    | .ref c => fileB P (K.lookup c)
    | _ => false) && (match fd.closure with
    | [q] => cellB C (K.lookup q.2)
    | _ => false)))
theorem fileB_ok {P : Program} {o : Option Obj} (h : fileB P o = true) : ∃ (cl : Value) (dd : Option Addr) (vs : Array Value) (sl : Array (Option Value)) (file : Str) (tf : Tok), o = some ⟨cl, dd, .fields vs, sl⟩ ∧ vs[2]? = some (.str file tf) ∧ ((P.main.file : Str) == file) = true := by
  unfold fileB at h
  split at h
  · split at h
    · rename_i e
      exact ⟨_, _, _, _, _, _, rfl, e, h⟩
    · cases h
  · cases h
theorem cellB_ok {C : Addr} {o : Option Obj} (h : cellB C o = true) : ∃ (cl : Value) (dd : Option Addr) (sl : Array (Option Value)), o = some ⟨cl, dd, .cell (some (.ref C)), sl⟩ := by
  unfold cellB at h
  split at h
  · rw [← of_decide_eq_true h]
    exact ⟨_, _, _, rfl⟩
  · cases h
/-- the rest of what is asked of the class -/
def iniB (K : PySem.W.Frag) (P : Program) (d : IniD) : Bool :=
  oexB K (He.ga K d.x) && (He.eqO (PySem.W.findIn K (.ref (He.ga K d.x)) "__setattr__") (some (some (.builtin "object.__setattr__"))) && (decide (PySem.W.subIn K (.ref (He.ga K d.x)) (.type "BaseException") = some true) &&
  (decide (PySem.W.typeIn K (.ref (He.ga K d.x)) = some (.type "type")) && (PySem.W.keepIn K (.ref (He.ga K d.x)) && (He.eqO (PySem.W.findIn K (.ref (He.ga K d.x)) d.fld) (some none) &&
  (decide (PySem.W.subIn K (.ref (He.ga K d.x)) (.type "ValueError") = some true) && (He.eqO (PySem.W.ks_superIn K (He.ga K d.x) (He.ga K d.x) "__init__") (some (some (.builtin "ValueError.__init__"))) &&
  (decide (PySem.W.mroIn K (He.ga K d.x) (.ref (He.ga K d.x)) = some true) && (He.eqO (PySem.W.nsIn K mainGlobals "super") (some none) && (He.eqO (PySem.W.nsIn K cStatics "thirdparty.any") (some none) &&
  (He.eqO (PySem.W.findIn K (.ref (He.ga K d.x)) "__init__") (some (some (.ref (He.fAd K (d.x, some "__init__"))))) && (decide (PySem.W.typeIn K (.ref (He.fAd K (d.x, some "__init__"))) = some (.type "function")) &&
  (match K.lookup (He.fAd K (d.x, some "__init__")) with
    | some ⟨_, _, .func fd, _⟩ => fdB K P (He.ga K d.x) d.qual fd
    | _ => false)))))))))))))
def exB (K : PySem.W.Frag) (D : Addr) : Bool := He.eqO (PySem.W.findIn K (.ref D) "__getattribute__") (some (some (.builtin "BaseException.__getattribute__"))) && (He.eqO (PySem.W.findIn K (.ref D) "__getattr__") (some none) &&
  (decide (PySem.W.subIn K (.ref D) (.type "BaseException") = some true) && (PySem.W.hasDictIn K D && (He.eqO (PySem.W.findIn K (.ref D) "__class__") (some (some (.builtin "object.__class__"))) &&
  (He.eqO (PySem.W.specialIn K (.builtin "object.__class__") "__get__") (some (some (.builtin "getset_descriptor.__get__"))) && (decide (PySem.W.takesIn K (.builtin "object.__class__") = some true) && (decide (PySem.W.mroIn K D (.type "object") = some true) &&
  decide (PySem.W.kitOne K (.ref D) (.ref D) = some true))))))))
theorem exB_ok {K : PySem.W.Frag} {D : Addr} (h : exB K D = true) : ExcC K D ∧ PySem.W.kitOne K (.ref D) (.ref D) = some true := by
  obtain ⟨h1, h⟩ := He.ba h
  obtain ⟨h2, h⟩ := He.ba h
  obtain ⟨h3, h⟩ := He.ba h
  obtain ⟨h4, h⟩ := He.ba h
  obtain ⟨h5, h⟩ := He.ba h
  obtain ⟨h6, h⟩ := He.ba h
  obtain ⟨h7, h⟩ := He.ba h
  obtain ⟨h8, h9⟩ := He.ba h
  exact ⟨⟨He.eqO_ok h1, He.eqO_ok h2, of_decide_eq_true h3, h4, He.eqO_ok h5, He.eqO_ok h6, of_decide_eq_true h7, of_decide_eq_true h8⟩, of_decide_eq_true h9⟩
/-- a class's member in a text -/
def clsM (s : Stmt) (i : Nat) : Stmt := match s with
  | .ClassDef _ _ _ b _ _ _ _ _ _ _ => b.getD i (.Pass ⟨0, 0, 0, 0⟩)
  | _ => .Pass ⟨0, 0, 0, 0⟩
def fnRefs (g : Addr → Option Obj) (b : Addr) : List Addr := match g b with
  | some ⟨_, _, .func fd, _⟩ => (match fd.code with
    | .ref c => c :: fd.closure.map (·.2)
    | _ => fd.closure.map (·.2))
  | _ => []
def dictRefs (g : Addr → Option Obj) (b : Addr) : List Addr := match g b with
  | some ⟨_, _, .dict es _, _⟩ => es.toList.filterMap fun e => match e.val with
    | .ref a => some a
    | _ => none
  | _ => []
def clsRefs (g : Addr → Option Obj) (b : Addr) : List Addr := match g b with
  | some ⟨_, _, .cls cd, _⟩ => cd.ns :: (dictRefs g cd.ns).flatMap fun a => a :: fnRefs g a
  | some ⟨_, _, .func _, _⟩ => fnRefs g b
  | _ => []
def asZ (g : Addr → Option Obj) : List Addr := cStatics :: mainGlobals :: ((dictRefs g mainGlobals).flatMap fun a => a :: clsRefs g a)
end G

set_option Elab.async false
set_option linter.all false
set_option maxRecDepth 100000
set_option maxHeartbeats 0
namespace K00
open PySem PySem.Spec PyProof.Rows L2 LamX G
/-! ### the top's run: what it leaves, in parts (ahead of all else: it wants the room) -/
def topS (i : Nat) : Stmt := PySem.Challenge.pw_pricedreels_k00_errors_apart.main.body.getD i (.Pass ⟨0, 0, 0, 0⟩)
abbrev st__law_begun : Stmt := topS 79
abbrev st__law_draw : Stmt := topS 80
abbrev st__law_pick : Stmt := topS 81
abbrev st__law_odd : Stmt := topS 82
abbrev st__law_kinds_a : Stmt := topS 83
abbrev st__law_kinds_b : Stmt := topS 84
abbrev st__law_kinds_c : Stmt := topS 85
abbrev st__law_kinds_d : Stmt := topS 86
abbrev st__law_kinds_e : Stmt := topS 87
abbrev st__law_plain_a : Stmt := topS 88
abbrev st__law_plain_b : Stmt := topS 89
abbrev st__law_plain_c : Stmt := topS 90
abbrev st__law_held : Stmt := topS 91
abbrev st__law_held_by_name : Stmt := topS 92
abbrev st__law_is_alone : Stmt := topS 93
abbrev st_law : Stmt := topS 94
def gvN : List Str := (["BadAt", "BadBits", "BadBlock", "BadBook", "BadBounds", "BadChosen", "BadCosts", "BadCut", "BadDelay", "BadError", "BadField", "BadFrame", "BadFrames", "BadGains", "BadGrade"] : List Str) ++ (["BadGuess", "BadHead", "BadHold", "BadHurt", "BadIndex", "BadItem", "BadJobs", "BadKind", "BadLeast", "BadLoss", "BadLosses", "BadLot", "BadLots", "BadMany", "BadMemory"] : List Str) ++ (["BadMode", "BadMost", "BadNumber", "BadOrder", "BadOther", "BadPlace", "BadPlan", "BadPlane", "BadPlanes", "BadPrice", "BadRate", "BadReach", "BadRectangle", "BadReel", "BadReferences"] : List Str) ++ (["BadRenewals", "BadRoom", "BadRow", "BadSet", "BadShape", "BadShares", "BadShift", "BadShows", "BadSize", "BadSizes", "BadSpans", "BadSpot", "BadState", "BadStock", "BadStore"] : List Str) ++ (["BadStream", "BadStretch", "BadTelling", "BadUpper", "BadVector", "BadWait", "BadWanted", "BadWay", "BadWeb", "BadWish", "BadWorths", "NotNow", "NothingDone", "OtherKinds", "OtherShapes"] : List Str) ++ (["ReelError", "TooMany"] : List Str)
def d__law_begun : He.DefD := ⟨("_law_begun", none), "_law_begun", "_law_begun", defArgs st__law_begun, defBody st__law_begun, defScope st__law_begun, [], []⟩
def d__law_draw : He.DefD := ⟨("_law_draw", none), "_law_draw", "_law_draw", defArgs st__law_draw, defBody st__law_draw, defScope st__law_draw, [], []⟩
def d__law_pick : He.DefD := ⟨("_law_pick", none), "_law_pick", "_law_pick", defArgs st__law_pick, defBody st__law_pick, defScope st__law_pick, [], []⟩
def d__law_odd : He.DefD := ⟨("_law_odd", none), "_law_odd", "_law_odd", defArgs st__law_odd, defBody st__law_odd, defScope st__law_odd, [], []⟩
def d__law_kinds_a : He.DefD := ⟨("_law_kinds_a", none), "_law_kinds_a", "_law_kinds_a", defArgs st__law_kinds_a, defBody st__law_kinds_a, defScope st__law_kinds_a, [], []⟩
def d__law_kinds_b : He.DefD := ⟨("_law_kinds_b", none), "_law_kinds_b", "_law_kinds_b", defArgs st__law_kinds_b, defBody st__law_kinds_b, defScope st__law_kinds_b, [], []⟩
def d__law_kinds_c : He.DefD := ⟨("_law_kinds_c", none), "_law_kinds_c", "_law_kinds_c", defArgs st__law_kinds_c, defBody st__law_kinds_c, defScope st__law_kinds_c, [], []⟩
def d__law_kinds_d : He.DefD := ⟨("_law_kinds_d", none), "_law_kinds_d", "_law_kinds_d", defArgs st__law_kinds_d, defBody st__law_kinds_d, defScope st__law_kinds_d, [], []⟩
def d__law_kinds_e : He.DefD := ⟨("_law_kinds_e", none), "_law_kinds_e", "_law_kinds_e", defArgs st__law_kinds_e, defBody st__law_kinds_e, defScope st__law_kinds_e, [], []⟩
def d__law_plain_a : He.DefD := ⟨("_law_plain_a", none), "_law_plain_a", "_law_plain_a", defArgs st__law_plain_a, defBody st__law_plain_a, defScope st__law_plain_a, [], []⟩
def d__law_plain_b : He.DefD := ⟨("_law_plain_b", none), "_law_plain_b", "_law_plain_b", defArgs st__law_plain_b, defBody st__law_plain_b, defScope st__law_plain_b, [], []⟩
def d__law_plain_c : He.DefD := ⟨("_law_plain_c", none), "_law_plain_c", "_law_plain_c", defArgs st__law_plain_c, defBody st__law_plain_c, defScope st__law_plain_c, [], []⟩
def d__law_held : He.DefD := ⟨("_law_held", none), "_law_held", "_law_held", defArgs st__law_held, defBody st__law_held, defScope st__law_held, [], []⟩
def d__law_held_by_name : He.DefD := ⟨("_law_held_by_name", none), "_law_held_by_name", "_law_held_by_name", defArgs st__law_held_by_name, defBody st__law_held_by_name, defScope st__law_held_by_name, [], []⟩
def d__law_is_alone : He.DefD := ⟨("_law_is_alone", none), "_law_is_alone", "_law_is_alone", defArgs st__law_is_alone, defBody st__law_is_alone, defScope st__law_is_alone, [], []⟩
def d_law : He.DefD := ⟨("law", none), "law", "law", defArgs st_law, defBody st_law, defScope st_law, [], []⟩
def fn : List He.DefD := [d__law_begun, d__law_draw, d__law_pick, d__law_odd, d__law_kinds_a, d__law_kinds_b, d__law_kinds_c, d__law_kinds_d, d__law_kinds_e, d__law_plain_a, d__law_plain_b, d__law_plain_c, d__law_held, d__law_held_by_name, d__law_is_alone, d_law]
def fa0 : List He.Fa := ([.glo "_law_begun", .glo "_law_draw", .glo "_law_pick", .glo "_law_odd", .glo "_law_kinds_a", .glo "_law_kinds_b", .glo "_law_kinds_c", .glo "_law_kinds_d", .glo "_law_kinds_e", .glo "_law_plain_a", .glo "_law_plain_b", .glo "_law_plain_c", .glo "_law_held", .glo "_law_held_by_name", .glo "_law_is_alone"] : List He.Fa) ++ ([.glo "law", .free "ValueError", .free "abs", .free "int", .free "isinstance", .free "len", .free "min", .free "range", .free "repr"] : List He.Fa)
def fa1 : List He.Fa := ([.exc "BadAt", .exc "BadBits", .exc "BadBlock", .exc "BadBook", .exc "BadBounds", .exc "BadChosen", .exc "BadCut", .exc "BadDelay", .exc "BadError", .exc "BadField", .exc "BadFrame", .exc "BadGains", .exc "BadGrade", .exc "BadGuess", .exc "BadHold"] : List He.Fa) ++ ([.exc "BadHurt", .exc "BadIndex", .exc "BadKind", .exc "BadLeast", .exc "BadLoss", .exc "BadLosses", .exc "BadLot", .exc "BadLots", .exc "BadMany", .exc "BadMemory", .exc "BadMost", .exc "BadNumber", .exc "BadOrder", .exc "BadOther", .exc "BadPlace"] : List He.Fa) ++ ([.exc "BadPlan", .exc "BadPlane", .exc "BadPlanes", .exc "BadPrice", .exc "BadRate", .exc "BadReach", .exc "BadRectangle", .exc "BadReferences", .exc "BadRoom", .exc "BadRow", .exc "BadSet", .exc "BadShares", .exc "BadShift", .exc "BadShows", .exc "BadSize"] : List He.Fa) ++ ([.exc "BadSizes", .exc "BadSpans", .exc "BadSpot", .exc "BadState", .exc "BadTelling", .exc "BadUpper", .exc "BadVector", .exc "BadWait", .exc "BadWanted", .exc "BadWay", .exc "BadWish", .exc "BadWorths", .exc "NothingDone", .exc "OtherKinds", .exc "OtherShapes"] : List He.Fa)
def fa : List He.Fa := fa0 ++ (gvN.map He.Fa.glo ++ fa1)
def Ga : List Str := (["BadAt", "BadBits", "BadBlock", "BadBook", "BadBounds", "BadChosen", "BadCosts", "BadCut", "BadDelay", "BadError", "BadField", "BadFrame", "BadFrames", "BadGains", "BadGrade"] : List Str) ++ (["BadGuess", "BadHead", "BadHold"] : List Str)
def Gb : List Str := (["BadHurt", "BadIndex", "BadItem", "BadJobs", "BadKind", "BadLeast", "BadLoss", "BadLosses", "BadLot", "BadLots", "BadMany", "BadMemory", "BadMode", "BadMost", "BadNumber"] : List Str) ++ (["BadOrder", "BadOther", "BadPlace"] : List Str)
def Gc : List Str := (["BadPlan", "BadPlane", "BadPlanes", "BadPrice", "BadRate", "BadReach", "BadRectangle", "BadReel", "BadReferences", "BadRenewals", "BadRoom", "BadRow", "BadSet", "BadShape", "BadShares"] : List Str) ++ (["BadShift", "BadShows", "BadSize"] : List Str)
def Gd : List Str := (["BadSizes", "BadSpans", "BadSpot", "BadState", "BadStock", "BadStore", "BadStream", "BadStretch", "BadTelling", "BadUpper", "BadVector", "BadWait", "BadWanted", "BadWay", "BadWeb"] : List Str) ++ (["BadWish", "BadWorths", "NotNow"] : List Str)
def Ge : List Str := (["NothingDone", "OtherKinds", "OtherShapes", "TooMany"] : List Str)
def NM : List Str := Ga ++ (Gb ++ (Gc ++ (Gd ++ Ge)))
def Pa : List Str := (["BadAt", "BadBits", "BadBlock", "BadBook", "BadBounds", "BadChosen", "BadCut", "BadDelay", "BadError", "BadField", "BadFrame", "BadGains", "BadGrade", "BadGuess", "BadHold"] : List Str) ++ (["BadHurt", "BadIndex", "BadKind", "BadLeast", "BadLoss"] : List Str)
def Pb : List Str := (["BadLosses", "BadLot", "BadLots", "BadMany", "BadMemory", "BadMost", "BadNumber", "BadOrder", "BadOther", "BadPlace", "BadPlan", "BadPlane", "BadPlanes", "BadPrice", "BadRate"] : List Str) ++ (["BadReach", "BadRectangle", "BadReferences", "BadRoom", "BadRow"] : List Str)
def Pc : List Str := (["BadSet", "BadShares", "BadShift", "BadShows", "BadSize", "BadSizes", "BadSpans", "BadSpot", "BadState", "BadTelling", "BadUpper", "BadVector", "BadWait", "BadWanted", "BadWay"] : List Str) ++ (["BadWish", "BadWorths", "NothingDone", "OtherKinds", "OtherShapes"] : List Str)
def NI : List (Str × Str) := ([("BadCosts", "at"), ("BadFrames", "at"), ("BadHead", "part"), ("BadItem", "at"), ("BadJobs", "at"), ("BadMode", "mode"), ("BadReel", "part"), ("BadRenewals", "at"), ("BadShape", "part"), ("BadStock", "part"), ("BadStore", "at"), ("BadStream", "at"), ("BadStretch", "at"), ("BadWeb", "at"), ("NotNow", "word")] : List (Str × Str)) ++ ([("TooMany", "most")] : List (Str × Str))
abbrev R : PySem.W.OpenRow := PySem.W.OpenLaw.row PySem.Challenge.rw_pricedreels_k00_errors_apart
abbrev PR : Program := PySem.Challenge.rw_pricedreels_k00_errors_apart.prog
abbrev st0 : Stmt := clsM (topS 8) 0
def in0 : IniD := ⟨"BadCosts", "at", "BadCosts.__init__", defArgs st0, defBody st0, defScope st0⟩
abbrev st1 : Stmt := clsM (topS 14) 0
def in1 : IniD := ⟨"BadFrames", "at", "BadFrames.__init__", defArgs st1, defBody st1, defScope st1⟩
abbrev st2 : Stmt := clsM (topS 18) 0
def in2 : IniD := ⟨"BadHead", "part", "BadHead.__init__", defArgs st2, defBody st2, defScope st2⟩
abbrev st3 : Stmt := clsM (topS 22) 0
def in3 : IniD := ⟨"BadItem", "at", "BadItem.__init__", defArgs st3, defBody st3, defScope st3⟩
abbrev st4 : Stmt := clsM (topS 23) 0
def in4 : IniD := ⟨"BadJobs", "at", "BadJobs.__init__", defArgs st4, defBody st4, defScope st4⟩
abbrev st5 : Stmt := clsM (topS 32) 0
def in5 : IniD := ⟨"BadMode", "mode", "BadMode.__init__", defArgs st5, defBody st5, defScope st5⟩
abbrev st6 : Stmt := clsM (topS 45) 0
def in6 : IniD := ⟨"BadReel", "part", "BadReel.__init__", defArgs st6, defBody st6, defScope st6⟩
abbrev st7 : Stmt := clsM (topS 47) 0
def in7 : IniD := ⟨"BadRenewals", "at", "BadRenewals.__init__", defArgs st7, defBody st7, defScope st7⟩
abbrev st8 : Stmt := clsM (topS 51) 0
def in8 : IniD := ⟨"BadShape", "part", "BadShape.__init__", defArgs st8, defBody st8, defScope st8⟩
abbrev st9 : Stmt := clsM (topS 60) 0
def in9 : IniD := ⟨"BadStock", "part", "BadStock.__init__", defArgs st9, defBody st9, defScope st9⟩
abbrev st10 : Stmt := clsM (topS 61) 0
def in10 : IniD := ⟨"BadStore", "at", "BadStore.__init__", defArgs st10, defBody st10, defScope st10⟩
abbrev st11 : Stmt := clsM (topS 62) 0
def in11 : IniD := ⟨"BadStream", "at", "BadStream.__init__", defArgs st11, defBody st11, defScope st11⟩
abbrev st12 : Stmt := clsM (topS 63) 0
def in12 : IniD := ⟨"BadStretch", "at", "BadStretch.__init__", defArgs st12, defBody st12, defScope st12⟩
abbrev st13 : Stmt := clsM (topS 70) 0
def in13 : IniD := ⟨"BadWeb", "at", "BadWeb.__init__", defArgs st13, defBody st13, defScope st13⟩
abbrev st14 : Stmt := clsM (topS 73) 0
def in14 : IniD := ⟨"NotNow", "word", "NotNow.__init__", defArgs st14, defBody st14, defScope st14⟩
abbrev st15 : Stmt := clsM (topS 77) 0
def in15 : IniD := ⟨"TooMany", "most", "TooMany.__init__", defArgs st15, defBody st15, defScope st15⟩
def ini : List IniD := [in0, in1, in2, in3, in4, in5, in6, in7, in8, in9, in10, in11, in12, in13, in14, in15]
def NO : List Str := (["ReelError", "BadAt", "BadBits", "BadBlock", "BadBook", "BadBounds", "BadChosen", "BadCosts", "BadCut", "BadDelay", "BadError", "BadField", "BadFrame", "BadFrames", "BadGains"] : List Str) ++ (["BadGrade", "BadGuess", "BadHead", "BadHold", "BadHurt", "BadIndex", "BadItem", "BadJobs", "BadKind", "BadLeast", "BadLoss", "BadLosses", "BadLot", "BadLots", "BadMany"] : List Str) ++ (["BadMemory", "BadMode", "BadMost", "BadNumber", "BadOrder", "BadOther", "BadPlace", "BadPlan", "BadPlane", "BadPlanes", "BadPrice", "BadRate", "BadReach", "BadRectangle", "BadReel"] : List Str) ++ (["BadReferences", "BadRenewals", "BadRoom", "BadRow", "BadSet", "BadShape", "BadShares", "BadShift", "BadShows", "BadSize", "BadSizes", "BadSpans", "BadSpot", "BadState", "BadStock"] : List Str) ++ (["BadStore", "BadStream", "BadStretch", "BadTelling", "BadUpper", "BadVector", "BadWait", "BadWanted", "BadWay", "BadWeb", "BadWish", "BadWorths", "NotNow", "NothingDone", "OtherKinds"] : List Str) ++ (["OtherShapes", "TooMany"] : List Str)
/-! the looks, in parts: one run has room for little -/
abbrev RE (K : PySem.W.Frag) : Addr := He.ga K "ReelError"
def mroB (K : PySem.W.Frag) (D : Str) : Bool := decide ((PySem.W.clsIn K (He.ga K D)).map (fun c => c.mro) = some [.ref (He.ga K D), .ref (RE K), .type "ValueError", .type "Exception", .type "BaseException", .type "object"]) && decide (PySem.W.typeIn K (.ref (He.ga K D)) = some (.type "type"))
def reB (K : PySem.W.Frag) : Bool := (PySem.W.clsIn K (RE K)).isSome && decide (PySem.W.typeIn K (.ref (RE K)) = some (.type "type"))
def ordB : List Nat → Bool
  | a :: b :: r => decide (a < b) && ordB (b :: r)
  | _ => true
def x1 (K : PySem.W.Frag) : Bool := (NM.take 38).all fun D => exB K (He.ga K D)
def x2 (K : PySem.W.Frag) : Bool := (NM.drop 38).all fun D => exB K (He.ga K D)
def x3 (K : PySem.W.Frag) : Bool := NM.all (mroB K) && reB K
def x4 (K : PySem.W.Frag) : Bool := ordB (NO.map (He.ga K))
def x5 (K : PySem.W.Frag) : Bool := NI.all fun p => L2.xfB K (He.ga K p.1) && He.eqO (PySem.W.findIn K (.ref (He.ga K p.1)) p.2) (some none)
def x6 (K : PySem.W.Frag) : Bool := ini.all (iniB K PR)
def exx (K : PySem.W.Frag) : Bool := x1 K && (x2 K && (x3 K && (x4 K && (x5 K && x6 K))))
def loose : List Str := (["ReelError", "BadAt", "BadBits", "BadBlock", "BadBook", "BadBounds", "BadChosen", "BadCosts", "BadCut", "BadDelay", "BadError", "BadField", "BadFrame", "BadFrames", "BadGains"] : List Str) ++ (["BadGrade", "BadGuess", "BadHead", "BadHold", "BadHurt", "BadIndex", "BadItem", "BadJobs", "BadKind", "BadLeast", "BadLoss", "BadLosses", "BadLot", "BadLots", "BadMany"] : List Str) ++ (["BadMemory", "BadMode", "BadMost", "BadNumber", "BadOrder", "BadOther", "BadPlace", "BadPlan", "BadPlane", "BadPlanes", "BadPrice", "BadRate", "BadReach", "BadRectangle", "BadReel"] : List Str) ++ (["BadReferences", "BadRenewals", "BadRoom", "BadRow", "BadSet", "BadShape", "BadShares", "BadShift", "BadShows", "BadSize", "BadSizes", "BadSpans", "BadSpot", "BadState", "BadStock"] : List Str) ++ (["BadStore", "BadStream", "BadStretch", "BadTelling", "BadUpper", "BadVector", "BadWait", "BadWanted", "BadWay", "BadWeb", "BadWish", "BadWorths", "NotNow", "NothingDone", "OtherKinds"] : List Str) ++ (["OtherShapes", "TooMany", "_law_begun", "_law_draw", "_law_pick", "_law_odd", "_law_kinds_a", "_law_kinds_b", "_law_kinds_c", "_law_kinds_d", "_law_kinds_e", "_law_plain_a", "_law_plain_b", "_law_plain_c", "_law_held"] : List Str) ++ (["_law_held_by_name", "_law_is_alone"] : List Str)
abbrev kof (s : PySem.W.SharedT) : PySem.W.Frag := He.frT (HandSHeadRun.getT s) (asZ (HandSHeadRun.getT s))
noncomputable abbrev endE (w : World) (os : OsState) : Option PySem.W.SharedT := HandSHeadRun.endF (HandSHeadRun.stepQ (HandSHeadRun.denQ HandSHeadRun.tabQ) PR w) 100000 PR w os
open PySem.W PySem.Calls HandSHeadRun in
theorem r1 (w : World) (os : OsState) : (endE w os).map (fun s => (HandSHeadRun.looksF PR (boot_heap w.params) s.abs)) = some (true) := by kernel_rfl
open PySem.W PySem.Calls HandSHeadRun in
theorem r2 (w : World) (os : OsState) : (endE w os).map (fun s => (HandSHeadRun.seenQ (PySem.W.view PR [94]) loose (importedModules PR.main.body) (fun s => xlAt (PySem.W.view PR [94]) [] s && recOk R.toRowW.records s) s.abs)) = some (openGood (PySem.W.view PR [94]) loose) := by kernel_rfl
open PySem.W PySem.Calls HandSHeadRun in
theorem r3 (w : World) (os : OsState) : (endE w os).map (fun s => ((fn.map fun d => He.fnW (kof s) d.at_, (fa0.all fun f => f.ok (kof s)), fn.all fun d => d.ok (kof s)), gvN.all fun x => (He.Fa.glo x).ok (kof s))) = some ((fn.map He.DefD.val, true, true), true) := by kernel_rfl
open PySem.W PySem.Calls HandSHeadRun in
theorem r4 (w : World) (os : OsState) : (endE w os).map (fun s => ((fa1.take 30).all fun f => f.ok (kof s), (fa1.drop 30).all fun f => f.ok (kof s))) = some (true, true) := by kernel_rfl
open PySem.W PySem.Calls HandSHeadRun in
theorem r5 (w : World) (os : OsState) : (endE w os).map (fun s => (x1 (kof s), x2 (kof s))) = some (true, true) := by kernel_rfl
open PySem.W PySem.Calls HandSHeadRun in
theorem r6 (w : World) (os : OsState) : (endE w os).map (fun s => (x3 (kof s), x4 (kof s) && x5 (kof s))) = some (true, true) := by kernel_rfl
open PySem.W PySem.Calls HandSHeadRun in
theorem r7 (w : World) (os : OsState) : (endE w os).map (fun s => (ini.map fun d => iniO (kof s) d.x, x6 (kof s))) = some (ini.map IniD.val, true) := by kernel_rfl
end K00

set_option Elab.async false
set_option linter.all false
set_option maxRecDepth 100000
set_option maxHeartbeats 4000000
namespace G
open PySem PySem.Spec PyProof.Rows L2

/-! ## values: one rule an operation, told by what the two values are -/
def rAdd (K : PySem.W.Frag) : R2 := fun x y H Q => match x, y with
  | .int i, .int j => Q (.int (i + j)) H
  | .str a, .str b => a.length + b.length ≤ sizeLine ∧ Q (.str (a ++ b)) H
  | .ref a, .ref b => rCat (.ref a) (.ref b) H Q ∨ rCatA K (.ref a) (.ref b) H Q
  | _, _ => False
def rSub : R2 := fun x y H Q => match x, y with
  | .int i, .int j => Q (.int (i - j)) H
  | _, _ => False
def rMul (K : PySem.W.Frag) : R2 := fun x y H Q => match x, y with
  | .int i, .int j => (CMul i j ∨ CMulW i j) ∧ Q (.int (i * j)) H
  | .str a, .int k => MulOk a k ∧ Q (.str (Txt.mul a k)) H
  | .ref a, .int k => rRep (.ref a) (.int k) H Q ∨ rRepT K (.ref a) (.int k) H Q
  | _, _ => False
def rDiv : R2 := fun x y H Q => match x, y with
  | .int i, .int j => (CDiv i j ∨ CDivW i j) ∧ Q (.int (i / j)) H
  | _, _ => False
def rMod : R2 := fun x y H Q => match x, y with
  | .int i, .int j => 0 < j ∧ Q (.int (i % j)) H
  | _, _ => False
def rPow : R2 := fun x y H Q => match x, y with
  | .int i, .int j => CPow i j ∧ Q (.int (i ^ j.toNat)) H
  | _, _ => False
def rShl : R2 := fun x y H Q => match x, y with
  | .int i, .int j => CPow i j ∧ Q (.int (i * 2 ^ j.toNat)) H
  | _, _ => False
def rShr : R2 := fun x y H Q => match x, y with
  | .int i, .int j => 0 ≤ j ∧ Q (.int (i / 2 ^ j.toNat)) H
  | _, _ => False
def rNone : R2 := fun _ _ _ _ => False
def rBin (K : PySem.W.Frag) : Operator → R2
  | .Add => rAdd K
  | .Sub => rSub
  | .Mult => rMul K
  | .FloorDiv => rDiv
  | .Mod => rMod
  | .Pow => rPow
  | .LShift => rShl
  | .RShift => rShr
  | _ => rNone
section
variable {X : Cx}
theorem ok_none {f : Value → Value → Sem Value} : OpR X f rNone := fun _ _ _ _ _ _ _ _ _ _ _ _ h => h.elim
theorem ok_add : OpR X (binaryOp .Add) (rAdd X.K) := by
  intro pins s σ H x y v u Q I rx ry h
  cases x <;> cases y <;> first
    | exact False.elim h
    | exact op_add pins s σ H _ _ v u Q I rx ry ⟨_, _, rfl, rfl, h⟩
    | exact op_add_str pins s σ H _ _ v u Q I rx ry ⟨_, _, rfl, rfl, h.1, h.2⟩
    | exact h.elim (fun h => op_cat pins s σ H _ _ v u Q I rx ry h) (fun h => op_catA pins s σ H _ _ v u Q I rx ry h)
theorem ok_sub : OpR X (binaryOp .Sub) rSub := by
  intro pins s σ H x y v u Q I rx ry h
  cases x <;> cases y <;> first
    | exact False.elim h
    | exact op_sub pins s σ H _ _ v u Q I rx ry ⟨_, _, rfl, rfl, h⟩
theorem ok_mul : OpR X (binaryOp .Mult) (rMul X.K) := by
  intro pins s σ H x y v u Q I rx ry h
  cases x <;> cases y <;> first
    | exact False.elim h
    | exact h.1.elim (fun c => op_mul pins s σ H _ _ v u Q I rx ry ⟨_, _, rfl, rfl, c, h.2⟩) (fun c => op_mulW pins s σ H _ _ v u Q I rx ry ⟨_, _, rfl, rfl, c, h.2⟩)
    | exact h.elim (fun h => op_rep pins s σ H _ _ v u Q I rx ry h) (fun h => op_repT pins s σ H _ _ v u Q I rx ry h)
    | (obtain ⟨t, rfl⟩ := rx
       obtain ⟨t', rfl⟩ := ry
       exact SB.mul h.1 fun t2 k => ⟨.str _, H, I.tok k, ⟨t2, rfl⟩, h.2⟩)
theorem ok_div : OpR X (binaryOp .FloorDiv) rDiv := by
  intro pins s σ H x y v u Q I rx ry h
  cases x <;> cases y <;> first
    | exact False.elim h
    | exact h.1.elim (fun c => op_fdiv pins s σ H _ _ v u Q I rx ry ⟨_, _, rfl, rfl, c, h.2⟩) (fun c => op_fdivW pins s σ H _ _ v u Q I rx ry ⟨_, _, rfl, rfl, c, h.2⟩)
theorem ok_mod : OpR X (binaryOp .Mod) rMod := by
  intro pins s σ H x y v u Q I rx ry h
  cases x <;> cases y <;> first
    | exact False.elim h
    | exact op_mod pins s σ H _ _ v u Q I rx ry ⟨_, _, rfl, rfl, h.1, h.2⟩
theorem ok_pow : OpR X (binaryOp .Pow) rPow := by
  intro pins s σ H x y v u Q I rx ry h
  cases x <;> cases y <;> first
    | exact False.elim h
    | exact op_pow pins s σ H _ _ v u Q I rx ry ⟨_, _, rfl, rfl, h.1, h.2⟩
theorem ok_shl : OpR X (binaryOp .LShift) rShl := by
  intro pins s σ H x y v u Q I rx ry h
  cases x <;> cases y <;> first
    | exact False.elim h
    | exact op_shl pins s σ H _ _ v u Q I rx ry ⟨_, _, rfl, rfl, h.1, h.2⟩
theorem ok_shr : OpR X (binaryOp .RShift) rShr := by
  intro pins s σ H x y v u Q I rx ry h
  cases x <;> cases y <;> first
    | exact False.elim h
    | exact op_shr pins s σ H _ _ v u Q I rx ry ⟨_, _, rfl, rfl, h.1, h.2⟩
theorem ok_bin (op : Operator) : OpR X (binaryOp op) (rBin X.K op) := by
  cases op <;> first
    | exact ok_add
    | exact ok_sub
    | exact ok_mul
    | exact ok_div
    | exact ok_mod
    | exact ok_pow
    | exact ok_shl
    | exact ok_shr
    | exact ok_none
end
/-- name op= e -/
def rAug (K : PySem.W.Frag) : Operator → TIp := fun op x y H Q => match op with
  | .Add => (match x, y with
    | .int i, .int j => Q (.int (i + j)) H
    | .str a, .str b => a.length + b.length ≤ sizeLine ∧ Q (.str (a ++ b)) H
    | .ref a, .ref b => rExt2 (.ref a) (.ref b) H Q
    | _, _ => False)
  | .Sub => (match x, y with
    | .int i, .int j => Q (.int (i - j)) H
    | _, _ => False)
  | .Mult => (match x, y with
    | .int i, .int j => CMul i j ∧ Q (.int (i * j)) H
    | _, _ => False)
  | .FloorDiv => (match x, y with
    | .int i, .int j => CDiv i j ∧ Q (.int (i / j)) H
    | _, _ => False)
  | _ => False
theorem ok_aug {X : Cx} (op : Operator) : PIp X op (rAug X.K op) := by
  intro pins s σ H x y v u Q I rx ry h
  cases op <;> cases x <;> cases y <;> first
    | exact False.elim h
    | exact iop_add pins s σ H _ _ v u Q I rx ry ⟨_, _, rfl, rfl, h⟩
    | exact iop_add_str pins s σ H _ _ v u Q I rx ry ⟨_, _, rfl, rfl, h.1, h.2⟩
    | exact iop_ext pins s σ H _ _ v u Q I rx ry h
    | exact iop_sub pins s σ H _ _ v u Q I rx ry ⟨_, _, rfl, rfl, h⟩
    | exact iop_mul pins s σ H _ _ v u Q I rx ry ⟨_, _, rfl, rfl, h.1, h.2⟩
    | exact iop_fdiv pins s σ H _ _ v u Q I rx ry ⟨_, _, rfl, rfl, h.1, h.2⟩

/-! ## comparisons -/
def isV : V → V → Option Bool
  | .non, .non => some true
  | .bl a, .bl b => some (decide (a = b))
  | .non, _ => some false
  | .bl _, .non => some false
  | .int _, .non => some false
  | .str _, .non => some false
  | .ref _, .non => some false
  | _, _ => none
def rEqv (K : PySem.W.Frag) (neg : Bool) : R2 := fun x y H Q =>
  (scal x y = true ∧ Q (.bl (if neg then !decide (x = y) else decide (x = y))) H) ∨ (if neg then rNeD K x y H Q else rEqD K x y H Q)
def rOrd (K : PySem.W.Frag) (f : Int → Int → Bool) : R2 := fun x y H Q => match x, y with
  | .int i, .int j => Q (.bl (f i j)) H
  | _, _ => False
def rIsN (neg : Bool) : R2 := fun x y H Q => match x, y with
  | .bl a, .bl b => Q (.bl (if neg then !decide (a = b) else decide (a = b))) H
  | x, .non => Q (.bl (if neg then !decide (x = .non) else decide (x = .non))) H
  | _, _ => False
def rMem (K : PySem.W.Frag) (neg : Bool) : R2 := fun x y H Q => match y with
  | .ref d => rIn K neg x (.ref d) H Q ∨ ∃ o, DGet H d x o ∧ Q (.bl (if neg then !o.isSome else o.isSome)) H
  | _ => False
def rCmp (K : PySem.W.Frag) : CmpOp → R2
  | .Eq => rEqv K false
  | .NotEq => rEqv K true
  | .Lt => rOrd K fun i j => decide (i < j)
  | .LtE => rOrd K fun i j => decide (i ≤ j)
  | .Gt => rOrd K fun i j => decide (j < i)
  | .GtE => rOrd K fun i j => decide (j ≤ i)
  | .Is => rIsN false
  | .IsNot => rIsN true
  | .In => rMem K false
  | .NotIn => rMem K true
section
variable {X : Cx}
theorem ok_cmp (hu : X.A.units + 64 < cLine) (op : CmpOp) : OpR X (compareOp op) (rCmp X.K op) := by
  intro pins s σ H x y v u Q I rx ry h
  have hu1 : X.A.units + 1 < cLine := by omega
  cases op with
  | Eq => exact h.elim (fun h => op_eq pins s σ H x y v u Q I rx ry h) (fun h => op_eqD hu pins s σ H x y v u Q I rx ry h)
  | NotEq => exact h.elim (fun h => op_ne pins s σ H x y v u Q I rx ry h) (fun h => op_neD hu pins s σ H x y v u Q I rx ry h)
  | Lt => cases x <;> cases y <;> first
    | exact False.elim h
    | exact op_lt pins s σ H _ _ v u Q I rx ry ⟨_, _, rfl, rfl, h⟩
  | LtE => cases x <;> cases y <;> first
    | exact False.elim h
    | exact op_le pins s σ H _ _ v u Q I rx ry ⟨_, _, rfl, rfl, h⟩
  | Gt => cases x <;> cases y <;> first
    | exact False.elim h
    | exact op_gt pins s σ H _ _ v u Q I rx ry ⟨_, _, rfl, rfl, h⟩
  | GtE => cases x <;> cases y <;> first
    | exact False.elim h
    | exact op_ge pins s σ H _ _ v u Q I rx ry ⟨_, _, rfl, rfl, h⟩
  | Is => cases x <;> cases y <;> first
    | exact False.elim h
    | exact op_isBl pins s σ H _ _ v u Q I rx ry ⟨_, _, rfl, rfl, h⟩
    | exact op_isN pins s σ H _ _ v u Q I rx ry ⟨rfl, h⟩
  | IsNot => cases x <;> cases y <;> first
    | exact False.elim h
    | exact op_notBl pins s σ H _ _ v u Q I rx ry ⟨_, _, rfl, rfl, h⟩
    | exact op_notN pins s σ H _ _ v u Q I rx ry ⟨rfl, h⟩
  | In => cases y with
    | ref d =>
      rcases h with h | ⟨o, g, h⟩
      · exact op_in_seq pins s σ H _ _ v u Q I rx ry h
      · obtain rfl : u = Value.ref d := ry
        exact d_in hu1 I g rx fun s3 I3 => ⟨.bl o.isSome, H, I3, rfl, h⟩
    | _ => exact False.elim h
  | NotIn => cases y with
    | ref d =>
      rcases h with h | ⟨o, g, h⟩
      · exact op_notIn_seq pins s σ H _ _ v u Q I rx ry h
      · obtain rfl : u = Value.ref d := ry
        exact d_notIn hu1 I g rx fun s3 I3 => ⟨.bl (!o.isSome), H, I3, rfl, h⟩
    | _ => exact False.elim h
end
/-! ## a subscript: sequences, texts, dicts -/
def rSub2 (K : PySem.W.Frag) : R2 := fun x y H Q => rIx K x y H Q ∨ ∃ a v, x = .ref a ∧ DGet H a y (some v) ∧ Q v H
theorem ok_dget {X : Cx} (hu : X.A.units + 1 < cLine) : IxR X (fun x y H Q => ∃ a v, x = .ref a ∧ DGet H a y (some v) ∧ Q v H) := by
  intro value slice pins s σ H x y v u Q I rx ry h hs
  obtain ⟨a, z, rfl, g, q⟩ := h
  obtain rfl : v = Value.ref a := rx
  exact tail_any (dict_typeIs I g) PySem.F.slot_dict_getitem.lookup (d_getItem hu I g ry fun w' s3 I3 rw' => ⟨z, H, I3, rw', q⟩) hs
theorem ok_sub2 {X : Cx} (hu : X.A.units + 1 < cLine) : IxR X (rSub2 X.K) := ix_seq.or (ok_dget hu)
/-! ## slices: of a list, a tuple, a text -/
def rSlG (K : PySem.W.Frag) : V → Option Int → Option Int → Hp → VK → Prop := fun x l u H Q => rSlL K x l u H Q ∨ rSlA K x l u H Q ∨ rSlS x l u H Q
theorem sl_all {X : Cx} : SlR X (rSlG X.K) := sl_list.or (sl_tupA.or sl_str)
end G

set_option Elab.async false
set_option linter.all false
set_option maxRecDepth 100000
set_option maxHeartbeats 8000000
namespace G
open PySem PySem.Spec PyProof.Rows L2
/-! ## an error class whose __init__ says super().__init__(text) and keeps one value -/
abbrev iniBody (fld txt : Str) (p0 p1 p2 p3 p4 p5 p6 p7 p8 p9 : Pos) (j : Nat) : List Stmt :=
  [.Expr (.Call (.Attribute (.Call (.Name "super" p0) [] [] p1) "__init__" p2) [.Constant (.str txt) j p3] [] p4) p5, .Assign [.Attribute (.Name "self" p6) fld p7] (.Name fld p8) p9]
abbrev iniArgs (fld : Str) (a1 a2 : Arg) : Arguments := ⟨[], [a1, a2], none, [], [], none, []⟩
structure IniF (K : PySem.W.Frag) (P : Program) (C : Addr) (fld : Str) : Prop where
  T : OexC K C
  fld0 : PySem.W.findIn K (.ref C) fld = some none
  vE : PySem.W.subIn K (.ref C) (.type "ValueError") = some true
  up : PySem.W.ks_superIn K C C "__init__" = some (some (.builtin "ValueError.__init__"))
  own : PySem.W.mroIn K C (.ref C) = some true
  sup : PySem.W.nsIn K mainGlobals "super" = some none
  opq : PySem.W.nsIn K cStatics "thirdparty.any" = some none
  top : (P.main.scope.names.lookup ("super" : Str)).isSome = false
  fn : ∃ (fI cda cc : Addr) (oc ccl cl : Value) (od cdd cld : Option Addr) (osl ccs csl : Array (Option Value)) (qual txt : Str) (kV doc pm ct : Value) (an : Option Addr) (a1 a2 : Arg) (scope : Scope) (p0 p1 p2 p3 p4 p5 p6 p7 p8 p9 : Pos) (j : Nat) (vs : Array Value) (file : Str) (tf : Tok),
    PySem.W.findIn K (.ref C) "__init__" = some (some (.ref fI)) ∧ PySem.W.typeIn K (.ref fI) = some (.type "function") ∧
    K.lookup fI = some ⟨oc, od, .func (PySem.W.ksFn "__init__" qual (iniArgs fld a1 a2) (iniBody fld txt p0 p1 p2 p3 p4 p5 p6 p7 p8 p9 j) scope .none kV doc pm an (.ref cda) ct cc), osl⟩ ∧ PySem.W.codeIn K (.ref cda) qual = true ∧
    a1.arg = "self" ∧ a2.arg = fld ∧ (∀ y ∈ scope.names, y.2 ≠ .cell) ∧ scope.isCoroutine = false ∧ scope.isGenerator = false ∧ scope.kind = .function ∧
    scope.names.lookup ("super" : Str) = some .globalImplicit ∧ scope.names.lookup ("__class__" : Str) = some .free ∧ scope.names.lookup ("self" : Str) = some .local ∧ scope.names.lookup fld = some .local ∧
    K.lookup cda = some ⟨ccl, cdd, .fields vs, ccs⟩ ∧ vs[2]? = some (.str file tf) ∧ ((P.main.file : Str) == file) = true ∧ K.lookup cc = some ⟨cl, cld, .cell (some (.ref C)), csl⟩ ∧
    (∀ (L : Addr) (line : Nat), swapsWith (.Name fld p8) (some (.Attribute (.Name "self" p6) fld p7)) line (PySem.W.ksEnv qual scope L fI (.ref cda) cc) = pure false) ∧ (fld == ("__debug__" : Str)) = false ∧ fld ≠ "self" ∧ (p2.endLine == p4.line) = true ∧
    ∀ u v : Value, bindArgs (PySem.W.ksFn "__init__" qual (iniArgs fld a1 a2) (iniBody fld txt p0 p1 p2 p3 p4 p5 p6 p7 p8 p9 j) scope .none kV doc pm an (.ref cda) ct cc) ⟨[u, v], []⟩ = pure [(("self" : Str), u), (fld, v)]
/-- a call of a method, its parts in a row -/
theorem meth_eq {o : Expr} {name : Str} {apos pos : Pos} {args : List Expr} {env : Env} (hf : methodCallForm (args.length + ([] : List Keyword).length) (backTo pos (starEach args env)) (backToKw pos (keywordEach [] env)) = true) (hl : (apos.endLine == pos.line) = true) :
    eval (.Call (.Attribute o name apos) args [] pos) env = (do
      let ov ← attributeBase o name env (eval o env)
      standAt apos.atName
      let (f, first) ← holding [ov] (getMethod ov name (do return (← importBound o env).getD true))
      callWith pos f first (backTo pos (starEach args env)) []) := by
  rw [arm_eval_Call]
  unfold methodCall
  rw [hf]
  have e1 : ∀ ov, calleeOf true o env ov name = getMethod ov name (do return (← importBound o env).getD true) := fun ov => rfl
  have e2 : methodCallPos true o env apos pos = pure pos := by
    unfold methodCallPos
    rw [hl]
    rfl
  simp only [e1, e2, pure_bind]
  rfl
section
variable {P : Program} {w : World} {K : PySem.W.Frag} {A : Around} {mg mb : Str → Option Value} {C e t0 : Addr} {fld : Str} {u : Value} {hp : Heap} {g : Array GenState} {d : Drawn} {t : Nat} {os : OsState} {R : Result → Shared → Prop}
theorem ini_runA (F : IniF K P C fld) (args : Args) (hba : ∀ fI oc od fd osl, PySem.W.findIn K (.ref C) "__init__" = some (some (.ref fI)) → K.lookup fI = some ⟨oc, od, .func fd, osl⟩ → bindArgs fd args = pure [(("self" : Str), Value.ref e), (fld, u)]) (X : K.In hp) (gl : hp.Ns mainGlobals mg) (bl : hp.Ns builtinsNs mb) (bb : mb "super" = some (.type "super")) (nl : hp.NoLimit) (ni : K.lookup e = none) (he : hp.get? e = some (PySem.HandSPX.excO C t0)) (hroom : A.depth < recursionLimit)
    (hq : ∀ h' tk dx t1, (∀ b o, b ≠ e → hp.get? b = some o → h'.get? b = some o) → h'.get? e = some { cls := .ref C, dict := some dx, data := .fields #[.ref t1, .none, .none, .none, .bool false, .none] } →
      h'.Ns1 dx (fun y => if y = fld then some u else none) → hp.objs.size ≤ dx → R (.ok (.ret .none)) ⟨h', g, d, tk, os⟩) :
    ∃ fI, PySem.W.findIn K (.ref C) "__init__" = some (some (.ref fI)) ∧ PySem.W.typeIn K (.ref fI) = some (.type "function") ∧ codeAny (model P w) A (.call (.ref fI) args) R ⟨hp, g, d, t, os⟩ := by
  obtain ⟨fI, cda, cc, oc, ccl, cl, od, cdd, cld, osl, ccs, csl, qual, txt, kV, doc, pm, ct, an, a1, a2, scope, p0, p1, p2, p3, p4, p5, p6, p7, p8, p9, j, vs, file, tf, f1, f2, lk, hcd, ha1, ha2, ncell, nco, ngen, hkind, ks1, ks2, ks3, ks4, lcda, hvs, hfile, lcc, hsw, hdb, hns', hline, hbind⟩ := F.fn
  obtain ⟨nm, q, N, bs, bm, sn, sub, ab, col, dd, k0, k1, k2, k3, k5, hC, hbm⟩ := F.T.cls
  refine ⟨fI, f1, f2, ?_⟩
  have hcl : PySem.W.clsIn K C = some { name := nm, bases := bs, mro := .ref C :: bm, ns := N, qualname := q, hasDict := true, slotNames := sn, subclasses := sub, abstract := ab, collection := col, hasDel := false } := by unfold PySem.W.clsIn; rw [hC] <;> rfl
  refine PySem.ks_codeAny_call_defAt (binds := [(("self" : Str), .ref e), (fld, u)]) hroom (X _ _ lk) rfl nl (PySem.W.codeRec_of X hcd) rfl (.of_eq (hba _ _ _ _ _ f1 lk)) ncell (fun y hy => ?_) (fun h₁ hns hk => ?_) nco ngen hkind
  · rcases List.mem_cons.mp hy with rfl | hy
    · exact ks3
    · rw [List.mem_singleton.mp hy]
      exact ks4
  have envq : PySem.callEnv (PySem.W.ksFn "__init__" qual (iniArgs fld a1 a2) (iniBody fld txt p0 p1 p2 p3 p4 p5 p6 p7 p8 p9 j) scope .none kV doc pm an (.ref cda) ct cc) hp.objs.size fI = PySem.W.ksEnv qual scope hp.objs.size fI (.ref cda) cc := rfl
  rw [envq]
  have X1 : K.In h₁ := X.keeps hk
  have he1 := hk _ _ he
  have hself : (fun x => ([(("self" : Str), Value.ref e), (fld, u)] : List (Str × Value)).reverse.lookup x) ("self" : Str) = some (.ref e) := by
    show ([(fld, u), (("self" : Str), Value.ref e)] : List (Str × Value)).lookup ("self" : Str) = _
    rw [List.lookup_cons]
    have z : (("self" : Str) == fld) = false := by simpa using fun z => hns' z.symm
    rw [z]
    rfl
  have hfld : (fun x => ([(("self" : Str), Value.ref e), (fld, u)] : List (Str × Value)).reverse.lookup x) fld = some u := by
    show ([(fld, u), (("self" : Str), Value.ref e)] : List (Str × Value)).lookup fld = _
    rw [List.lookup_cons, beq_self_eq_true]
  have hint : interactive (PySem.W.ksEnv qual scope hp.objs.size fI (.ref cda) cc) = false := by
    unfold interactive
    show (scope.kind == .module && _) = false
    rw [hkind]
    rfl
  refine PySem.ks_wpAt_execs_cons (PySem.ks_wpAt_Expr_any (PySem.ks_wpAt_MethodCall ?_ (meth_eq rfl hline)) hint rfl)
  refine PySem.ks_wpAt_super_base (env := PySem.W.ksEnv qual scope hp.objs.size fI (.ref cda) cc) ks1 ks2 (by decide) rfl (X1 _ _ lk) rfl rfl rfl (X1 _ _ lcda) rfl hvs hfile F.top ?_
  refine PySem.W.ks_loadName_global hkind ks1 (PySem.Calls.loadGlobal_builtin (env := PySem.W.ksEnv qual scope hp.objs.size fI (.ref cda) cc) (gl.keeps hk) (PySem.W.mg_none_of X gl F.sup) (bl.keeps hk) bb ⟨rfl, ?_⟩)
  refine wpAny_loadName_free hkind ks2 rfl ⟨_, X1 _ _ lcc, rfl⟩ ?_
  rw [ha1]
  refine wpAny_loadName_local hkind ks3 hns hself ?_
  have hC1 := X1 _ _ hC
  refine PySem.ks_wpAny_isType_cls hC1 rfl ⟨rfl, ?_⟩
  refine PySem.ks_wpAny_call_super hC1 rfl he1 rfl (fun c z => nomatch z) (PySem.W.looks_mroIn X1 F.own) (fun h2 e2 k2 => ?_)
  have X2 : K.In h2 := X1.keeps k2
  have he2 := k2 _ _ he1
  have I2 : PySem.W.InstAt h2 e (PySem.HandSPX.excO C t0) C none := ⟨he2, rfl, rfl, trivial⟩
  have hal : PySem.W.alongIn K "__init__" (((.ref C :: bm : List Value).dropWhile (· != .ref C)).drop 1) = some (some (.builtin "ValueError.__init__")) := by
    have z := F.up
    unfold PySem.W.ks_superIn at z
    rw [hcl] at z
    exact z
  refine PySem.W.kxs_getMethod PySem.W.kxs_ValueError (so := h₁.objs.size) (D := C) (x := e) (C := C) e2 (PySem.W.looks_opaque X2 F.opq) (l₀ := .ref C :: bm) (fun A Q E s k q => wpAny_bind ((PySem.W.looks_clsIn X2 hcl) A _ E s k (wpAny_pure q))) rfl X2 hal (I2.type.andThen (PySem.W.looks_subIn X2 F.vE)) (PySem.W.ks_ne X2 I2 hcl) rfl ?_
  show wpAny _ _ (callWith p4 (.ref h2.objs.size) [] (backTo p4 (starEach [.Constant (.str txt) j p3] (PySem.W.ksEnv qual scope hp.objs.size fI (.ref cda) cc))) []) _ _ _
  have k3 : ∀ b o, h2.get? b = some o → (h2.push (PySem.W.kxs_mw "ValueError.__init__" e)).get? b = some o := fun b o z => Heap.get?_push_of_some _ z
  have hu3 : (h2.push (PySem.W.kxs_mw "ValueError.__init__" e)).get? h2.objs.size = some (PySem.W.kxs_mw "ValueError.__init__" e) := Heap.get?_push_at rfl rfl
  revert k3 hu3
  generalize h2.push (PySem.W.kxs_mw "ValueError.__init__" e) = h3
  intro k3 hu3
  refine PySem.W.kxs_callWith (i := "ValueError.__init__") (x := e) rfl ?_
  refine PySem.Calls.evalArgs_plain ?_
  refine PySem.Calls.spliced_cons (show wpAny _ _ (eval (.Constant (.str txt) j p3) _) _ _ _ from PySem.Calls.Constant_str ?_)
  refine PySem.Calls.spliced_nil ⟨hu3, ?_⟩
  have hC3 := k3 _ _ (k2 _ _ hC1)
  have he3 := k3 _ _ he2
  refine wpAny_call (codeAny_of_tree ?_)
  show wpAny _ _ (callAny (.ref h2.objs.size) ⟨[.str txt _], []⟩) _ _ _
  simp only [callAny]
  refine wpAny_bind (wpAny_load hu3 ?_)
  simp only [PySem.W.kxs_mw, show (Value.type "method-wrapper" == Value.type "method" || Value.type "method-wrapper" == Value.type "builtin_function_or_method" || Value.type "method-wrapper" == Value.type "method-wrapper") = true by decide, if_true]
  refine PySem.W.KFB.if_so (by decide) ?_
  refine wpAny_bind (PySem.W.check_bound_init PySem.F.excBase_ValueError.toExcCallFacts hC3 he3 rfl ?_)
  refine wpAny_bind (wpAny_pure (wpAny_pure ?_))
  refine ⟨plainId_quiet PySem.F.excBase_ValueError.init.plain _, codeAny_builtin PySem.F.excBase_ValueError.initEntry ?_⟩
  refine PySem.W.exc_init_tree (cls := .ref C) (t0 := t0) (dv := none) (c2 := .none) (c3 := .none) (b4 := .bool false) he3 (by rw [sizeLine_eq]; exact Nat.le_of_ble_eq_true rfl) (fun h4 k4 he4 ht4 => ?_)
  have Le : hp.objs.size ≠ e := Nat.ne_of_gt (Heap.lt_size he)
  have ns4 : h4.Ns hp.objs.size fun x => ([(("self" : Str), Value.ref e), (fld, u)] : List (Str × Value)).reverse.lookup x := by
    obtain ⟨oL, es, ep, hL, r⟩ := hns
    exact ⟨oL, es, ep, k4 _ _ Le (k3 _ _ (k2 _ _ hL)), r⟩
  have ne : ∀ b o, K.lookup b = some o → b ≠ e := fun b o z zb => by
    rw [zb, ni] at z
    cases z
  have X4 : K.In h4 := fun b o z => k4 _ _ (ne b o z) (k3 _ _ (k2 _ _ (X1 _ _ z)))
  show PySem.wpAt _ _ _ (execs _ _) _ _ _
  refine PySem.ks_wpAt_execs_cons (PySem.ks_wpAt_Assign_Attr ?_ (hsw _ _))
  refine wpAt_of_wpAny (wpAny_Name (wpAny_loadName_local hkind ks4 ns4 hfld ?_) hdb)
  refine wpAny_Name (wpAny_loadName_local hkind ks3 ns4 hself ?_) (by decide)
  refine PySem.W.set_plain X4 (ox := PySem.HandSPX.excO C h3.objs.size) (od := none) ⟨he4, rfl, rfl, trivial⟩ F.T.sa ?_
  refine PySem.HandSPX.exc_osa X4 he4 hcl (show PySem.HandSPX.refsVE (.ref C :: bm) = true from hbm) rfl F.fld0 (fun h' tk' dx k dn dne hx hn => ?_)
  refine wpAt_of_wpAny (wpAny_execs_nil ?_)
  refine hq h' _ dx _ (fun b o nb z => k b o nb (k4 b o nb (k3 _ _ (k2 _ _ (hk _ _ z))))) hx hn ?_
  obtain ⟨oL, es, ep, hL, r⟩ := ns4
  exact Nat.le_trans (Nat.le_of_lt (Heap.lt_size hL)) dn
theorem ini_run (F : IniF K P C fld) (X : K.In hp) (gl : hp.Ns mainGlobals mg) (bl : hp.Ns builtinsNs mb) (bb : mb "super" = some (.type "super")) (nl : hp.NoLimit) (ni : K.lookup e = none) (he : hp.get? e = some (PySem.HandSPX.excO C t0)) (hroom : A.depth < recursionLimit)
    (hq : ∀ h' tk dx t1, (∀ b o, b ≠ e → hp.get? b = some o → h'.get? b = some o) → h'.get? e = some { cls := .ref C, dict := some dx, data := .fields #[.ref t1, .none, .none, .none, .bool false, .none] } →
      h'.Ns1 dx (fun y => if y = fld then some u else none) → hp.objs.size ≤ dx → R (.ok (.ret .none)) ⟨h', g, d, tk, os⟩) :
    ∃ fI, PySem.W.findIn K (.ref C) "__init__" = some (some (.ref fI)) ∧ PySem.W.typeIn K (.ref fI) = some (.type "function") ∧ codeAny (model P w) A (.call (.ref fI) ⟨[.ref e, u], []⟩) R ⟨hp, g, d, t, os⟩ := by
  refine ini_runA F ⟨[.ref e, u], []⟩ (fun fI2 oc2 od2 fd2 osl2 f12 lk2 => ?_) X gl bl bb nl ni he hroom hq
  obtain ⟨fI, cda, cc, oc, ccl, cl, od, cdd, cld, osl, ccs, csl, qual, txt, kV, doc, pm, ct, an, a1, a2, scope, p0, p1, p2, p3, p4, p5, p6, p7, p8, p9, j, vs, file, tf, f1, f2, lk, hcd, ha1, ha2, ncell, nco, ngen, hkind, ks1, ks2, ks3, ks4, lcda, hvs, hfile, lcc, hsw, hdb, hns', hline, hbind⟩ := F.fn
  rw [f1] at f12
  cases f12
  rw [lk] at lk2
  cases lk2
  exact hbind _ _
end
end G

set_option Elab.async false
set_option linter.all false
set_option maxRecDepth 100000
set_option maxHeartbeats 4000000
namespace G
open PySem PySem.Spec PyProof.Rows L2 LamX

/-! ## callables -/
structure RoomG (k : Nat) (A : Around) : Prop where
  r : Room k A
  g : A.guards = some []
theorem RoomG.mono {j k : Nat} {A : Around} (h : RoomG k A) (l : j ≤ k) : RoomG j A := ⟨h.r.mono l, h.g⟩
theorem RoomG.deeper {k : Nat} {A : Around} (h : RoomG (k + 1) A) (env : Env) : RoomG k (A.deeper env) := ⟨h.r.deeper env, h.g⟩
/-- what a thunk's call wants -/
abbrev TL := XK → Hp → VK → Prop
abbrev Acts := Addr → TL → Prop
abbrev noActs : L2.St → Hp → Addr → TL → Prop := fun _ _ _ _ => False
abbrev SpG := Acts → List V → List V → Hp → VK → XK → Prop
/-- the room of a thunk -/
def lamRoom : Nat := 42
section
variable (P : Program) (w : World) (K : PySem.W.Frag) (mg : Str → Option Value) (base : Heap)
/-- the thunk at f, known at the heap h: whoever calls it later -/
def Act (h : Heap) (H : Hp) (stk : List Env) (f : Addr) (tl : TL) : Prop :=
  ∀ (A : Around) (outer : List Env) (s' : Shared) (H' : Hp), Env0 P w K mg base A outer s' H' → Un (frs stk) [] H H' h s'.heap →
    PySem.W.FnAt f s'.heap ∧ ∀ (Q : VK) (E : XK), RoomG lamRoom A → tl E H' Q → codeAny (model P w) A (.call (.ref f) ⟨[], []⟩) (CR (L2.CX P w) outer P w H' s' Q E) s'
/-- what is at f, called with n values and the keywords ks -/
def FnS (k : Nat) (f : Addr) (n : Nat) (ks : List Str) (S : SpG) : Prop :=
  ∀ (A : Around) (outer : List Env) (s : Shared) (H : Hp) (us ws : List Value) (vs zs : List V) (Q : VK) (E : XK) (acts : Acts),
    RoomG k A → Env0 P w K mg base A outer s H → Vals vs us → Vals zs ws → vs.length = n → zs.length = ks.length →
    (∀ g tl, acts g tl → Act P w K mg base s.heap H outer g tl) → S acts vs zs H Q E →
    codeAny (model P w) A (.call (.ref f) ⟨us, ks.zip ws⟩) (CR (L2.CX P w) outer P w H s Q E) s
end
theorem Act.later {P : Program} {w : World} {K : PySem.W.Frag} {mg : Str → Option Value} {base h h1 : Heap} {H H1 : Hp} {l l1 : List Env} {f : Addr} {tl : TL} (a : Act P w K mg base h H l f tl) (u : Un (frs l) [] H H1 h h1)
    (hs : ∀ b ∈ frs l, b ∈ frs l1) (hn : ∀ b ∈ frs l1, b ∉ frs l → h.get? b = none) : Act P w K mg base h1 H1 l1 f tl := by
  intro A outer s' H' e0 u2
  refine a A outer s' H' e0 ?_
  refine ⟨fun b o q n hb hx => ?_, fun b o q n hb hx => ?_, fun b o q n hx => ?_, fun b o q hx => ?_, fun b xs q => u2.tups b xs (u.tups b xs q), fun b o x q => u2.frzs b o x (u.frzs b o x q), fun b ps q => ?_⟩
  · have q1 := u.keep b o q n hb hx
    have n1 := u.free b o q n hx
    refine u2.keep b o q1 n1 (fun z => ?_) hx
    have z2 := hn b z hb
    rw [q] at z2
    cases z2
  · obtain ⟨sl, q1⟩ := u.slot b o q n hb hx
    have n1 := u.free b o q n hx
    obtain ⟨sl2, q2⟩ := u2.slot b _ q1 n1 (hs b hb) hx
    exact ⟨sl2, q2⟩
  · obtain ⟨o1, q1⟩ := u.there b o q hx
    exact u2.free b o1 q1 (u.free b o q n hx) hx
  · obtain ⟨o1, q1⟩ := u.there b o q hx
    exact u2.there b o1 q1 hx
  · obtain ⟨m1, e1⟩ := u.tbls b ps q
    obtain ⟨m2, e2⟩ := u2.tbls b _ e1
    exact ⟨m1 ++ m2, by rw [e2, Array.append_assoc]⟩

/-! ## what stands around a frame's code -/
structure Gam where
  N : List Str
  fn : Str → Nat → List Str → Option (Nat × SpG)
  gv : Str → Option V
  exc : Str → Option Addr
  exA : Str → Option (Addr × Str)
  free : Str → Bool
  act : Acts
  qual : Str
  cells : List (Str × Addr)
  T : List (Addr × Str)
  P : Option Addr
/-- in a block: no thunks -/
def Gam.blk (Γ : Gam) : Gam := { Γ with act := fun _ _ => False, P := none }
/-- in a thunk: the low functions alone -/
def Gam.low (Γ : Gam) : Gam := { Γ with act := fun _ _ => False, P := none, fn := fun x n ks => match Γ.fn x n ks with
  | some p => if p.1 ≤ 40 then some p else none
  | none => none }
structure Good (k : Nat) (Γ : Gam) (sc : Scope) (W : WX) (X : Cx) : Prop where
  calm : X.calm = true
  sc : X.env.scope = sc
  N : X.N = Γ.N
  nd : Γ.N.Nodup
  room : RoomG k X.A
  fn : ∀ x n ks p, Γ.fn x n ks = some p → p.1 ≤ k ∧ ∃ f, X.mg x = some (.ref f) ∧ PySem.W.keepIn X.K (.ref f) = true ∧ FnS X.prog X.w X.K X.mg X.base p.1 f n ks p.2
  gv : ∀ x v, Γ.gv x = some v → ∃ u, X.mg x = some u ∧ RelV v u
  free : ∀ x, Γ.free x = true → X.mg x = none
  exc : ∀ x C, Γ.exc x = some C → X.mg x = some (.ref C) ∧ PySem.W.excIn X.K C He.veBase "ValueError.__new__" = true ∧ PySem.W.keepIn X.K (.ref C) = true ∧
    PySem.W.subIn X.K (.ref C) (.type "BaseException") = some true ∧ PySem.W.typeIn X.K (.ref C) = some (.type "type")
  exA : ∀ x p, Γ.exA x = some p → 1 ≤ k ∧ X.mg x = some (.ref p.1) ∧ IniF X.K X.prog p.1 p.2
  act : ∀ f tl, Γ.act f tl → Act X.prog X.w X.K X.mg X.base X.s_0.heap X.H_0 X.outer f tl
  aex : (∃ f tl, Γ.act f tl) → X.ex = [] ∧ X.stack = X.env :: X.outer ∧ X.env.frame = some X.env.locals
  aek : (∃ f tl, Γ.act f tl) → lamRoom ≤ k
  pass : PassesOwn (model X.prog X.w) X.A X.env X.xe
  takes : Takes X W
  lam : ∀ p, Γ.P = some p → ∃ c, TabB X.base X.mg c p ∧ X.env.code = .ref c ∧ (p, Γ.qual ++ "<lambda>") ∈ Γ.T ∧ (∀ q ∈ Γ.T, q.1 = p → q.2 = Γ.qual ++ "<lambda>") ∧ X.env.cells = Γ.cells ∧ X.env.qual = Γ.qual
theorem Good.units {k : Nat} {Γ : Gam} {sc : Scope} {W : WX} {X : Cx} (g : Good k Γ sc W X) : X.A.units + 64 < cLine := g.room.r.units

/-! ## names -/
def vis (sc : Scope) (x : Str) : Bool := match sc.names.lookup x with
  | some .local => true
  | some .cell => true
  | some .free => true
  | _ => false
def loc (sc : Scope) (x : Str) : Bool := match sc.names.lookup x with
  | some .local => true
  | some .cell => true
  | _ => false
def glb (sc : Scope) (x : Str) : Bool := match sc.names.lookup x with
  | some .globalImplicit => true
  | _ => false
theorem vis_ok {sc : Scope} {x : Str} (h : vis sc x = true) : Vis sc x := by
  unfold vis at h
  split at h <;> first
    | exact .inl (by assumption)
    | exact .inr (.inl (by assumption))
    | exact .inr (.inr (by assumption))
    | cases h
theorem loc_ok {sc : Scope} {x : Str} (h : loc sc x = true) : Loc sc x := by
  unfold loc at h
  split at h <;> first
    | exact .inl (by assumption)
    | exact .inr (by assumption)
    | cases h
theorem glb_ok {sc : Scope} {x : Str} (h : glb sc x = true) : sc.names.lookup x = some .globalImplicit := by
  unfold glb at h
  split at h <;> first
    | assumption
    | cases h
def slot (N : List Str) (x : Str) : Option Nat := N.findIdx? (· == x)
theorem slot_ok {N : List Str} {x : Str} {i : Nat} (h : slot N x = some i) : N[i]? = some x := by
  unfold slot at h
  obtain ⟨h1, h2, _⟩ := List.findIdx?_eq_some_iff_getElem.mp h
  rw [List.getElem?_eq_getElem h1]
  exact congrArg some (beq_iff_eq.mp h2)
def oddName (x : Str) : Bool := x == ("__debug__" : Str) || x == ("__classdict__" : Str) || x == ("__name__" : Str)
theorem oddName_no {x : Str} (h : oddName x = false) : (x == ("__debug__" : Str)) = false ∧ (x == ("__classdict__" : Str)) = false ∧ x ≠ "__name__" := by
  unfold oddName at h
  rw [Bool.or_eq_false_iff, Bool.or_eq_false_iff] at h
  exact ⟨h.1.1, h.1.2, fun e => by
    subst e
    have := h.2
    simp at this⟩
def tNo : TE := fun _ _ _ => False
def tNoS : TS := fun _ _ _ => False
theorem pe_no {X : Cx} {e : Expr} : PE X e tNo := ⟨fun _ _ _ _ _ _ h => h.elim⟩
theorem ps_no {X : Cx} {e : Stmt} : PS X e tNoS := ⟨fun _ _ _ _ _ _ h => h.elim⟩
def noStar (es : List Expr) : Bool := es.all fun e => match e with
  | .Starred .. => false
  | _ => true
theorem star_one {e : Expr} {es : List Expr} {env : Env} (h : noStar (e :: es) = true) : starEach (e :: es) env = (false, eval e env) :: starEach es env := by
  unfold noStar at h
  rw [List.all_cons] at h
  cases e <;> first
    | rfl
    | cases (Bool.and_eq_true_iff.mp h).1
theorem star_tail {e : Expr} {es : List Expr} (h : noStar (e :: es) = true) : noStar es = true := by
  unfold noStar at h ⊢
  rw [List.all_cons] at h
  exact (Bool.and_eq_true_iff.mp h).2
theorem star_any {pos : Pos} {env : Env} : ∀ {es : List Expr}, noStar es = true → (backTo pos (starEach es env)).any (·.1) = false
  | [], _ => rfl
  | e :: es, h => by
    have ih := star_any (pos := pos) (env := env) (star_tail h)
    rw [star_one h]
    show (false || (backTo pos (starEach es env)).any (·.1)) = false
    rw [ih]
    rfl
theorem star_all {pos : Pos} {env : Env} : ∀ {es : List Expr}, noStar es = true → (backTo pos (starEach es env)).all (fun x => !x.1) = true
  | [], _ => rfl
  | e :: es, h => by
    have ih := star_all (pos := pos) (env := env) (star_tail h)
    rw [star_one h]
    show (true && (backTo pos (starEach es env)).all (fun x => !x.1)) = true
    rw [ih]
    rfl
def kwNames (kws : List Keyword) : List Str := kws.filterMap (·.arg)
def kwAll (kws : List Keyword) : Bool := kws.all (·.arg.isSome)
theorem kw_all {pos : Pos} {env : Env} : ∀ {kws : List Keyword}, kwAll kws = true → (backToKw pos (keywordEach kws env)).all (·.1.isSome) = true ∧ (backToKw pos (keywordEach kws env)).any (·.1.isNone) = false ∧
    (backToKw pos (keywordEach kws env)).filterMap (·.1) = kwNames kws
  | [], _ => ⟨rfl, rfl, rfl⟩
  | ⟨none, v, p⟩ :: kws, h => by
    unfold kwAll at h
    rw [List.all_cons] at h
    cases (Bool.and_eq_true_iff.mp h).1
  | ⟨some n, v, p⟩ :: kws, h => by
    unfold kwAll at h
    rw [List.all_cons] at h
    obtain ⟨a, b, c⟩ := kw_all (pos := pos) (env := env) (kws := kws) (Bool.and_eq_true_iff.mp h).2
    refine ⟨?_, ?_, ?_⟩
    · show (true && (backToKw pos (keywordEach kws env)).all (·.1.isSome)) = true
      rw [a]
      rfl
    · show (false || (backToKw pos (keywordEach kws env)).any (·.1.isNone)) = false
      rw [b]
      rfl
    · show n :: (backToKw pos (keywordEach kws env)).filterMap (·.1) = n :: kwNames kws
      rw [c]
/-- a receiver that super() cannot be -/
def notBare (e : Expr) : Bool := match e with
  | .Call (.Name _ _) [] [] _ => false
  | _ => true
theorem base_ok {e : Expr} {m : Str} {env : Env} (h : notBare e = true) : attributeBase e m env (eval e env) = eval e env := by
  cases e with
  | Call f args kws pos =>
    cases f with
    | Name id p =>
      cases args with
      | nil =>
        cases kws with
        | nil => cases h
        | cons a b => rfl
      | cons a b => rfl
    | _ => rfl
  | _ => rfl
end G

set_option Elab.async false
set_option linter.all false
set_option maxRecDepth 100000
set_option maxHeartbeats 4000000
namespace G
open PySem PySem.Spec PyProof.Rows L2 LamX
/-! ## calls of the module's own callables -/
def tFn (S : SpG) (acts : L2.St → Hp → Acts) (W : WX) (t tk : TA) (n m : Nat) : TE := fun σ H Q =>
  t σ H fun vs H1 => tk σ H1 fun zs H2 => vs.length = n ∧ zs.length = m ∧ S (acts σ H2) vs zs H2 Q (WE W σ)
section
variable {k : Nat} {Γ : Gam} {sc : Scope} {W : WX} {X : Cx}
theorem run_s {l : Nat} {f : Addr} {n : Nat} {ks : List Str} {S : SpG} {acts : Acts} {pins : List (Addr × Obj)} {σ : L2.St} {H : Hp} {s : Shared} {Q : VK} {us ws : List Value} {vs zs : List V}
    (g : Good k Γ sc W X) (F : FnS X.prog X.w X.K X.mg X.base l f n ks S) (hl : l ≤ k) (I : Inv X pins σ H s) (r : Vals vs us) (rz : Vals zs ws) (l1 : vs.length = n) (l2 : zs.length = ks.length)
    (ha : ∀ g tl, acts g tl → Act X.prog X.w X.K X.mg X.base s.heap H X.stack g tl) (h : S acts vs zs H Q (WE W σ)) :
    wpAny (model X.prog X.w) X.A (call (.ref f) us (ks.zip ws)) (EP X pins σ Q) X.xe s := by
  have run := F X.A X.stack s H us ws vs zs Q (WE W σ) acts (g.room.mono hl) I.env0 r rz l1 l2 ha h
  refine wpAny_call (codeAny_mono run fun res s' hq => ?_)
  cases res with
  | error e => exact passAt g.takes σ pins H s e s' I hq
  | ok fl =>
    cases fl with
    | ret u => exact I.after hq
    | next => exact False.elim hq
    | brk => exact False.elim hq
    | cont => exact False.elim hq
theorem gl_of (g : Good k Γ sc W X) {x : Str} (h : glb sc x = true) : Gl X x := by
  show X.env.scope.names.lookup x = some .globalImplicit
  rw [g.sc]
  exact glb_ok h
theorem pe_fn (g : Good k Γ sc W X) {x : Str} {p pos : Pos} {es : List Expr} {kws : List Keyword} {S : SpG} {l : Nat} {acts : L2.St → Hp → Acts} {t tk : TA} (hx : oddName x = false) (hg : glb sc x = true)
    (hf : Γ.fn x es.length (kwNames kws) = some (l, S)) (hs : noStar es = true) (hk : kwAll kws = true) (ha : PA X es t) (ht : es = [] → t = tNil) (hkw : PK X kws tk)
    (hact : ∀ (pins : List (Addr × Obj)) (σ : L2.St) (H : Hp) (s : Shared), Inv X pins σ H s → ∀ f tl, acts σ H f tl → Act X.prog X.w X.K X.mg X.base s.heap H X.stack f tl) :
    PE X (.Call (.Name x p) es kws pos) (tFn S acts W t tk es.length (kwNames kws).length) := by
  obtain ⟨hl, f, hm, hkeep, F⟩ := g.fn _ _ _ _ hf
  obtain ⟨o1, o2, o3⟩ := oddName_no hx
  refine ⟨fun pins s σ H Q I h => ?_⟩
  refine wpAny_Call_Name_kw (ld_glob I (gl_of g hg) hm ?_ o1)
  obtain ⟨k1, k2, k3⟩ := kw_all (pos := pos) (env := X.env) hk
  have args := ha.run pos pins s σ H _ I h
  have hpl : ((backTo pos (starEach es X.env)).any (·.1) || (backToKw pos (keywordEach kws X.env)).any (·.1.isNone)) = false := by
    rw [star_any hs, k2]
    rfl
  cases es with
  | nil =>
    have et := ht rfl
    subst et
    refine PySem.W.callWith_KW0 (h₀ := X.base) I.ok.mod.kin hkeep k1 ?_ hpl
    refine thn (hkw.run pos pins s σ H _ I h) fun ws s2 ⟨zs, H2, I2, rz, l1, l2, q2⟩ => ⟨I2.kIn, ?_⟩
    rw [k3]
    exact run_s g F hl I2 .nil rz l1 l2 (hact pins σ H2 s2 I2) q2
  | cons e es =>
    refine PySem.W.callWith_KW (h₀ := X.base) I.ok.mod.kin hkeep k1 (thn args fun us s1 ⟨vs, H1, I1, r, q⟩ => ?_) hpl (star_one hs)
    refine thn (hkw.run pos pins s1 σ H1 _ I1 q) fun ws s2 ⟨zs, H2, I2, rz, l1, l2, q2⟩ => ⟨I2.kIn, ?_⟩
    rw [k3]
    exact run_s g F hl I2 r rz l1 l2 (hact pins σ H2 s2 I2) q2
/-! ### thunks: called by a name that got one -/
def tThunk (i : Nat) (acts : Acts) (W : WX) : TE := fun σ H Q => ∃ f tl, σ[i]? = some (some (.ref f)) ∧ acts f tl ∧ tl (WE W σ) H Q
theorem pe_thunk (g : Good k Γ sc W X) {x : Str} {i : Nat} {p pos : Pos} (hx : oddName x = false) (hv : vis sc x = true) (hi : slot Γ.N x = some i) (hk : lamRoom ≤ k) :
    PE X (.Call (.Name x p) [] [] pos) (tThunk i Γ.act W) := by
  obtain ⟨o1, o2, o3⟩ := oddName_no hx
  have hN : X.N[i]? = some x := by
    rw [g.N]
    exact slot_ok hi
  have hV : Vis X.env.scope x := by
    rw [g.sc]
    exact vis_ok hv
  refine ⟨fun pins s σ H Q I h => ?_⟩
  obtain ⟨f, tl, e1, ac, ht⟩ := h
  obtain ⟨a1, a2, a3⟩ := g.aex ⟨f, tl, ac⟩
  have A1 := g.act f tl ac
  refine wpAny_Call_Name_kw (thn ((pe_var (X := X) (pos := p) (i := i) hN hV o1 o2).run pins s σ H (fun v H1 => v = .ref f ∧ H1 = H) I ⟨.ref f, e1, rfl, rfl⟩) fun u s1 hh => ?_)
  obtain ⟨v, H1, I1, r1, ev, eH⟩ := hh
  subst ev
  rw [eH] at I1
  obtain rfl : u = Value.ref f := r1
  have ub : Un (frs X.outer) [] X.H_0 H X.s_0.heap s1.heap := by
    have b := I1.base
    rw [a1] at b
    exact b
  obtain ⟨fa, run⟩ := A1 X.A X.stack s1 H I1.env0 ub
  refine PySem.W.callWith_F0 fa ?_
  refine wpAny_call (codeAny_mono (run Q (WE W σ) (g.room.mono hk) ht) fun res s' hq => ?_)
  cases res with
  | error e => exact passAt g.takes σ pins H s1 e s' I1 hq
  | ok fl =>
    cases fl with
    | ret u => exact I1.after hq
    | next => exact False.elim hq
    | brk => exact False.elim hq
    | cont => exact False.elim hq

/-! ### thunks: made -/
abbrev noArgs : Arguments := ⟨[], [], none, [], [], none, []⟩
def LamObj (qual : Str) (cells : List (Str × Addr)) (o : Obj) (body : Expr) (scope : Scope) (c' : Addr) : Prop :=
  ∃ pm ctv : Value, o = PySem.W.kla_obj "<lambda>" (qual ++ "<lambda>") noArgs body scope (cloFrom cells scope.names []) pm c' ctv
abbrev frzO (o : Obj) : HO := .frz o (.ext fun _ => True)
def tLamV (qual : Str) (cells : List (Str × Addr)) (T : List (Addr × Str)) (body : Expr) (scope : Scope) : TE := fun _ H Q => Tabs T H ∧
  ∀ (f c' : Addr) (o : Obj) (H1 : Hp), ExtN H H1 → Tabs T H1 → H1 f = none → LamObj qual cells o body scope c' → H1 c' = some (CodeO c' (qual ++ "<lambda>")) → Q (.ref f) (upd H1 f (frzO o))
theorem frz_new {P : Program} {w : World} {H : Hp} {h : Heap} {o : Obj} (nf : o.isFreed = false := by rfl) : ObjOk P w H (h.push o) h.objs.size (frzO o) :=
  ⟨Heap.get?_push_size _ nf, ⟨trivial, ⟨_, Heap.get?_push_size _ nf⟩, fun _ _ _ _ => trivial⟩⟩
theorem pe_lamV (g : Good k Γ sc W X) {body : Expr} {scope : Scope} {pos : Pos} {p : Addr} (hP : Γ.P = some p) (L : lamSB sc scope = true) :
    PE X (.Lambda noArgs body scope pos) (tLamV Γ.qual Γ.cells Γ.T body scope) := by
  obtain ⟨c, TB, hcode, hmT, hu, hcl, hq⟩ := g.lam p hP
  have LS : LamS X.env.scope scope := by
    rw [g.sc]
    exact lamS_by L
  refine ⟨fun pins s σ H Q I h => ?_⟩
  obtain ⟨hT, fin⟩ := h
  rw [← hq] at hmT hu fin
  rw [← hcl] at fin
  obtain ⟨ps, hPs, htr, hall⟩ := hT _ hmT
  have hfree := LS.has I.ok
  refine PySem.W.kla_eval rfl ?_
  have bP := TB.bm.keeps I.bk
  have atP : s.heap.get? p = some { cls := .none, data := .fields ps } := I.hok p _ hPs
  cases hc : codeAmong pos ps.toList with
  | some cv =>
    obtain ⟨c', e, hco⟩ := hall pos cv hc
    subst e
    refine PySem.W.kla_makeFunctionHit (mg := X.mg) (c := c) (P := p) (ps := ps) (closure_ok hfree) I.ok.glob (I.mod.glob.keeps I.bk) hcode (TB.code.keeps I.bk) atP htr hc bP fun ctv h' tk hx hsz => ?_
    have J : Inv X pins σ H { s with heap := h', toks := tk } := I.kept fun b o e => hx b o e
    have nf : H h'.objs.size = none := J.hok.fresh (Nat.le_refl _)
    exact ⟨.ref h'.objs.size, _, J.laid (t' := tk) (fun b o e => Heap.get?_push_of_some _ e) (Nat.le_refl _) frz_new, rfl, fin _ c' _ H (ExtN.refl H) hT nf ⟨_, ctv, rfl⟩ hco⟩
  | none =>
    refine PySem.W.kla_makeFunction (mg := X.mg) (c := c) (P := p) (ps := ps) (closure_ok hfree) I.ok.glob (I.mod.glob.keeps I.bk) hcode (TB.code.keeps I.bk) atP htr hc TB.gP bP fun c' ctv h' tk hx hge hlt hrec htb => ?_
    obtain ⟨c2, oc, vs, t, e2, hoc, hd, hv⟩ := hrec
    cases e2
    have nC : H c' = none := I.hok.fresh hge
    have J := inv_table (t' := tk) (more := #[rawInt pos.line, rawInt pos.col, .ref c']) (h' := h') I hPs hx htb hge ⟨oc, vs, t, hoc, hd, hv⟩
    have hE : ExtN H (upd (upd H p (.tbl (ps ++ #[rawInt pos.line, rawInt pos.col, .ref c']))) c' (CodeO c' (X.env.qual ++ "<lambda>"))) := fun b o e n => by
      have nb : b ≠ p := fun z => by
        rw [z, hPs] at e
        exact n ps (Option.some.inj e).symm
      rw [upd_ne (ne_of_none e nC), upd_ne nb]
      exact e
    have eL : (ps ++ #[rawInt pos.line, rawInt pos.col, .ref c']).toList = ps.toList ++ [rawInt pos.line, rawInt pos.col, .ref c'] := by simp
    have nf := J.hok.fresh (Nat.le_refl h'.objs.size)
    refine ⟨.ref h'.objs.size, _, J.laid (t' := tk) (fun b o e => Heap.get?_push_of_some _ e) (Nat.le_refl _) frz_new, rfl, fin _ c' _ _ hE (fun q hq => ?_) nf ⟨_, ctv, rfl⟩ upd_same⟩
    by_cases hb : q.1 = p
    · rw [hu q hq hb, hb]
      refine ⟨_, by rw [upd_ne (ne_of_none hPs nC), upd_same], by rw [eL]; exact PySem.TriplesOk_snoc _ _ _ _ htr, fun p' cv hcv => ?_⟩
      rw [eL] at hcv
      rcases among_app _ htr hcv with z | z
      · obtain ⟨c0, e1, e2⟩ := hall p' cv z
        exact ⟨c0, e1, hE _ _ e2 codeO_ne⟩
      · exact ⟨c', z, upd_same⟩
    · obtain ⟨ps', a1, a2, a3⟩ := hT q hq
      refine ⟨ps', by rw [upd_ne (ne_of_none a1 nC), upd_ne hb]; exact a1, a2, fun p' cv hcv => ?_⟩
      obtain ⟨c0, e1, e2⟩ := a3 p' cv hcv
      exact ⟨c0, e1, hE _ _ e2 codeO_ne⟩
/-- a thunk of this very frame, as whoever gets it may call it -/
theorem lam_act {pins : List (Addr × Obj)} {σ : L2.St} {H : Hp} {s : Shared} {f c' : Addr} {o : Obj} {body : Expr} {scope : Scope} {tb : XK → TE} (I : Inv X pins σ H s) (L : LamS X.env.scope scope) (hf : H f = some (frzO o))
    (ho : LamObj X.env.qual X.env.cells o body scope c')
    (hbody : ∀ (A : Around) (outer : List Env) (s : Shared) (H : Hp) (E : XK), RoomG lamRoom A → PE (lamCx X A outer s H E scope f c') body (tb E)) :
    Act X.prog X.w X.K X.mg X.base s.heap H X.stack f (fun E H' Q' => H' c' = some (CodeO c' (X.env.qual ++ "<lambda>")) ∧ tb E σ H' Q') := by
  obtain ⟨pm, ctv, rfl⟩ := ho
  intro A outer s' H' e0 un
  have of1 : s'.heap.get? f = some _ := (e0.hok f _ (un.frzs f _ _ hf)).1
  refine ⟨⟨_, _, _, _, of1⟩, fun Q E hr ht => ?_⟩
  obtain ⟨hc, ht⟩ := ht
  obtain ⟨⟨oc, vs, t, hoc, hdc, hvc⟩, _, _⟩ := e0.hok c' _ hc
  have nl : s'.heap.NoLimit := e0.mod.nolimit.keeps fun b o e => (e0.bs b o e).1
  refine PySem.W.kla_callFunE hr.r.depth of1 rfl L.co L.gen rfl ⟨c', oc, vs, t, rfl, hoc, hdc, hvc⟩ ?_
  have hb : bindArgs (PySem.W.kla_fn "<lambda>" (X.env.qual ++ "<lambda>") noArgs body scope (cloFrom X.env.cells scope.names []) pm (.ref c') ctv) ⟨[], []⟩ = pure [] := rfl
  rw [hb]
  refine wpAny_pure (wpAny_newFunctionEnv (fun y hy => (L.own y hy).2) (fun y hy => absurd hy (by simp)) (fun h₁ hns hsb => ⟨nl.fresh _ hsb, ?_⟩) L.kind)
  show codeAny _ _ (.expr body (lamEnv X scope s'.heap.objs.size f c')) _ _
  have kp : ∀ b o, s'.heap.get? b = some o → h₁.get? b = some o := fun b o e =>
    hsb.extBut b o (Nat.ne_of_lt (Heap.lt_size e)) (Heap.get?_push_of_some _ e)
  have J := lam_start2 (E := E) (f := f) (c' := c') (tk := s'.toks + ([] : List (Str × Value)).length) I L e0 hr.r.hd un hns kp
  refine PySem.W.kla_codeExpr (wpAny_mono ((hbody A outer s' H' E hr).run [] _ _ H' Q J ht) (fun v s2 hq => ?_) fun e s2 hq => hq)
  obtain ⟨w', H2, J2, rv, q⟩ := hq
  exact ⟨w', H2, J2.os, J2.bare, J2.base, J2.hok, rv, q⟩
end
end G

set_option Elab.async false
set_option linter.all false
set_option maxRecDepth 100000
set_option maxHeartbeats 4000000
namespace G
open PySem PySem.Spec PyProof.Rows L2 LamX
/-! ## errors -/
/-- an error object, caught and kept -/
def ExT (cls : Value) (d : Option Addr) (a : Addr) : HO := .ext fun h => ∃ (oe : Obj) (vs : Array Value), h.get? a = some oe ∧ Zc cls d oe ∧ oe.data = .fields vs
theorem exT_ok {P : Program} {w : World} {H : Hp} {h : Heap} {a : Addr} {cls : Value} {d : Option Addr} {oe : Obj} {vs : Array Value} (e : h.get? a = some oe) (z : Zc cls d oe) (hd : oe.data = .fields vs) : ObjOk P w H h a (ExT cls d a) :=
  ⟨⟨oe, vs, e, z, hd⟩, ⟨oe, e⟩, fun _ _ ⟨o, v, q, r⟩ kp => ⟨o, v, kp o q, r⟩⟩
def tRaise0 (C : Addr) (W : WX) : TS := fun _ σ H => W (.ref C) none σ H
section
variable {k : Nat} {Γ : Gam} {sc : Scope} {W : WX} {X : Cx}
theorem ps_raise0 (g : Good k Γ sc W X) {x m : Str} {C : Addr} {j : Nat} {p p2 pos pos2 : Pos} (hx : oddName x = false) (hg : glb sc x = true) (he : Γ.exc x = some C) :
    PS X (.Raise (some (.Call (.Name x p) [.Constant (.str m) j p2] [] pos)) none pos2) (tRaise0 C W) := by
  obtain ⟨e1, e2, e3, e4, e5⟩ := g.exc x C he
  exact ps_raise g.calm g.takes (pmk_own PySem.F.excBase_ValueError e2 e1 e3 (raises_own e4 e5) (gl_of g hg) (oddName_no hx).1)
/-- what 'except x as n' wishes: the error is kept at a -/
def wKeep (K : PySem.W.Frag) (c : Value) (i : Nat) (ts : TS) (Wout : WX) (D : Ends) : WX := fun cls d σ H => ∃ b, PySem.W.exmOne K cls c = some b ∧
  (b = true → ∀ a, H a = none → ts ⟨fun σ' H' => D.nx (σ'.set i none) H', D.rt, fun σ' H' => D.bk (σ'.set i none) H', fun σ' H' => D.ct (σ'.set i none) H'⟩ (σ.set i (some (.ref a))) (upd H a (ExT cls d a))) ∧
  (b = false → Wout cls d σ H)
theorem suite_in {pins : List (Addr × Obj)} {σ : L2.St} {H : Hp} {s : Shared} (I : Inv X pins σ H s) (a : Addr) : Inv (X.suite a (X.pn ++ pins)) [] σ H s :=
  ⟨I.ok.suite _ _, I.os, I.bare, I.base, I.loc, I.cell, I.free, I.freeC, fun q hq => I.pin q (by simpa using hq), I.hok, I.len⟩
theorem suite_out {pins pn' : List (Addr × Obj)} {σ : L2.St} {H : Hp} {s : Shared} {a : Addr} (ok : X.Ok) (I : Inv (X.suite a (X.pn ++ pins)) pn' σ H s) : Inv X pins σ H s :=
  ⟨ok, I.os, I.bare, I.base, I.loc, I.cell, I.free, I.freeC, fun q hq => I.pin q (List.mem_append.mpr (.inl hq)), I.hok, I.len⟩
/-- the error that landed is tracked -/
theorem keep_err {pins : List (Addr × Obj)} {σ : L2.St} {H : Hp} {sI s' : Shared} {B : Heap} {a : Addr} {oe : Obj} {vs : Array Value} {cls : Value} {d : Option Addr} (I : Inv X pins σ H sI)
    (nb : ∀ b o, sI.heap.get? b = some o → b ∉ frs X.stack → B.get? b = some o) (st : B.StaysIn s'.heap) (up : sI.heap.UpToSlots s'.heap) (hos : s'.os = sI.os) (ag : AllBare s'.gens) (na : H a = none) (nB : B.get? a = none) (nst : a ∉ frs X.stack)
    (he : s'.heap.get? a = some oe) (hz : Zc cls d oe) (hd : oe.data = .fields vs) : Inv X pins σ (upd H a (ExT cls d a)) s' := by
  have J := I.landed nb st up hos ag
  have nI : ∀ b o, sI.heap.get? b = some o → b ≠ a := fun b o e z => by
    rw [z] at e
    have z2 := nb a o e nst
    rw [nB] at z2
    cases z2
  have sl : ∀ b ∈ frs X.stack, ∀ o, sI.heap.get? b = some o → ∃ q, s'.heap.get? b = some { o with slots := q } := fun b hb o e => by
    obtain ⟨_, o', e', hnf⟩ := I.stack.mem hb
    rw [e] at e'
    cases e'
    exact up b o e hnf
  have un : Un (frs X.stack) [] H (upd H a (ExT cls d a)) sI.heap s'.heap := by
    refine ⟨fun b o e _ hb _ => st b o (nb b o e hb), fun b o e _ hb _ => sl b hb o e, fun b o e n _ => ?_, fun b o e _ => ?_, fun b xs e => ?_, fun b o xs e => ?_, fun b ps e => ⟨#[], ?_⟩⟩
    · rw [upd_ne (nI b o e)]
      exact n
    · by_cases hb : b ∈ frs X.stack
      · obtain ⟨q, z⟩ := sl b hb o e
        exact ⟨_, z⟩
      · exact ⟨o, st b o (nb b o e hb)⟩
    · rw [upd_ne (ne_of_none e na)]
      exact e
    · rw [upd_ne (ne_of_none e na)]
      exact e
    · rw [upd_ne (ne_of_none e na), e]
      simp
  exact I.call' (ch := []) hos un (J.hok.laidN (fun _ _ q => q) na (exT_ok he hz hd)) ag (fun _ z => nomatch z)
theorem ps_tryK {x n : Str} {c : Value} {i : Nat} {body suite : List Stmt} {b₀ : Stmt} {np pos pos' : Pos} {tb : WX → TS} {ts : TS} {Wout : WX} (hs : X.stack = X.env :: X.outer) (hf : X.env.frame = some X.env.locals) (hN : X.N.Nodup)
    (hi : X.N[i]? = some n) (hln : X.env.kindOf n = some .local) (hc : Names X x c) (tk : Takes X Wout)
    (hb : ∀ (W : WX) (pn : List (Addr × Obj)) (xe : Value → Shared → Prop), Takes (X.tr pn xe) W → PassesOwn (model X.prog X.w) X.A X.env xe → PSs (X.tr pn xe) body (tb W))
    (hsu : ∀ (a : Addr) (pn : List (Addr × Obj)), PSs (X.suite a pn) (b₀ :: suite) ts) :
    PS X (.Try body [.ExceptHandler (some (.Name x np)) (some n) (b₀ :: suite) pos'] [] [] pos) (fun D σ H => tb (wKeep X.K c i ts Wout D) D σ H) := by
  refine ⟨fun pins s σ H D I h => ?_⟩
  have ok := I.ok
  have frm : X.A.frames = some (X.env :: X.outer) := by rw [ok.frames, hs]
  have nloc : Loc X.env.scope n := .inl hln
  refine wpAny_Try_except ?_
  have run := (hb (wKeep X.K c i ts Wout D) (X.pn ++ pins) (fun e s₁ => wpAny (model X.prog X.w) X.A (noteFrame e X.env) (fun _ s₂ => wpAny (model X.prog X.w) X.A (setFlight e none) (fun _ s₃ =>
    wpAny (model X.prog X.w) X.A (handleBy e X.env [.ExceptHandler (some (.Name x np)) (some n) (b₀ :: suite) pos']) (SP X pins D) X.xe s₃) X.xe s₂) X.xe s₁) (fun u s' xx => ?_) PassesOwn.looking).run [] s σ H D (I.toTry _) h
  · refine wpAny_mono run (fun f s1 hsp => ?_) (fun e s1 he => he)
    cases f with
    | next =>
      obtain ⟨σ2, H2, J2, q⟩ := hsp
      exact wpAny_execs_nil ⟨σ2, H2, J2.ofTry ok, q⟩
    | brk =>
      obtain ⟨σ2, H2, J2, q⟩ := hsp
      exact ⟨σ2, H2, J2.ofTry ok, q⟩
    | cont =>
      obtain ⟨σ2, H2, J2, q⟩ := hsp
      exact ⟨σ2, H2, J2.ofTry ok, q⟩
    | ret u =>
      obtain ⟨v, σ2, H2, J2, r, q⟩ := hsp
      exact ⟨v, σ2, H2, J2.ofTry ok, r, q⟩
  · obtain ⟨a, B, sI, pins', σ', H', cls, d, rfl, J', nb, up, sky, na, os, ag, b, hb1, hyes, hno⟩ := xx
    have J : Inv X pins σ' H' sI := J'.ofTry ok
    have sky2 : Sky B (X.env :: X.outer) a (Zc cls d) X.env.locals s'.heap := by
      rw [← hs]
      exact sky
    show wpAny (model X.prog X.w) X.A (noteFrame (.ref a) X.env) _ _ _
    refine Sky.land Zc.steady frm hf sky2 fun h3 fl3 up3 => ?_
    have J3 : Inv X pins σ' H' { s' with heap := h3 } := J.landed nb fl3.1 (up.trans up3) os ag
    obtain ⟨oe3, vs3, he3, hz3, hd3⟩ := fl3.there
    have nofr : a ∉ frs (X.env :: X.outer) := fun hm => by
      obtain ⟨_, o', e', hnf⟩ := fl3.2.2.1.mem hm
      rw [he3] at e'
      cases e'
      exact hnf _ hd3
    have nst : a ∉ frs X.stack := by
      rw [hs]
      exact nofr
    have S3 := suite_in J3 a
    refine wpAny_handleBy_cons (codeAny_handlers_test ?_) (by intro q; cases q)
    have LT : PySem.W.Looks (model X.prog X.w) h3 (typeOf (.ref a)) cls := fun A Q E s k q =>
      wpAny_typeOf_ref (k _ _ he3) (by rw [hz3.1]; exact q)
    have LM := PySem.W.exm_one (M := model X.prog X.w) (J3.kIn) LT hb1
    have test : ∀ {Q : Value → Shared → Prop} {E : Value → Shared → Prop}, Q c { s' with heap := h3 } →
        wpAny (model X.prog X.w) (X.A.mark (some (.ref a))) (eval (.Name x np) X.env) Q E { s' with heap := h3 } := fun {Q E} q => by
      obtain ⟨hg, hdbg, hm | ⟨hm, hv, hnn⟩⟩ := hc
      · exact ld_glob (X := X.suite a (X.pn ++ pins)) S3 hg hm q hdbg
      · exact ld_blt (X := X.suite a (X.pn ++ pins)) S3 hg hm hv q hnn hdbg
    refine test (LM.here ?_)
    cases b with
    | true =>
      refine codeAny_handlers_suite_as ?_
      refine HandSPX.lands_againZ fl3 fun h4 fl4 up4 => ?_
      obtain ⟨oe4, vs4, he4, hz4, hd4⟩ := fl4.there
      have J4 : Inv X pins σ' (upd H' a (ExT cls d a)) { s' with heap := h4 } := keep_err (s' := { s' with heap := h4 }) J nb fl4.1 ((up.trans up3).trans up4) os ag na fl4.2.1 nst he4 hz4 hd4
      refine store_ok (X := X.suite a (X.pn ++ pins)) (v := .ref a) (suite_in J4 a) hN hi nloc rfl (fun s5 S5 => ?_) (.inr hln)
      refine wpAny_mono ((hsu a (X.pn ++ pins)).run [] s5 _ _ _ S5 (hyes rfl a na)) (fun f s6 hsp => ?_) (fun _ _ z => False.elim z)
      have fin : ∀ {σ6 : L2.St} {H6 : Hp} {Q : Shared → Prop}, Inv (X.suite a (X.pn ++ pins)) [] σ6 H6 s6 → (∀ s7, Inv X pins (σ6.set i none) H6 s7 → Q s7) →
          wpAny (model X.prog X.w) X.A (do bindName X.env n .none; unbindBehindTheSuite X.env n pos') (fun _ s7 => Q s7) X.xe s6 := fun {σ6 H6 Q} S6 hq => gone_ok (suite_out ok S6) hN hi hln hq
      cases f with
      | next =>
        obtain ⟨σ6, H6, S6, q6⟩ := hsp
        exact fin S6 fun s7 J7 => ⟨_, _, J7, q6⟩
      | brk =>
        obtain ⟨σ6, H6, S6, q6⟩ := hsp
        exact fin S6 fun s7 J7 => ⟨_, _, J7, q6⟩
      | cont =>
        obtain ⟨σ6, H6, S6, q6⟩ := hsp
        exact fin S6 fun s7 J7 => ⟨_, _, J7, q6⟩
      | ret u =>
        obtain ⟨v6, σ6, H6, S6, r6, q6⟩ := hsp
        exact fin S6 fun s7 J7 => ⟨_, _, _, J7, r6, q6⟩
    | false =>
      show wpAny _ X.A (handleBy (.ref a) X.env []) _ _ _
      refine wpAny_handleBy_nil ?_
      obtain ⟨k1, k2, k3, oe, vs, T, oT, ts', he, hz, hd, h1, hr⟩ := id fl3
      unfold PySem.passOn
      refine wpAny_bind (wpAny_field he hd h1 ?_)
      rw [if_neg (show ¬ ((Value.ref T == Value.none) = true) from by simp)]
      have go : wpAny (model X.prog X.w) X.A (setFlight (.ref a) X.env.frame) (fun _ s4 => wpAny (model X.prog X.w) X.A (throw (.ref a) : Sem Flow) (SP X pins D) X.xe s4) X.xe { s' with heap := h3 } := by
        rw [hf]
        refine HandSPX.setFlight_upZ fl3 fun h4 hh4 up4 => wpAny_throw (tk _ _ ?_)
        refine ⟨a, B, sI, pins, σ', H', cls, d, rfl, J, nb, (up.trans up3).trans up4, .inr (.inr ?_), na, os, ag, hno rfl⟩
        rw [hs]
        exact hh4
      first
        | exact wpAny_bind (wpAny_pure (wpAny_bind go))
        | exact wpAny_bind go
end
/-! ## isinstance of an error, with its dict or without -/
section
variable {P : Program} {w : World} {A : Around} {E : Value → Shared → Prop} {st : Shared} {K : PySem.W.Frag} {a C : Addr} {oa : Obj} {od : Option Obj}
theorem find_cls (c : ExcC K C) : PySem.W.findObj K C od "__class__" = some (.bind (.builtin "getset_descriptor.__get__") (.builtin "object.__class__")) := by
  obtain ⟨cd, hc, _⟩ := PySem.W.any_some c.hd
  cases od with
  | none => exact PySem.W.findObj_dataN (by rw [hc]; rfl) c.ha c.hn c.ht
  | some ob =>
    unfold PySem.W.findObj
    rw [hc, Option.bind_some, c.ha, Option.bind_some]
    simp [c.hn, c.ht]
theorem cls_err (c : ExcC K C) (X : K.In st.heap) (J : PySem.W.InstAt st.heap a oa C od) {Q : Option Value → Shared → Prop} (h : Q (some (.ref C)) { st with toks := st.toks + 1 }) : wpAny (model P w) A (getAttr? (.ref a) "__class__") Q E st := by
  have hf := find_cls (od := od) c
  obtain ⟨hh, gg, dd, tt, oo⟩ := st
  have T0 := J.type (M := model P w)
  have T1 := PySem.W.looks_findIn (M := model P w) X c.hg
  have T2 := PySem.W.looks_findIn (M := model P w) X c.hk
  have T3 := PySem.W.looks_find (M := model P w) X J hf
  have isB : PySem.W.Looks (model P w) hh (isInstance (.ref a) (.type "BaseException")) true := T0.andThen (PySem.W.looks_subIn X c.hs)
  have n2 : (Value.builtin "BaseException.__getattribute__" == Value.builtin "object.__getattribute__") = false := by decide +kernel
  have n1 : (onTheHeap (Value.ref C) && Value.builtin "BaseException.__getattribute__" == Value.builtin "object.__getattribute__") = false := by
    rw [n2]
    rfl
  have n0 : (false && onTheHeap (Value.builtin "BaseException.__getattribute__")) = false := rfl
  unfold getAttr? getAttrBy? getAttrBy
  refine wpAny_bind (wpAny_mkText (wpAny_bind (wpAny_attempt (wpAny_holding (wpAny_bind (T0.at (wpAny_bind (T1.at ?_))))))))
  show wpAny _ _ (if (onTheHeap (Value.ref C) && Value.builtin "BaseException.__getattribute__" == Value.builtin "object.__getattribute__") = true then _ else _) _ _ _
  rw [n1, if_neg Bool.false_ne_true]
  unfold getAttrByItsOwn hookBefore
  refine wpAny_bind ?_
  rw [if_pos (show onTheHeap (Value.ref C) = true from rfl)]
  refine T2.at ?_
  refine wpAny_bind (wpAny_attempt (wpAny_holding ?_))
  unfold callGetattribute
  rw [n0, if_neg Bool.false_ne_true]
  unfold boundAndCalled
  rw [PySem.F.excAttr_ValueError.ga.bind (.ref a)]
  refine wpAny_bind (wpAny_pure ?_)
  show wpAny _ _ (call (.builtin "BaseException.__getattribute__") [.ref a, .str "__class__" tt]) _ _ _
  refine wpAny_call (codeAny_call_builtin PySem.F.excAttr_ValueError.ga.plain PySem.F.entry_bexc_ga ?_)
  refine @PySem.W.check_slot (model P w) _ _ ⟨hh, gg, dd, tt + 1, oo⟩ "BaseException.__getattribute__" "BaseException" "__getattribute__" (.ref a) [.str "__class__" tt] [] _ (by decide +kernel) (by decide +kernel) isB (PySem.F.args_bexc_ga (.ref a) (.str "__class__" tt)) ?_
  unfold Builtin.«object.__getattribute__»
  refine wpAny_bind (wpAny_of_eq (a := ((Value.ref a : Value), [Value.str "__class__" tt])) (by first | rfl | (simp only [slotArgs]; rfl)) ?_)
  refine wpAny_bind (wpAny_pure (wpAny_bind (T0.at (wpAny_bind (T3.at ?_)))))
  show wpAny _ _ (holding [Value.builtin "object.__class__"] (call (.builtin "getset_descriptor.__get__") [.builtin "object.__class__", .ref a, .ref C]) >>= ret) _ _ _
  refine wpAny_bind (wpAny_holding (wpAny_call (PySem.W.class_get (s := ⟨hh, gg, dd, tt + 1, oo⟩) (ox := oa) (od := od) X J c.hm ?_)))
  refine wpAny_pure ?_
  show wpAny _ _ (handedOut (.ref C)) _ _ _
  rw [PySem.W.handedOut_of (v := .ref C) rfl]
  first
    | exact wpAny_pure (wpAny_pure h)
    | exact wpAny_pure h
    | exact wpAny_pure (wpAny_bind (wpAny_pure (wpAny_pure h)))
theorem kitx_err (c : ExcC K C) : PySem.W.KitX K (.ref a) (.ref C) (fun h => PySem.W.InstAt h a oa C od) :=
  { PySem.W.handS_kitx_exc (x := a) (ox := oa) c.hg c.hk c.hs c.hd c.ha c.hn c.ht c.hm with
    ty := fun _ _ _ J => J.type
    it := fun M h X _ => by
      obtain ⟨cd, hc, _⟩ := PySem.W.any_some c.hd
      unfold PySem.W.clsIn at hc
      split at hc
      · rename_i t1 t2 t3 t4 lk
        intro A1 Q1 E1 s1 kk qq
        unfold isType loadHead
        refine wpAny_bind (wpAny_loadPart (kk _ _ (X _ _ lk)) ?_)
        exact wpAny_pure qq
      · cases hc
    ca := fun X J k => cls_err c X J k }
end
/-! ## isinstance, repr -/
/-- an error of the module's own, kept -/
def rIsX (K : PySem.W.Frag) : List V → Hp → VK → Prop := fun xs H Q => rIsi K xs H Q ∨ rIsiT K xs H Q ∨
  ∃ (a D : Addr) (d : Option Addr) (c : V) (cv : Value) (b : Bool), xs = [.ref a, c] ∧ H a = some (ExT (.ref D) d a) ∧ (∀ dd, d = some dd → ∃ fs, H dd = some (.xd fs)) ∧ ExcC K D ∧ ClsV c cv ∧ PySem.W.kitOne K (.ref D) cv = some b ∧ Q (.bl b) H
theorem call_isX {X : Cx} : CallR X (.builtin "isinstance") (rIsX X.K) := by
  intro pins s σ H xs us Q I r h
  rcases h with h | h | h
  · exact call_isi pins s σ H xs us Q I r h
  · exact call_isiT pins s σ H xs us Q I r h
  · obtain ⟨a, D, d, c, cv, b, rfl, ha, hd, C, hc, e, q⟩ := h
    obtain ⟨u1, u2, rfl, r1, r2⟩ := vals2 r
    cases r1
    have e2 := hc.eq r2
    subst e2
    obtain ⟨⟨oe, vs, hget, hz, hv⟩, _, _⟩ := I.hok a _ ha
    have J : ∃ od, PySem.W.InstAt s.heap a oe D od := by
      obtain ⟨oc, od, oda, osl⟩ := oe
      obtain ⟨h1, h2⟩ := hz
      dsimp only at h1 h2 hv
      subst h1 h2 hv
      cases od with
      | none => exact ⟨none, hget, rfl, rfl, trivial⟩
      | some dd =>
        obtain ⟨fs, e3⟩ := hd dd rfl
        obtain ⟨mA, hns, _⟩ := (show ObjOk X.prog X.w H s.heap dd (.xd fs) from I.hok dd _ e3)
        obtain ⟨ob, ho, _⟩ := lookIn_ns hns
        exact ⟨some ob, hget, rfl, rfl, ho⟩
    obtain ⟨od, J⟩ := J
    exact PySem.W.kia_one (kitx_err (od := od) C) I.kIn J e (fun z => nomatch z) fun tk => ⟨.bl b, H, I.kept (t' := tk) fun _ _ z => z, rfl, q⟩
def rRepr0 (K : PySem.W.Frag) : List V → Hp → VK → Prop := fun xs H Q => ∃ x d, xs = [x] ∧ Dp K H x d ∧ d.showable = true ∧ d.hasDict = false ∧ d.depth ≤ 30 ∧ d.shown.length ≤ sizeLine ∧ (∃ a, x = .ref a) ∧ Q (.str d.shown) H
theorem call_repr0 {X : Cx} (hg : X.A.guards = some []) (hu : X.A.units + 64 < cLine) : CallR X (.builtin "repr") (rRepr0 X.K) := by
  intro pins s σ H xs us Q I r h
  obtain ⟨x, d, rfl, hd, h1, h2, h3, h4, ⟨a, rfl⟩, q⟩ := h
  obtain ⟨u, rfl, rx⟩ := vals1 r
  cases rx
  obtain ⟨as, rr⟩ := Dp.reads I d _ _ hd rfl
  refine repr_of_reads' rr h1 (PyData.noDict_hsm h2) hg (by omega) (fun _ _ e => e) (fun h' u tk hk => ?_) h4
  exact ⟨.str d.shown, H, I.kept (t' := tk) hk, ⟨u, rfl⟩, q⟩
/-- repr of a value that is no object -/
def rReprS : List V → Hp → VK → Prop := fun xs H Q => ∃ x, xs = [x] ∧ match x with
  | .non => Q (.str "None") H
  | .bl b => Q (.str (if b then "True" else "False")) H
  | .int i => i.natAbs.log2 < 1920 ∧ Q (.str (toString i)) H
  | .str s => (reprText s).length ≤ sizeLine ∧ Q (.str (reprText s)) H
  | _ => False
theorem call_reprS {X : Cx} : CallR X (.builtin "repr") rReprS := by
  intro pins s σ H xs us Q I r h
  obtain ⟨x, rfl, h⟩ := h
  obtain ⟨u, rfl, rx⟩ := vals1 r
  cases x with
  | non =>
    cases rx
    exact PySem.P.repr_of_none ⟨.str _, H, I.tok _, ⟨_, rfl⟩, h⟩
  | bl b =>
    cases rx
    exact PySem.P.repr_of_bool ⟨.str _, H, I.tok _, ⟨_, rfl⟩, h⟩
  | int i =>
    obtain ⟨t, rfl⟩ := rx
    exact PySem.P.repr_of_int h.1 ⟨.str _, H, I.tok _, ⟨_, rfl⟩, h.2⟩
  | str x =>
    obtain ⟨t, rfl⟩ := rx
    exact PySem.P.repr_of_str (hsz := h.1) ⟨.str _, H, I.tok _, ⟨_, rfl⟩, h.2⟩
  | _ => exact h.elim
/-- repr of a small dict -/
def rReprD : List V → Hp → VK → Prop := fun xs H Q => ∃ a, xs = [.ref a] ∧ ((H a = some (.dK []) ∧ Q (.str (PyData.shown (.dict []))) H) ∨ (H a = some (.dK [(.inl 0, .int 0)]) ∧ Q (.str (PyData.shown (.dict [(.int 0, .int 0)]))) H))
theorem call_reprD {X : Cx} (hg : X.A.guards = some []) (hu : X.A.units + 64 < cLine) : CallR X (.builtin "repr") rReprD := by
  intro pins s σ H xs us Q I r h
  obtain ⟨a, rfl, h⟩ := h
  obtain ⟨u, rfl, rx⟩ := vals1 r
  cases rx
  rcases h with ⟨ea, q⟩ | ⟨ea, q⟩
  · obtain ⟨_, hsm, vs, kv, o, es, ep, h1, h2, h3, h4, h5, h6⟩ := dk_of I.hok ea
    cases kv
    have ee : es.toList = [] := List.length_eq_zero_iff.mp h5.length
    have R : Reads s.heap (.ref a) (.dict []) (a :: [] ++ []) := Reads.dict h1 h2.1 h3 (by rw [ee]; exact ReadsAll.nil) (by rw [ee]; exact ReadsAll.nil)
    refine repr_of_reads' R (by rfl) (fun _ z => ?_) hg (Nat.lt_of_le_of_lt (Nat.add_le_add_left (show PyData.depth (.dict []) + 1 ≤ 64 by decide +kernel) _) hu) (fun _ _ e => e) (fun h' u tk hk => ?_) (by rw [sizeLine_eq]; decide +kernel)
    · rw [beq_eq_false_iff_ne] at hsm
      simp only [List.append_nil, List.mem_singleton] at z
      exact hsm z.symm
    · exact ⟨.str _, H, I.kept (t' := tk) hk, ⟨u, rfl⟩, q⟩
  · obtain ⟨_, hsm, vs, kv, o, es, ep, h1, h2, h3, h4, h5, h6⟩ := dk_of I.hok ea
    obtain ⟨k2, v2, rfl, e1, rv⟩ : ∃ k v, vs = [(k, v)] ∧ k = Sum.inl 0 ∧ RelV (.int 0) v := by
      cases kv with
      | cons hh tt =>
        cases tt
        rename_i p
        exact ⟨p.1, p.2, rfl, hh.1.symm, hh.2⟩
    subst e1
    obtain ⟨t1, rfl⟩ := rv
    obtain ⟨e, t2, ee, e3, e4⟩ : ∃ e t2, es.toList = [e] ∧ e.key = .int 0 t2 ∧ e.val = .int 0 t1 := by
      revert h5
      generalize es.toList = l
      intro h5
      cases h5 with
      | cons w1 w2 w3 =>
        rename_i e es2
        cases w3
        have w1' : keyIs (Sum.inl 0) e.key = true := w1
        rcases keyIs_shape w1' with ⟨i, t, z1, z2⟩ | ⟨x, t, z1, z2⟩
        · injection z1 with z1
          subst z1
          exact ⟨_, t, rfl, z2, w2⟩
        · exact nomatch z1
    have R : Reads s.heap (.ref a) (.dict [(.int 0, .int 0)]) (a :: ([] ++ []) ++ ([] ++ [])) := Reads.dict h1 h2.1 h3 (by rw [ee]; exact ReadsAll.cons (by show Reads s.heap e.key (PyData.int 0) []; rw [e3]; exact Reads.int 0 t2) ReadsAll.nil) (by rw [ee]; exact ReadsAll.cons (by show Reads s.heap e.val (PyData.int 0) []; rw [e4]; exact Reads.int 0 t1) ReadsAll.nil)
    refine repr_of_reads' R (by decide +kernel) (fun _ z => ?_) hg (Nat.lt_of_le_of_lt (Nat.add_le_add_left (show PyData.depth (.dict [(.int 0, .int 0)]) + 1 ≤ 64 by decide +kernel) _) hu) (fun _ _ e => e) (fun h' u tk hk => ?_) (by rw [sizeLine_eq]; decide +kernel)
    · rw [beq_eq_false_iff_ne] at hsm
      simp only [List.append_nil, List.mem_singleton] at z
      exact hsm z.symm
    · exact ⟨.str _, H, I.kept (t' := tk) hk, ⟨u, rfl⟩, q⟩
def rRepr (K : PySem.W.Frag) : List V → Hp → VK → Prop := fun xs H Q => rRepr0 K xs H Q ∨ rReprS xs H Q ∨ rReprD xs H Q
theorem call_reprG {X : Cx} (hg : X.A.guards = some []) (hu : X.A.units + 64 < cLine) : CallR X (.builtin "repr") (rRepr X.K) := by
  intro pins s σ H xs us Q I r h
  rcases h with h | h | h
  · exact call_repr0 hg hu pins s σ H xs us Q I r h
  · exact call_reprS pins s σ H xs us Q I r h
  · exact call_reprD hg hu pins s σ H xs us Q I r h
end G

set_option Elab.async false
set_option linter.all false
set_option maxRecDepth 100000
set_option maxHeartbeats 4000000
namespace G
open PySem PySem.Spec PyProof.Rows L2 LamX
/-! ## the built-in names -/
def rLen (K : PySem.W.Frag) : List V → Hp → VK → Prop := fun xs H Q =>
  (∃ x n, xs = [x] ∧ LenV K x H n ∧ Q (.int n) H) ∨ ∃ a kvs, xs = [V.ref a] ∧ H a = some (.dK kvs) ∧ Q (.int kvs.length) H
def rInt1 : List V → Hp → VK → Prop := fun xs H Q => match xs with
  | [.int i] => Q (.int i) H
  | [.bl b] => Q (.int (if b then 1 else 0)) H
  | _ => False
def rStr1 : List V → Hp → VK → Prop := fun xs H Q => match xs with
  | [.int i] => i.natAbs.log2 < 1920 ∧ Q (.str (toString i)) H
  | _ => False
def rAbs1 : List V → Hp → VK → Prop := fun xs H Q => match xs with
  | [.int i] => Q (.int (if i < 0 then -i else i)) H
  | _ => False
def rMin2 (K : PySem.W.Frag) : List V → Hp → VK → Prop := fun xs H Q => match xs with
  | [.int i, .int j] => Q (.int (if j < i then j else i)) H
  | [.ref a] => rMin K [.ref a] H Q
  | _ => False
def rMax2 (K : PySem.W.Frag) : List V → Hp → VK → Prop := fun xs H Q => match xs with
  | [.int i, .int j] => Q (.int (if j > i then j else i)) H
  | [.ref a] => rMax K [.ref a] H Q
  | _ => False
def rListOf (K : PySem.W.Frag) : List V → Hp → VK → Prop := fun xs H Q => ∃ p ys, xs = [.ref p] ∧ (SqL K H p ys ∨ SqT K H p ys) ∧ ∀ l, H l = none → Q (.ref l) (upd H l (.lst ys))
def rTupOf (K : PySem.W.Frag) : List V → Hp → VK → Prop := fun xs H Q => ∃ p ys, xs = [.ref p] ∧ ((SqL K H p ys ∧ ∀ l, H l = none → Q (.ref l) (upd H l (.tup ys))) ∨ (SqT K H p ys ∧ Q (.ref p) H))
inductive Bk where
  | fn (id : String)
  | ty (T : String)
def Bk.val : Bk → Value
  | .fn id => .builtin id
  | .ty T => .type T
def bTab (K : PySem.W.Frag) (x : Str) : Option (Bk × (List V → Hp → VK → Prop)) :=
  if x = "len" then some (.fn "len", rLen K)
  else if x = "int" then some (.ty "int", rInt1)
  else if x = "str" then some (.ty "str", rStr1)
  else if x = "abs" then some (.fn "abs", rAbs1)
  else if x = "min" then some (.fn "min", rMin2 K)
  else if x = "max" then some (.fn "max", rMax2 K)
  else if x = "isinstance" then some (.fn "isinstance", rIsX K)
  else if x = "repr" then some (.fn "repr", rRepr K)
  else if x = "list" then some (.ty "list", rListOf K)
  else if x = "tuple" then some (.ty "tuple", rTupOf K)
  else if x = "sum" then some (.fn "sum", rSum K)
  else if x = "all" then some (.fn "all", rAll K)
  else if x = "any" then some (.fn "any", rAny K)
  else if x = "sorted" then some (.fn "sorted", rSorted K)
  else none
def tyTab (x : Str) : Option String :=
  if x = "int" then some "int" else if x = "bool" then some "bool" else if x = "str" then some "str" else if x = "list" then some "list"
  else if x = "tuple" then some "tuple" else if x = "dict" then some "dict" else if x = "ValueError" then some "ValueError" else none
theorem boot_ValueError1 : bootBuiltins "ValueError" = some (.type "ValueError") := by decide +kernel
theorem if_some {c : Prop} [Decidable c] {α : Type} {a r : α} {b : Option α} (h : (if c then some a else b) = some r) : (c ∧ a = r) ∨ b = some r := by
  by_cases e : c
  · rw [if_pos e] at h
    exact .inl ⟨e, Option.some.inj h⟩
  · rw [if_neg e] at h
    exact .inr h
theorem tyTab_ok {x : Str} {T : String} (h : tyTab x = some T) : bootBuiltins x = some (.type T) := by
  unfold tyTab at h
  repeat (rcases if_some h with ⟨e, q⟩ | h; (subst e; subst q; first | exact PyProof.Rows.boot_int | exact PyProof.Rows.boot_bool | exact PyProof.Rows.boot_str | exact PyProof.Rows.boot_list | exact PyProof.Rows.boot_tuple | exact PyProof.Rows.boot_dict | exact boot_ValueError1))
  cases h
theorem boot_min' : bootBuiltins "min" = some (.builtin "min") := by decide +kernel
theorem boot_max' : bootBuiltins "max" = some (.builtin "max") := by decide +kernel
theorem boot_sum' : bootBuiltins "sum" = some (.builtin "sum") := by decide +kernel
theorem boot_all' : bootBuiltins "all" = some (.builtin "all") := by decide +kernel
theorem boot_any' : bootBuiltins "any" = some (.builtin "any") := by decide +kernel
section
variable {X : Cx}
theorem c_int1 : CallR X (.type "int") rInt1 := by
  intro pins s σ H xs us Q I r h
  match xs, h with
  | [.int i], h => exact call_int1 pins s σ H _ us Q I r (.inl ⟨i, rfl, h⟩)
  | [.bl b], h => exact call_int1 pins s σ H _ us Q I r (.inr ⟨b, rfl, h⟩)
theorem c_str1 : CallR X (.type "str") rStr1 := by
  intro pins s σ H xs us Q I r h
  match xs, h with
  | [.int i], h => exact call_str_int pins s σ H _ us Q I r ⟨i, rfl, h.1, h.2⟩
theorem c_abs1 : CallR X (.builtin "abs") rAbs1 := by
  intro pins s σ H xs us Q I r h
  match xs, h with
  | [.int i], h => exact call_abs pins s σ H _ us Q I r ⟨i, rfl, h⟩
theorem c_min (hc : X.calm = true) : CallR X (.builtin "min") (rMin2 X.K) := by
  intro pins s σ H xs us Q I r h
  match xs, h with
  | [.int i, .int j], h => exact call_min2 hc pins s σ H _ us Q I r ⟨i, j, rfl, h⟩
  | [.ref a], h => exact cr_min hc pins s σ H _ us Q I r h
theorem c_max (hc : X.calm = true) : CallR X (.builtin "max") (rMax2 X.K) := by
  intro pins s σ H xs us Q I r h
  match xs, h with
  | [.int i, .int j], h => exact call_max2 hc pins s σ H _ us Q I r ⟨i, j, rfl, h⟩
  | [.ref a], h => exact cr_max hc pins s σ H _ us Q I r h
theorem bTab_ok {k : Nat} {Γ : Gam} {sc : Scope} {W : WX} (g : Good k Γ sc W X) {x : Str} {b : Bk} {r : List V → Hp → VK → Prop} (h : bTab X.K x = some (b, r)) :
    bootBuiltins x = some b.val ∧ CallR X b.val r := by
  unfold bTab at h
  have hc := g.calm
  rcases if_some h with ⟨e, q⟩ | h
  · subst e; cases q
    exact ⟨PySem.boot_len, call_len.or call_lenD⟩
  rcases if_some h with ⟨e, q⟩ | h
  · subst e; cases q
    exact ⟨PyProof.Rows.boot_int, c_int1⟩
  rcases if_some h with ⟨e, q⟩ | h
  · subst e; cases q
    exact ⟨PyProof.Rows.boot_str, c_str1⟩
  rcases if_some h with ⟨e, q⟩ | h
  · subst e; cases q
    exact ⟨PyProof.Rows.boot_abs, c_abs1⟩
  rcases if_some h with ⟨e, q⟩ | h
  · subst e; cases q
    exact ⟨boot_min', c_min hc⟩
  rcases if_some h with ⟨e, q⟩ | h
  · subst e; cases q
    exact ⟨boot_max', c_max hc⟩
  rcases if_some h with ⟨e, q⟩ | h
  · subst e; cases q
    exact ⟨PyProof.Rows.boot_isinstance, call_isX⟩
  rcases if_some h with ⟨e, q⟩ | h
  · subst e; cases q
    exact ⟨PyProof.Rows.boot_repr, call_reprG g.room.g g.units⟩
  rcases if_some h with ⟨e, q⟩ | h
  · subst e; cases q
    exact ⟨PyProof.Rows.boot_list, call_list_of⟩
  rcases if_some h with ⟨e, q⟩ | h
  · subst e; cases q
    exact ⟨PyProof.Rows.boot_tuple, call_tuple_of⟩
  rcases if_some h with ⟨e, q⟩ | h
  · subst e; cases q
    exact ⟨boot_sum', cr_sum hc⟩
  rcases if_some h with ⟨e, q⟩ | h
  · subst e; cases q
    exact ⟨boot_all', cr_all hc⟩
  rcases if_some h with ⟨e, q⟩ | h
  · subst e; cases q
    exact ⟨boot_any', cr_any hc⟩
  rcases if_some h with ⟨e, q⟩ | h
  · subst e; cases q
    exact ⟨PyProof.Rows.boot_sorted, cr_sorted⟩
  cases h
theorem pe_bi (g : Good k Γ sc W X) {x : Str} {p pos : Pos} {e : Expr} {es : List Expr} {t : TA} {b : Bk} {r : List V → Hp → VK → Prop} (hx : oddName x = false) (hg : glb sc x = true) (hf : Γ.free x = true) (ht : bTab X.K x = some (b, r))
    (hs : noStar (e :: es) = true) (ha : PA X (e :: es) t) : PE X (.Call (.Name x p) (e :: es) [] pos) (tCB r t) := by
  obtain ⟨h1, h2⟩ := bTab_ok g ht
  obtain ⟨o1, o2, o3⟩ := oddName_no hx
  have fm := g.free x hf
  cases b with
  | fn id => exact pe_callB h2 (gl_of g hg) fm h1 ha o3 o1 (star_one hs) (star_any (star_tail hs))
  | ty T => exact pe_callTy h2 (gl_of g hg) fm h1 ha o3 o1 (star_one hs) (star_any (star_tail hs))
end
/-! ## methods of the built-in types -/
def rJoin (K : PySem.W.Frag) : V → List V → Hp → VK → Prop := fun x xs H Q => ∃ a p, ∃ ys : List Str, x = .str a ∧ xs = [.ref p] ∧ (SqL K H p (ys.map V.str) ∨ SqT K H p (ys.map V.str)) ∧
    (ys.map (·.length)).sum + ys.length * a.length ≤ 16777216 ∧ Q (.str (Txt.join a ys)) H
def rStripC : V → List V → Hp → VK → Prop := fun x xs H Q => ∃ a b, x = .str a ∧ xs = [.str b] ∧ a.length ≤ sizeLine ∧ Q (.str (Txt.stripChars a b)) H
def mTab (K : PySem.W.Frag) (m : Str) (args : List Expr) (to : TE) (ta : TA) : TE :=
  match args with
  | [] => if m = "pop" then tBM0 K "list" rPop to else tNo
  | [_] => if m = "append" then tBM K "list" rAppend to ta
    else if m = "pop" then tBM K "list" rPopAt to ta
    else if m = "extend" then tBM K "list" rExtend to ta
    else if m = "join" then tBM K "str" (rJoin K) to ta
    else if m = "strip" then tBM K "str" rStripC to ta
    else tNo
  | _ => tNo
theorem pe_mtab {X : Cx} {o : Expr} {m : Str} {args : List Expr} {to : TE} {ta : TA} {apos cpos : Pos} (ho : PE X o to) (ha : PA X args ta) (hb : notBare o = true) (hs : noStar args = true) (hl : (apos.endLine == cpos.line) = true) :
    PE X (.Call (.Attribute o m apos) args [] cpos) (mTab X.K m args to ta) := by
  match args, ha, hs with
  | [], ha, hs =>
    show PE X _ (if m = "pop" then _ else _)
    split
    · rename_i e; subst e
      exact pe_bm0 PySem.F.plainAttrs_list PySem.F.slot_list_pop PySem.F.type_list_pop mt_pop ho (base_ok hb) hl
    · exact pe_no
  | [e], ha, hs =>
    have few : ((backTo cpos (starEach [e] X.env)).all (fun x => !x.1) && (backToKw cpos (keywordEach [] X.env)).all (fun x => x.1.isSome)
        && decide (([e] : List Expr).length + ([] : List Keyword).length + (if ([] : List Keyword).isEmpty then 0 else 1) < 30)) = true := by
      rw [star_all hs]
      rfl
    show PE X _ (if m = "append" then _ else _)
    split
    · rename_i q; subst q
      exact pe_bm PySem.F.plainAttrs_list PySem.F.slot_list_append PySem.F.type_list_append mt_append ho ha (base_ok hb) few hl (star_one hs) (star_any (star_tail hs))
    split
    · rename_i q; subst q
      exact pe_bm PySem.F.plainAttrs_list PySem.F.slot_list_pop PySem.F.type_list_pop mt_popAt ho ha (base_ok hb) few hl (star_one hs) (star_any (star_tail hs))
    split
    · rename_i q; subst q
      exact pe_bm PySem.F.plainAttrs_list PySem.F.slot_list_extend PySem.F.type_list_extend mt_extend ho ha (base_ok hb) few hl (star_one hs) (star_any (star_tail hs))
    split
    · rename_i q; subst q
      exact pe_bm PySem.F.plainAttrs_str PySem.F.slot_str_join PySem.F.type_str_join mt_join ho ha (base_ok hb) few hl (star_one hs) (star_any (star_tail hs))
    split
    · rename_i q; subst q
      exact pe_bm PySem.F.plainAttrs_str PySem.F.slot_str_strip PySem.F.type_str_strip mt_stripChars ho ha (base_ok hb) few hl (star_one hs) (star_any (star_tail hs))
    · exact pe_no
  | _ :: _ :: _, _, _ => exact pe_no
end G

set_option Elab.async false
set_option linter.all false
set_option maxRecDepth 100000
set_option maxHeartbeats 8000000
namespace G
open PySem PySem.Spec PyProof.Rows L2 LamX
/-! ## raising such an error -/
theorem boot_super' : bootBuiltins "super" = some (.type "super") := by decide +kernel
def tMkA (C : Addr) (fld : Str) (ta : TA) : L2.St → Hp → XK → Prop := fun σ H Q => ta σ H fun vs H1 => ∃ v, vs = [v] ∧ ∀ d, H1 d = none → Q (.ref C) (some d) (upd H1 d (.xd [(fld, v)]))
section
variable {X : Cx} {e : Expr} {ta : TA} {x fld : Str} {C : Addr} {p pos : Pos} {k : Nat}
theorem pmk_ini (F : IniF X.K X.prog C fld) (hr : Room (k + 1) X.A) (hg : Gl X x) (hm : X.mg x = some (.ref C)) (ha : PA X [e] ta) (hdb : (x == ("__debug__" : Str)) = false) (hst : noStar [e] = true) :
    PMk X (.Call (.Name x p) [e] [] pos) (tMkA C fld ta) := by
  intro pins s σ H Q I h
  obtain ⟨nm, q, N, bs, bm, sn, sub, ab, col, dd, k0, k1, k2, k3, k5, hC, hbm⟩ := F.T.cls
  refine wpAny_Call_Name_kw (ld_glob I hg hm ?_ hdb)
  refine PySem.W.callWith_K (h₀ := X.base) I.ok.mod.kin F.T.kC (thn (ha.run pos pins s σ H _ I h) fun us s1 hus => ?_) (star_one hst) (star_any (star_tail hst))
  obtain ⟨vs, H1, I1, r1, v, ev, q1⟩ := hus
  subst ev
  obtain ⟨u, rfl, ru⟩ := vals1 r1
  refine ⟨I1.kIn, ?_⟩
  show wpAny _ _ (call (.ref C) [u]) _ _ _
  obtain ⟨mb, hmb, hbb⟩ := I1.mod.blt
  have bl := hmb.keeps I1.bk
  have gl := I1.mod.glob.keeps I1.bk
  have nl := I1.mod.nolimit.keeps I1.bk
  have KI := I1.kIn
  obtain ⟨hp, g, dr, tk, os⟩ := s1
  have up2 : ∀ b o, hp.get? b = some o → ((hp.push (PySem.W.kdv_tup [u])).push (PySem.HandSPX.excO C hp.objs.size)).get? b = some o := fun b o z => Heap.get?_push_of_some _ (Heap.get?_push_of_some _ z)
  have got : ((hp.push (PySem.W.kdv_tup [u])).push (PySem.HandSPX.excO C hp.objs.size)).get? (hp.objs.size + 1) = some (PySem.HandSPX.excO C hp.objs.size) := by heap_get
  have nK : X.K.lookup (hp.objs.size + 1) = none := by
    cases z : X.K.lookup (hp.objs.size + 1) with
    | none => rfl
    | some o => exact absurd (Heap.lt_size (KI _ _ z)) (by show ¬ (hp.objs.size + 1 < hp.objs.size); omega)
  have sz := Nat.le_succ hp.objs.size
  have fr1 : H1 (hp.objs.size + 1) = none := I1.hok.fresh sz
  have J := I1.laid (t' := tk) (a := hp.objs.size + 1) (o := exo (hp.objs.size + 1) C none) up2 sz (exo_ok got)
  have room := (hr.make C [u] []).depth
  revert got J
  revert up2
  generalize hE : (hp.push (PySem.W.kdv_tup [u])).push (PySem.HandSPX.excO C hp.objs.size) = h1
  intro up2 got J
  have back : ∀ (h2 : Heap) (t2 dx : Nat) (t1 : Addr), (∀ b o, b ≠ hp.objs.size + 1 → h1.get? b = some o → h2.get? b = some o) →
      h2.get? (hp.objs.size + 1) = some { cls := .ref C, dict := some dx, data := .fields #[.ref t1, .none, .none, .none, .bool false, .none] } →
      h2.Ns1 dx (fun y => if y = fld then some u else none) → h1.objs.size ≤ dx → MkP X pins σ Q (.ref (hp.objs.size + 1)) ⟨h2, g, dr, t2, os⟩ := by
    intro h2 t2 dx t1 kp hx hn hsz
    have lt1 : hp.objs.size + 1 < h1.objs.size := Heap.lt_size got
    have nd1 : H1 dx = none := I1.hok.fresh (Nat.le_trans sz (Nat.le_trans (Nat.le_of_lt lt1) hsz))
    have nda : dx ≠ hp.objs.size + 1 := by omega
    have ndb : ∀ {b : Addr} {o : Obj}, h1.get? b = some o → b ≠ dx := fun {b o} z => Nat.ne_of_lt (Nat.lt_of_lt_of_le (Heap.lt_size z) hsz)
    have dn2 : (upd H1 (hp.objs.size + 1) (exo (hp.objs.size + 1) C none)) dx = none := by rw [upd_ne nda]; exact nd1
    have ea : (upd H1 (hp.objs.size + 1) (exo (hp.objs.size + 1) C none)) (hp.objs.size + 1) = some (exo (hp.objs.size + 1) C none) := upd_same
    have nae : ∀ {b : Addr}, (upd H1 (hp.objs.size + 1) (exo (hp.objs.size + 1) C none)) b = none → b ≠ hp.objs.size + 1 := fun {b} n z => by
      rw [z, upd_same] at n
      cases n
    have UN : Un (frs X.stack) [] (upd H1 (hp.objs.size + 1) (exo (hp.objs.size + 1) C none)) (upd (upd (upd H1 (hp.objs.size + 1) (exo (hp.objs.size + 1) C none)) dx (exd dx [(fld, v)])) (hp.objs.size + 1) (exo (hp.objs.size + 1) C (some dx))) h1 h2 := by
      refine ⟨fun b o z n _ _ => kp b o (nae n) z, fun b o z n _ _ => ⟨o.slots, kp b o (nae n) z⟩, fun b o z n _ => ?_, fun b o z _ => ?_, fun b xs z => ?_, fun b o w z => ?_, fun b ps z => ⟨#[], ?_⟩⟩
      · rw [upd_ne (nae n), upd_ne (ndb z)]
        exact n
      · by_cases hb : b = hp.objs.size + 1
        · exact ⟨_, by rw [hb]; exact hx⟩
        · exact ⟨o, kp b o hb z⟩
      · rw [upd_ne (at_ne ea z exo_tup), upd_ne (ne_of_none z dn2)]
        exact z
      · rw [upd_ne (at_ne ea z exo_frz), upd_ne (ne_of_none z dn2)]
        exact z
      · rw [upd_ne (at_ne ea z exo_tbl), upd_ne (ne_of_none z dn2), z]
        simp
    have HK : HOk X.prog X.w (upd (upd (upd H1 (hp.objs.size + 1) (exo (hp.objs.size + 1) C none)) dx (exd dx [(fld, v)])) (hp.objs.size + 1) (exo (hp.objs.size + 1) C (some dx))) h2 := fun b o z => by
      by_cases hb : b = hp.objs.size + 1
      · subst hb
        rw [upd_same] at z
        cases z
        exact exo_ok hx
      · rw [upd_ne hb] at z
        by_cases hd : b = dx
        · subst hd
          rw [upd_same] at z
          cases z
          exact exd_ok hn (relO_put (fs := []) ru fun _ => True.intro)
        · rw [upd_ne hd] at z
          refine (J.hok b o z).stay (fun c w hc y => kp c w ?_ y) (fun c hc => ?_) fun c xs hc => ?_
          · rcases hc with rfl | hc
            · exact hb
            · exact at_ne ea hc exo_own
          · rw [upd_ne (at_ne ea hc exo_own), upd_ne (ne_of_none hc dn2)]
            exact hc
          · rw [upd_ne (at_ne ea hc exo_tup), upd_ne (ne_of_none hc dn2)]
            exact hc
    have fin := mk_end (d2 := dr) (t2 := t2) (Q := Q) (raises_own F.T.exC F.T.tyC) I1 sz up2 UN HK rfl I1.bare (C := C) (d := dx) (fs := [(fld, v)]) upd_same (by rw [upd_ne nda, upd_same]) nd1 ?_
    · exact fin
    · have eq : upd (del (upd (upd (upd H1 (hp.objs.size + 1) (exo (hp.objs.size + 1) C none)) dx (exd dx [(fld, v)])) (hp.objs.size + 1) (exo (hp.objs.size + 1) C (some dx))) (hp.objs.size + 1)) dx (.xd [(fld, v)]) = upd H1 dx (.xd [(fld, v)]) := by
        funext b
        by_cases hd : b = dx
        · rw [hd, upd_same, upd_same]
        · rw [upd_ne hd, upd_ne hd]
          by_cases hb : b = hp.objs.size + 1
          · rw [hb, del_same, fr1]
          · rw [del_ne hb, upd_ne hb, upd_ne hd, upd_ne hb]
      rw [eq]
      exact q1 dx nd1
  obtain ⟨fI, f1, f2, run⟩ := ini_run (P := X.prog) (w := X.w) (A := X.A.under (.builtin "type.__call__" ⟨[.ref C, u], []⟩)) (u := u) (g := g) (d := dr) (t := tk) (os := os) (R := PySem.W.InitBack (hp.objs.size + 1) fun r s' => match r with
      | .ok (.ret w') => MkP X pins σ Q w' s'
      | .ok _ => False
      | .error er => X.xe er s') F (fun b o z => up2 _ _ (KI b o z)) (gl.keeps up2) (bl.keeps up2) ((hbb _ (by decide)).trans boot_super') (nl.keeps up2) nK got room (fun h2 t2 dx t1 kp hx hn hsz => ⟨rfl, back h2 t2 dx t1 kp hx hn hsz⟩)
  refine wpAny_call (PySem.HandSPX.call_own PySem.F.excBase_ValueError (fun Y => PySem.HandSPX.refsVE_contains Y bm hbm) (KI _ _ hC) (PySem.W.looks_findIn KI f1) (fun self => PySem.W.bind_fn KI self f2) (by rw [sizeLine_eq]; exact Nat.le_of_ble_eq_true rfl) ?_)
  rw [hE]
  refine codeAny_mono run fun r s' z => ?_
  cases r with
  | error er => exact z
  | ok fl => cases fl <;> exact z
end
end G

set_option Elab.async false
set_option linter.all false
set_option maxRecDepth 100000
set_option maxHeartbeats 8000000
namespace G
open PySem PySem.Spec PyProof.Rows L2 LamX
/-! ## x.f: of an instance, of an error that was kept -/
def rFld (K : PySem.W.Frag) (f : Str) : V → Hp → VK → Prop := fun x H Q =>
  (∃ a C dx fs v, x = .ref a ∧ H a = some (.ins C dx fs) ∧ Cls K C ∧ NoAttr K C f ∧ fs.lookup f = some v ∧ Q v H) ∨
  ∃ (a C d : Addr) (fs : List (Str × V)) (v : V), x = .ref a ∧ H a = some (ExT (.ref C) (some d) a) ∧ H d = some (.xd fs) ∧ fs.lookup f = some v ∧ XfC K C ∧ PySem.W.findIn K (.ref C) f = some none ∧ Q v H
def tAttr (K : PySem.W.Frag) (f : Str) (te : TE) : TE := fun σ H Q => te σ H fun x H1 => rFld K f x H1 Q
section
variable {k : Nat} {Γ : Gam} {sc : Scope} {W : WX} {X : Cx}
theorem pe_attr {e : Expr} {te : TE} {f : Str} {pos : Pos} (he : PE X e te) (hb : notBare e = true) : PE X (.Attribute e f pos) (tAttr X.K f te) := by
  refine ⟨fun pins s σ H Q I h => ?_⟩
  refine attr_of (base_ok hb) (thn (he.run pins s σ H _ I h) fun u s1 hh => ?_)
  obtain ⟨x, H1, I1, rx, ⟨a, C, dx, fs, v, rfl, ea, c, n, l, q⟩ | ⟨a, C, d, fs, v, rfl, ea, ed, l, T, hno, q⟩⟩ := hh
  · obtain rfl : u = Value.ref a := rx
    exact getattr_ok I1 ea c n l fun u' s2 I2 ru => ⟨v, H1, I2, ru, q⟩
  · obtain rfl : u = Value.ref a := rx
    obtain ⟨⟨oe, vs, hget, hz, hv⟩, _, _⟩ := I1.hok a _ ea
    obtain ⟨mA, hns, hr⟩ := (show ObjOk X.prog X.w H1 s1.heap d (.xd fs) from I1.hok d _ ed)
    obtain ⟨od, ho, hl⟩ := lookIn_ns hns
    obtain ⟨u, hu, ru⟩ := RelO.some_of (v := v) (o := mA f) (by rw [← l]; exact hr f)
    have J : PySem.W.InstAt s1.heap a oe C (some od) := by
      refine ⟨hget, hz.1, ?_, ?_⟩
      · unfold PySem.W.notCls
        rw [hv] <;> rfl
      · rw [hz.2]
        exact ho
    exact HandSPX.exc_get I1.kIn J T.ga T.gg T.exC (PySem.W.findObj_own T.hdC hno rfl (by rw [hl, hu])) (handed_of ru) ⟨v, H1, I1.tok _, ru, q⟩
/-! ## raise X(v) -/
def tRaiseA (C : Addr) (fld : Str) (W : WX) (ta : TA) : TS := fun _ σ H => ta σ H fun vs H1 => ∃ v, vs = [v] ∧ ∀ d, H1 d = none → W (.ref C) (some d) σ (upd H1 d (.xd [(fld, v)]))
theorem ps_raiseA (g : Good k Γ sc W X) {x fld : Str} {C : Addr} {e : Expr} {ta : TA} {p pos pos2 : Pos} (hx : oddName x = false) (hg : glb sc x = true) (hm : X.mg x = some (.ref C)) (F : IniF X.K X.prog C fld) (hk : 1 ≤ k) (ha : PA X [e] ta) (hst : noStar [e] = true) :
    PS X (.Raise (some (.Call (.Name x p) [e] [] pos)) none pos2) (tRaiseA C fld W ta) :=
  ps_raise g.calm g.takes (pmk_ini F (k := 0) (g.room.r.mono hk) (gl_of g hg) hm ha (oddName_no hx).1 hst)
end
end G

set_option Elab.async false
set_option linter.all false
set_option maxRecDepth 100000
set_option maxHeartbeats 4000000
namespace G
open PySem PySem.Spec PyProof.Rows L2 LamX
/-! ## lists of parts -/
def wL (f : Expr → TE) : List Expr → TA
  | [] => tNil
  | e :: es => tCons (f e) (wL f es)
def wKw (f : Expr → TE) : List Keyword → TA
  | [] => tNil
  | q :: qs => tCons (f q.value) (wKw f qs)
def tAndL : List TT → TT
  | [] => fun _ _ _ => False
  | [t] => t
  | t :: r => tAnd t (tAndL r)
def tOrL : List TT → TT
  | [] => fun _ _ _ => False
  | [t] => t
  | t :: r => tOr t (tOrL r)
def tAndVL (K : PySem.W.Frag) : List TE → TE
  | [] => tNo
  | [t] => t
  | t :: r => tAndT K t (tAndVL K r)
def tOrVL (K : PySem.W.Frag) : List TE → TE
  | [] => tNo
  | [t] => t
  | t :: r => tOrT K t (tOrVL K r)
/-- a value's truth as a test -/
def tTru (K : PySem.W.Frag) (t : TE) : TT := fun σ H Q => t σ H fun x H' => ∃ b, TruV K x H' b ∧ Q b H'
def noT : TT := fun _ _ _ => False
def wPairs (f : Expr → TE) : List (Option Expr) → List Expr → List (TE × TE)
  | some a :: ks, v :: vs => (f a, f v) :: wPairs f ks vs
  | _, _ => []
def isComp (e : Expr) : Bool := match e with
  | .ListComp .. => true
  | .SetComp .. => true
  | .DictComp .. => true
  | _ => false
def isSetD (e : Expr) : Bool := match e with
  | .Set .. => true
  | _ => false
def isSlice (e : Expr) : Bool := match e with
  | .Slice .. => true
  | _ => false
def plainTest (e : Expr) : Bool := match e with
  | .Name .. => true
  | .Call .. => true
  | .Subscript .. => true
  | .Attribute .. => true
  | .BinOp .. => true
  | .ListComp .. => true
  | .Constant .. => true
  | _ => false
def ownS (N : List Str) (scope : Scope) : List (Str × Nat) := scope.names.filterMap fun y => match y.2 with
  | .local => (slot N y.1).map fun i => (y.1, i)
  | .cell => (slot N y.1).map fun i => (y.1, i)
  | _ => none
def iSeq (K : PySem.W.Frag) (te : TE) : TI := fun σ H R => iList K te σ H R ∨ iTup K te σ H R ∨ iStr te σ H R
def gSeq (K : PySem.W.Frag) (n : Nat) (t : TGs) : TG := fun v σ H Q => gTup K n t v σ H Q ∨ gLst K n t v σ H Q
def rPut : TSet := fun o i v H Q => rSetL o i v H Q ∨ ∃ a H', o = .ref a ∧ DPut H a i v H' ∧ Q H'
def gNames (N : List Str) (sc : Scope) (all : Bool) : List Expr → Option TGs
  | [] => some gNil
  | .Name x _ :: es => if loc sc x && (all || decide (sc.names.lookup x = some .local)) then (match slot N x, gNames N sc all es with
    | some i, some r => some (gCons (gName i) r)
    | _, _ => none) else none
  | _ => none
def noG : TG := fun _ _ _ _ => False
def wG (K : PySem.W.Frag) (Γ : Gam) (sc : Scope) (all : Bool) (f : Expr → TE) : Expr → TG
  | .Name x _ => if loc sc x && (all || decide (sc.names.lookup x = some .local)) then (match slot Γ.N x with
    | some i => gName i
    | none => noG) else noG
  | .Tuple es _ _ => (match gNames Γ.N sc all es with
    | some t => gSeq K es.length t
    | none => noG)
  | .Subscript o i _ => if isSlice i then noG else gSub (f o) (f i) rPut
  | _ => noG
def noI : TI := fun _ _ _ => False
def wI (K : PySem.W.Frag) (Γ : Gam) (sc : Scope) (f : Expr → TE) (tg : Expr) : Expr → TI
  | .Call (.Name x p) [a] [] q => if x = "range" && glb sc x && Γ.free x && noStar [a] then iRng1 (wL f [a]) else iSeq K (f (.Call (.Name x p) [a] [] q))
  | .Call (.Name x p) [a, b] [] q => if x = "range" && glb sc x && Γ.free x && noStar [a, b] then iRng2 (wL f [a, b]) else iSeq K (f (.Call (.Name x p) [a, b] [] q))
  | e => iSeq K (f e)
/-- the thunks at hand -/
def lamActs (Γ : Gam) (sc : Scope) (wb : Scope → WX → Expr → TE) : L2.St → Hp → Acts := fun σ H f tl => Γ.act f tl ∨ ∃ (o : Obj) (body : Expr) (scope : Scope) (c' : Addr), Γ.P.isSome = true ∧ lamSB sc scope = true ∧ H f = some (frzO o) ∧
  LamObj Γ.qual Γ.cells o body scope c' ∧ tl = fun E H' Q' => H' c' = some (CodeO c' (Γ.qual ++ "<lambda>")) ∧ wb scope (fun cls d _ H'' => E cls d H'') body σ H' Q'
/-- the thunks that a call hands on -/
def actsAt (Γ : Gam) (sc : Scope) (wb : Scope → WX → Expr → TE) : L2.St → Hp → Acts := match Γ.P with
  | some _ => lamActs Γ sc wb
  | none => fun _ _ => Γ.act
def noW : WX := fun _ _ _ _ => False
/-- a built-in name's call; list(range(..)), tuple(range(..)) -/
def wB (Γ : Gam) (sc : Scope) (f : Expr → TE) (x : Str) (e : Expr) (es : List Expr) (r : List V → Hp → VK → Prop) : TE := match e, es with
  | .Call (.Name y p) [a] [] q, [] => if (x = "list" || x = "tuple") && y = "range" && glb sc y && Γ.free y && noStar [a] then (if x = "list" then tLstRg (tRg1 (f a)) else tTupRg (tRg1 (f a))) else tCB r (wL f [.Call (.Name y p) [a] [] q])
  | .Call (.Name y p) [a, b] [] q, [] => if (x = "list" || x = "tuple") && y = "range" && glb sc y && Γ.free y && noStar [a, b] then (if x = "list" then tLstRg (tRg2 (f a) (f b)) else tTupRg (tRg2 (f a) (f b))) else tCB r (wL f [.Call (.Name y p) [a, b] [] q])
  | e, es => tCB r (wL f (e :: es))
mutual
def wE (K : PySem.W.Frag) : Nat → Gam → Scope → WX → Expr → TE
  | 0, _, _, _, _ => tNo
  | n + 1, Γ, sc, W, e => match e with
    | .Constant (.int i) _ _ => tC (.int i)
    | .Constant (.bool b) _ _ => tC (.bl b)
    | .Constant .none _ _ => tC .non
    | .Constant (.str x) _ _ => tC (.str x)
    | .Name x _ => if oddName x then tNo else if vis sc x then (match slot Γ.N x with
        | some i => tVar i
        | none => tNo) else if glb sc x then (match Γ.gv x with
          | some v => tC v
          | none => if Γ.free x then (match tyTab x with
            | some T => tC (.ty T)
            | none => tNo) else tNo) else tNo
    | .BinOp a op b _ => tOp (rBin K op) (wE K n Γ sc W a) (wE K n Γ sc W b)
    | .UnaryOp .USub a _ => tUn (rU fun i => .int (-i)) (wE K n Γ sc W a)
    | .UnaryOp .Not a _ => tNotT K (wE K n Γ sc W a)
    | .BoolOp .And vs _ => tAndVL K (vs.map (wE K n Γ sc W))
    | .BoolOp .Or vs _ => tOrVL K (vs.map (wE K n Γ sc W))
    | .Compare a [op] [b] _ => if behindInMarks op b then tNo else tOp (rCmp K op) (wE K n Γ sc W a) (wE K n Γ sc W b)
    | .Compare a [op, op'] [b, c] _ => if lastMarks [op, op'] [b, c] then tNo else tChain (rCmp K op) (rCmp K op') (wE K n Γ sc W a) (wE K n Γ sc W b) (wE K n Γ sc W c)
    | .IfExp c a b _ => tIf (wT K n Γ sc W c) (wE K n Γ sc W a) (wE K n Γ sc W b)
    | .List es _ => if noStar es then tLst (wL (wE K n Γ sc W) es) else tNo
    | .Tuple es _ _ => if noStar es then tTup (wL (wE K n Γ sc W) es) else tNo
    | .Dict [] [] _ => tDNewK
    | .Dict (a :: ks) vs _ => if (a :: ks).all (·.isSome) && (a :: ks).length == vs.length && decide ((a :: ks).length ≤ 15) then tDisp (wPairs (wE K n Γ sc W) (a :: ks) vs) else tNo
    | .Subscript a (.Slice lo hi none _) _ => tSl (rSlG K) (wE K n Γ sc W a) (match lo with
        | some z => tPart (wE K n Γ sc W z)
        | none => tNoPart) (match hi with
        | some z => tPart (wE K n Γ sc W z)
        | none => tNoPart)
    | .Subscript a b _ => if isSlice b then tNo else tOp (rSub2 K) (wE K n Γ sc W a) (wE K n Γ sc W b)
    | .Lambda a body scope _ => (match a, Γ.P with
      | ⟨[], [], none, [], [], none, []⟩, some _ => if lamSB sc scope then tLamV Γ.qual Γ.cells Γ.T body scope else tNo
      | _, _ => tNo)
    | .Call (.Name x _) es kws _ => if oddName x || !noStar es || !kwAll kws then tNo else if glb sc x then (match Γ.fn x es.length (kwNames kws) with
        | some p => tFn p.2 (actsAt Γ sc fun s' W' b => wE K n Γ.low s' W' b) W (wL (wE K n Γ sc W) es) (wKw (wE K n Γ sc W) kws) es.length (kwNames kws).length
        | none => (match es, kws, bTab K x with
          | e :: es, [], some r => if Γ.free x then wB Γ sc (wE K n Γ sc W) x e es r.2 else tNo
          | _, _, _ => tNo)) else if vis sc x then (match es, kws, slot Γ.N x with
          | [], [], some i => tThunk i Γ.act W
          | _, _, _ => tNo) else tNo
    | .Call (.Attribute o m apos) args [] cpos => if notBare o && noStar args && apos.endLine == cpos.line then mTab K m args (wE K n Γ sc W o) (wL (wE K n Γ sc W) args) else tNo
    | .Attribute o f _ => if notBare o then tAttr K f (wE K n Γ sc W o) else tNo
    | .ListComp elt [⟨tg, iter, ifs, 0⟩] scope _ => if blkC Γ.N sc scope (ownS Γ.N scope) && !isSetD iter then
        tLc (wI K Γ sc (wE K n Γ sc W) tg iter) (wG K Γ.blk (relS scope sc) false (wE K n Γ.blk (relS scope sc) noW) tg) (match ifs with
          | [] => tYes
          | [c] => wT K n Γ.blk (relS scope sc) noW c
          | _ => noT) (wE K n Γ.blk (relS scope sc) noW elt) ((ownS Γ.N scope).map (·.2)) else tNo
    | _ => tNo
def wT (K : PySem.W.Frag) : Nat → Gam → Scope → WX → Expr → TT
  | 0, _, _, _, _ => noT
  | n + 1, Γ, sc, W, e => match e with
    | .BoolOp .And vs _ => tAndL (vs.map (wT K n Γ sc W))
    | .BoolOp .Or vs _ => tOrL (vs.map (wT K n Γ sc W))
    | .UnaryOp .Not a _ => tNot (wT K n Γ sc W a)
    | .Compare a [op] [b] _ => if behindInMarks op b then noT else tTest (tOp (rCmp K op) (wE K n Γ sc W a) (wE K n Γ sc W b))
    | .Compare a [op, op'] [b, c] _ => if lastMarks [op, op'] [b, c] then noT else tTest (tChain (rCmp K op) (rCmp K op') (wE K n Γ sc W a) (wE K n Γ sc W b) (wE K n Γ sc W c))
    | e => if plainTest e then tTru K (wE K n Γ sc W e) else noT
end
/-! ## the lambdas of a text, in order -/
def lamsE : Nat → Expr → List (Expr × Scope)
  | 0, _ => []
  | n + 1, e => match e with
    | .Lambda _ b sc _ => [(b, sc)]
    | .BoolOp _ vs _ => vs.flatMap (lamsE n)
    | .BinOp a _ b _ => lamsE n a ++ lamsE n b
    | .UnaryOp _ a _ => lamsE n a
    | .IfExp c a b _ => lamsE n c ++ lamsE n a ++ lamsE n b
    | .List es _ => es.flatMap (lamsE n)
    | .Tuple es _ _ => es.flatMap (lamsE n)
    | .Compare a _ bs _ => lamsE n a ++ bs.flatMap (lamsE n)
    | .Call f args kws _ => lamsE n f ++ args.flatMap (lamsE n) ++ kws.flatMap fun q => lamsE n q.value
    | .Attribute o _ _ => lamsE n o
    | .Subscript a b _ => lamsE n a ++ lamsE n b
    | _ => []
def lamsS : Nat → Stmt → List (Expr × Scope)
  | 0, _ => []
  | n + 1, s => match s with
    | .Return (some e) _ => lamsE n e
    | .Assign _ e _ => lamsE n e
    | .Expr e _ => lamsE n e
    | .If c a b _ => lamsE n c ++ a.flatMap (lamsS n) ++ b.flatMap (lamsS n)
    | .While c a _ _ => lamsE n c ++ a.flatMap (lamsS n)
    | .For _ it b _ _ => lamsE n it ++ b.flatMap (lamsS n)
    | _ => []
def lamB (b : List Stmt) (i : Nat) : Expr := ((b.flatMap (lamsS 40)).getD i (.Constant .none 0 ⟨0, 0, 0, 0⟩, default)).1
def lamC (b : List Stmt) (i : Nat) : Scope := ((b.flatMap (lamsS 40)).getD i (.Constant .none 0 ⟨0, 0, 0, 0⟩, default)).2
end G

set_option Elab.async false
set_option linter.all false
set_option maxRecDepth 100000
set_option maxHeartbeats 4000000
namespace G
open PySem PySem.Spec PyProof.Rows L2 LamX
section
variable {X : Cx} {k : Nat} {Γ : Gam} {sc : Scope} {W : WX}
theorem pa_wL {f : Expr → TE} (hf : ∀ e, PE X e (f e)) : ∀ {es : List Expr}, noStar es = true → PA X es (wL f es)
  | [], _ => pa_nil
  | e :: es, h => pa_cons (hf e) (pa_wL hf (star_tail h)) (star_one h)
theorem pk_wK {f : Expr → TE} (hf : ∀ e, PE X e (f e)) : ∀ {kws : List Keyword}, PK X kws (wKw f kws)
  | [] => pk_nil
  | ⟨nm, v, p⟩ :: kws => pk_cons (hf v) (pk_wK hf)
theorem pe_or2 {e : Expr} {t u : TE} (h1 : PE X e t) (h2 : PE X e u) : PE X e (fun σ H Q => t σ H Q ∨ u σ H Q) :=
  ⟨fun pins s σ H Q I h => h.elim (fun h => h1.run pins s σ H Q I h) fun h => h2.run pins s σ H Q I h⟩
theorem pi_or {tg e : Expr} {t u : TI} (h1 : PI X tg e t) (h2 : PI X tg e u) : PI X tg e (fun σ H R => t σ H R ∨ u σ H R) :=
  ⟨fun pins s σ H R I h => h.elim (fun h => h1.run pins s σ H R I h) fun h => h2.run pins s σ H R I h⟩
theorem pg_or {tg : Expr} {t u : TG} (h1 : PG X tg t) (h2 : PG X tg u) : PG X tg (fun v σ H Q => t v σ H Q ∨ u v σ H Q) :=
  ⟨fun pins s σ H v u Q I r h => h.elim (fun h => h1.run pins s σ H v u Q I r h) fun h => h2.run pins s σ H v u Q I r h⟩
theorem pi_seq {tg e : Expr} {te : TE} (h : PE X e te) : PI X tg e (iSeq X.K te) := pi_or (pi_list h) (pi_or (pi_tup h) (pi_str h))
theorem pw_and_l {f : Expr → TT} (hf : ∀ e, PT X e (f e)) {pos : Pos} : ∀ {vs : List Expr}, PW X (.BoolOp .And vs pos) (tAndL (vs.map f))
  | [] => ⟨fun _ _ _ _ _ _ _ h => h.elim⟩
  | [a] => pw_and1 (hf a)
  | a :: b :: r => pw_and (hf a) (pw_and_l hf (vs := b :: r))
theorem pw_or_l {f : Expr → TT} (hf : ∀ e, PT X e (f e)) {pos : Pos} : ∀ {vs : List Expr}, PW X (.BoolOp .Or vs pos) (tOrL (vs.map f))
  | [] => ⟨fun _ _ _ _ _ _ _ h => h.elim⟩
  | [a] => pw_or1 (hf a)
  | a :: b :: r => pw_or (hf a) (pw_or_l hf (vs := b :: r))
theorem pe_and_l {f : Expr → TE} (hf : ∀ e, PE X e (f e)) {pos : Pos} : ∀ {vs : List Expr}, PE X (.BoolOp .And vs pos) (tAndVL X.K (vs.map f))
  | [] => pe_no
  | [a] => pe_one (hf a)
  | a :: b :: r => pe_andT (hf a) (pe_and_l hf (vs := b :: r))
theorem pe_or_l {f : Expr → TE} (hf : ∀ e, PE X e (f e)) {pos : Pos} : ∀ {vs : List Expr}, PE X (.BoolOp .Or vs pos) (tOrVL X.K (vs.map f))
  | [] => pe_no
  | [a] => pe_one (hf a)
  | a :: b :: r => pe_orT (hf a) (pe_or_l hf (vs := b :: r))
theorem pps_w {f : Expr → TE} (hf : ∀ e, PE X e (f e)) {pos : Pos} : ∀ {ks : List (Option Expr)} {vs : List Expr}, ks.all (·.isSome) = true → ks.length = vs.length → PPs X pos ks vs (wPairs f ks vs)
  | [], [], _, _ => pps_nil
  | some a :: ks, v :: vs, h, l => pps_cons (hf a) (hf v) (pps_w hf (by rw [List.all_cons] at h; exact (Bool.and_eq_true_iff.mp h).2) (by simpa using l))
  | none :: ks, v :: vs, h, _ => by
    rw [List.all_cons] at h
    cases (Bool.and_eq_true_iff.mp h).1
theorem pe_name (g : Good k Γ sc W X) {n : Nat} {x : Str} {pos : Pos} : PE X (.Name x pos) (wE X.K (n + 1) Γ sc W (.Name x pos)) := by
  show PE X _ (if oddName x = true then _ else _)
  by_cases h0 : oddName x = true
  · rw [if_pos h0]
    exact pe_no
  · rw [if_neg h0]
    obtain ⟨o1, o2, o3⟩ := oddName_no (Bool.eq_false_iff.mpr h0)
    by_cases h1 : vis sc x = true
    · rw [if_pos h1]
      cases h2 : slot Γ.N x with
      | none => exact pe_no
      | some i => exact pe_var (by rw [g.N]; exact slot_ok h2) (by rw [g.sc]; exact vis_ok h1) o1 o2
    · rw [if_neg h1]
      by_cases h3 : glb sc x = true
      · rw [if_pos h3]
        cases h4 : Γ.gv x with
        | some v =>
          obtain ⟨u, e1, e2⟩ := g.gv x v h4
          exact pe_glob (gl_of g h3) e1 e2 o1
        | none =>
          show PE X _ (if Γ.free x = true then _ else _)
          by_cases h5 : Γ.free x = true
          · rw [if_pos h5]
            cases h6 : tyTab x with
            | none => exact pe_no
            | some T => exact pe_bltn (gl_of g h3) (g.free x h5) (tyTab_ok h6) rfl o3 o1
          · rw [if_neg h5]
            exact pe_no
      · rw [if_neg h3]
        exact pe_no
theorem slice_no {e : Expr} (h : isSlice e = false) : PlainIx e := by
  unfold isSlice at h
  cases e <;> first
    | (intro _ _; rfl)
    | cases h
theorem set_no {e : Expr} (h : isSetD e = false) (env : Env) : ∀ x, foldedSetIterable e env x = pure x := by
  unfold isSetD at h
  cases e <;> first
    | (intro _; rfl)
    | cases h
theorem tests_no {e : Expr} (h : plainTest e = true) (env : Env) : ∀ whole, isTrue e env whole = (do let v ← whole; standAt e.pos; holding [v] (truthy v)) := by
  unfold plainTest at h
  cases e <;> first
    | (intro _; rfl)
    | cases h
theorem pgs_names (hN : X.N = Γ.N) (hsc : X.env.scope = sc) (nd : Γ.N.Nodup) {all : Bool} (hfn : all = true → ∀ x, X.fn x = true) : ∀ {es : List Expr} {t : TGs}, gNames Γ.N sc all es = some t →
    PGs X es t ∧ (assignEach es X.env).length = es.length ∧ (assignEach es X.env).findIdx? (·.1) = none
  | [], t, h => by
    cases h
    exact ⟨pgs_nil, rfl, rfl⟩
  | e :: es, t, h => by
    cases e with
    | Name x p =>
      have h' : (if (loc sc x && (all || decide (sc.names.lookup x = some .local))) = true then (match slot Γ.N x, gNames Γ.N sc all es with
        | some i, some r => some (gCons (gName i) r)
        | _, _ => none) else none) = some t := h
      by_cases c : (loc sc x && (all || decide (sc.names.lookup x = some .local))) = true
      · rw [if_pos c] at h'
        obtain ⟨c1, c2⟩ := Bool.and_eq_true_iff.mp c
        cases h1 : slot Γ.N x with
        | none => rw [h1] at h'; cases h'
        | some i =>
          cases h2 : gNames Γ.N sc all es with
          | none => rw [h1, h2] at h'; cases h'
          | some r =>
            rw [h1, h2] at h'
            cases h'
            obtain ⟨a1, a2, a3⟩ := pgs_names hN hsc nd hfn h2
            have hx : PG X (.Name x p) (gName i) := pg_name (by rw [hN]; exact nd) (by rw [hN]; exact slot_ok h1) (by rw [hsc]; exact loc_ok c1) (by
              rcases Bool.or_eq_true_iff.mp c2 with z | z
              · exact .inl (hfn z x)
              · refine .inr ?_
                rw [hsc]
                exact of_decide_eq_true z)
            refine ⟨pgs_cons hx a1 rfl, ?_, ?_⟩
            · show (assignEach es X.env).length + 1 = es.length + 1
              rw [a2]
            · show List.findIdx? (·.1) ((false, assign (.Name x p) X.env) :: assignEach es X.env) = none
              rw [List.findIdx?_cons, a3]
              rfl
      · rw [if_neg c] at h'
        cases h'
    | _ => cases h
theorem put_ok (hu : X.A.units + 1 < cLine) : PSet X rPut := by
  intro pins s σ H o i v ov iv u Q I ro ri rv h
  rcases h with h | ⟨a, H', rfl, g, q⟩
  · exact set_list pins s σ H o i v ov iv u Q I ro ri rv h
  · obtain rfl : ov = Value.ref a := ro
    exact d_setItem hu I g ri rv fun s4 I4 => ⟨H', I4, q⟩
theorem pg_w (hc : X.calm = true) (hu : X.A.units + 1 < cLine) (hN : X.N = Γ.N) (hsc : X.env.scope = sc) (nd : Γ.N.Nodup) {all : Bool} (hfn : all = true → ∀ x, X.fn x = true) {f : Expr → TE} (hf : ∀ e, PE X e (f e)) : ∀ tg, PG X tg (wG X.K Γ sc all f tg) := by
  intro tg
  have no : ∀ {t : Expr}, PG X t noG := ⟨fun _ _ _ _ _ _ _ _ _ h => h.elim⟩
  cases tg with
  | Name x p =>
    show PG X _ (if _ then _ else _)
    by_cases c : (loc sc x && (all || decide (sc.names.lookup x = some .local))) = true
    · rw [if_pos c]
      obtain ⟨c1, c2⟩ := Bool.and_eq_true_iff.mp c
      cases h1 : slot Γ.N x with
      | none => exact no
      | some i =>
        exact pg_name (by rw [hN]; exact nd) (by rw [hN]; exact slot_ok h1) (by rw [hsc]; exact loc_ok c1) (by
          rcases Bool.or_eq_true_iff.mp c2 with z | z
          · exact .inl (hfn z x)
          · refine .inr ?_
            rw [hsc]
            exact of_decide_eq_true z)
    · rw [if_neg c]
      exact no
  | Tuple es kk p =>
    show PG X _ (match gNames Γ.N sc all es with
      | some t => gSeq X.K es.length t
      | none => noG)
    cases h : gNames Γ.N sc all es with
    | none => exact no
    | some t =>
      obtain ⟨a1, a2, a3⟩ := pgs_names hN hsc nd hfn h
      exact pg_or (pg_tup hc a1 a2 a3) (pg_lst hc a1 a2 a3)
  | Subscript o i p =>
    show PG X _ (if isSlice i = true then _ else _)
    by_cases c : isSlice i = true
    · rw [if_pos c]
      exact no
    · rw [if_neg c]
      refine pg_sub (hf o) (hf i) (put_ok hu) ?_
      intro v
      cases i <;> first
        | rfl
        | exact absurd rfl c
  | _ => exact no
theorem pi_w (g : Good k Γ sc W X) {f : Expr → TE} (hf : ∀ e, PE X e (f e)) (tg : Expr) : ∀ e, PI X tg e (wI X.K Γ sc f tg e) := by
  intro e
  have gen : ∀ e, PI X tg e (iSeq X.K (f e)) := fun e => pi_seq (hf e)
  cases e with
  | Call fn es kws q =>
    cases fn with
    | Name x p =>
      match es, kws with
      | [a], [] =>
        show PI X tg _ (if _ then _ else _)
        by_cases c : (decide (x = "range") && glb sc x && Γ.free x && noStar [a]) = true
        · rw [if_pos c]
          simp only [Bool.and_eq_true, decide_eq_true_eq] at c
          obtain ⟨⟨⟨c1, c2⟩, c3⟩, c4⟩ := c
          subst c1
          exact pi_range1 (gl_of g c2) (g.free _ c3) (pa_wL hf c4) (star_one c4)
        · rw [if_neg c]
          exact gen _
      | [a, b], [] =>
        show PI X tg _ (if _ then _ else _)
        by_cases c : (decide (x = "range") && glb sc x && Γ.free x && noStar [a, b]) = true
        · rw [if_pos c]
          simp only [Bool.and_eq_true, decide_eq_true_eq] at c
          obtain ⟨⟨⟨c1, c2⟩, c3⟩, c4⟩ := c
          subst c1
          have s2 : starEach [b] X.env = [(false, eval b X.env)] := star_one (star_tail c4)
          refine pi_range2 (gl_of g c2) (g.free _ c3) (pa_wL hf c4) ?_ s2
          rw [star_one c4, s2]
        · rw [if_neg c]
          exact gen _
      | [], _ => exact gen _
      | _ :: _ :: _ :: _, _ => exact gen _
      | [_], _ :: _ => exact gen _
      | [_, _], _ :: _ => exact gen _
    | _ => exact gen _
  | _ => exact gen _
end
end G

set_option Elab.async false
set_option linter.all false
set_option maxRecDepth 100000
set_option maxHeartbeats 4000000
namespace G
open PySem PySem.Spec PyProof.Rows L2 LamX
section
variable {X : Cx} {k : Nat} {Γ : Gam} {sc : Scope} {W : WX}
theorem takesNo {X : Cx} : Takes X noW := fun _ _ ⟨_, _, _, _, _, _, _, _, _, _, _, _, _, _, _, _, z⟩ => z.elim
theorem good_blk (g : Good k Γ sc W X) (s : Shared) (H : Hp) (scope : Scope) (C : Addr) (cl : List (Str × Addr)) (fp : List Addr) : Good k Γ.blk (relS scope sc) noW (X.blk s H scope (compEnvC scope cl C X.env) fp) where
  calm := g.calm
  sc := by
    rw [← g.sc]
    rfl
  N := g.N
  nd := g.nd
  room := g.room
  fn := g.fn
  gv := g.gv
  free := g.free
  exc := g.exc
  exA := g.exA
  act := fun _ _ h => h.elim
  aex := fun ⟨_, _, h⟩ => h.elim
  aek := fun ⟨_, _, h⟩ => h.elim
  pass := PassesOwn.never
  takes := takesNo
  lam := fun p h => by cases h
theorem good_lam (g : Good k Γ sc W X) (A : Around) (outer : List Env) (s : Shared) (H : Hp) (E : XK) (scope : Scope) (f c' : Addr) (hr : RoomG lamRoom A) :
    Good 41 Γ.low scope (fun cls d _ H'' => E cls d H'') (lamCx X A outer s H E scope f c') where
  calm := rfl
  sc := rfl
  N := g.N
  nd := g.nd
  room := RoomG.deeper (k := 41) hr _
  fn := fun x n ks p h => by
    have h' : (match Γ.fn x n ks with
      | some p => if p.1 ≤ 40 then some p else none
      | none => none) = some p := h
    cases e : Γ.fn x n ks with
    | none =>
      rw [e] at h'
      cases h'
    | some q =>
      rw [e] at h'
      by_cases c : q.1 ≤ 40
      · have h2 : (if q.1 ≤ 40 then some q else none) = some p := h'
        rw [if_pos c] at h2
        cases h2
        exact ⟨Nat.le_succ_of_le c, (g.fn _ _ _ _ e).2⟩
      · have h2 : (if q.1 ≤ 40 then some q else none) = some p := h'
        rw [if_neg c] at h2
        cases h2
  gv := g.gv
  free := g.free
  exc := g.exc
  exA := fun x p h => ⟨by decide, (g.exA x p h).2⟩
  act := fun _ _ h => h.elim
  aex := fun ⟨_, _, h⟩ => h.elim
  aek := fun ⟨_, _, h⟩ => h.elim
  pass := passes_of rfl
  takes := takes_of rfl rfl rfl rfl
  lam := fun p h => by cases h
theorem acts_ok (g : Good k Γ sc W X) {wb : Scope → WX → Expr → TE}
    (hb : ∀ (A : Around) (outer : List Env) (s : Shared) (H : Hp) (E : XK) (scope : Scope) (f c' : Addr) (body : Expr), RoomG lamRoom A → PE (lamCx X A outer s H E scope f c') body (wb scope (fun cls d _ H'' => E cls d H'') body))
    {pins : List (Addr × Obj)} {σ : L2.St} {H : Hp} {s : Shared} (I : Inv X pins σ H s) : ∀ f tl, lamActs Γ sc wb σ H f tl → Act X.prog X.w X.K X.mg X.base s.heap H X.stack f tl := by
  intro f tl h
  rcases h with h | ⟨o, body, scope, c', hP, hS, hf, ho, rfl⟩
  · obtain ⟨a1, a2, a3⟩ := g.aex ⟨f, tl, h⟩
    have ub : Un (frs X.outer) [] X.H_0 H X.s_0.heap s.heap := by
      have b := I.base
      rw [a1] at b
      exact b
    refine (g.act f tl h).later ub (fun b hb => ?_) fun b hb hn => ?_
    · rw [a2]
      unfold frs
      rw [List.filterMap_cons, a3]
      exact List.mem_cons_of_mem _ hb
    · have e : b = X.env.locals := by
        rw [a2] at hb
        unfold frs at hb
        rw [List.filterMap_cons, a3] at hb
        rcases List.mem_cons.mp hb with z | z
        · exact z
        · exact absurd z hn
      rw [e]
      exact Heap.get?_none_of_le I.ok.above
  · obtain ⟨p, hp⟩ := Option.isSome_iff_exists.mp hP
    obtain ⟨c, _, _, _, _, e1, e2⟩ := g.lam p hp
    have LS : LamS X.env.scope scope := by
      rw [g.sc]
      exact lamS_by hS
    rw [← e1, ← e2] at ho
    have z := lam_act (tb := fun E => wb scope (fun cls d _ H'' => E cls d H'') body) I LS hf ho fun A outer s H E hr => hb A outer s H E scope f c' body hr
    rw [e2] at z
    exact z
theorem acts_at (g : Good k Γ sc W X) {wb : Scope → WX → Expr → TE}
    (hb : ∀ (A : Around) (outer : List Env) (s : Shared) (H : Hp) (E : XK) (scope : Scope) (f c' : Addr) (body : Expr), RoomG lamRoom A → PE (lamCx X A outer s H E scope f c') body (wb scope (fun cls d _ H'' => E cls d H'') body))
    {pins : List (Addr × Obj)} {σ : L2.St} {H : Hp} {s : Shared} (I : Inv X pins σ H s) : ∀ f tl, actsAt Γ sc wb σ H f tl → Act X.prog X.w X.K X.mg X.base s.heap H X.stack f tl := by
  intro f tl h
  refine acts_ok g hb I f tl ?_
  unfold actsAt at h
  cases hP : Γ.P with
  | some p => rw [hP] at h; exact h
  | none => rw [hP] at h; exact .inl h
theorem pe_wB (g : Good k Γ sc W X) {f : Expr → TE} (hE : ∀ e, PE X e (f e)) {x : Str} {e : Expr} {es : List Expr} {p pos : Pos} {r : Bk × (List V → Hp → VK → Prop)} (h0 : oddName x = false) (c : glb sc x = true) (hfr : Γ.free x = true) (hb : bTab X.K x = some r) (h1 : noStar (e :: es) = true) :
    PE X (.Call (.Name x p) (e :: es) [] pos) (wB Γ sc f x e es r.2) := by
  obtain ⟨b, r⟩ := r
  unfold wB
  split
  · rename_i y p1 a p2
    split
    · rename_i hc
      simp only [Bool.and_eq_true, Bool.or_eq_true, decide_eq_true_eq] at hc
      obtain ⟨⟨⟨⟨hx, rfl⟩, hg⟩, hy⟩, ha⟩ := hc
      split
      · rename_i hx2
        subst hx2
        exact pe_listRg g.calm (gl_of g c) (g.free _ hfr) (prg_1 (gl_of g hg) (g.free _ hy) (hE a) (star_one ha)) (star_one h1)
      · rename_i hx2
        obtain rfl := hx.resolve_left hx2
        exact pe_tupRg g.calm (gl_of g c) (g.free _ hfr) (prg_1 (gl_of g hg) (g.free _ hy) (hE a) (star_one ha)) (star_one h1)
    · exact pe_bi g h0 c hfr hb h1 (pa_wL hE h1)
  · rename_i y p1 a a2 p2
    split
    · rename_i hc
      simp only [Bool.and_eq_true, Bool.or_eq_true, decide_eq_true_eq] at hc
      obtain ⟨⟨⟨⟨hx, rfl⟩, hg⟩, hy⟩, ha⟩ := hc
      split
      · rename_i hx2
        subst hx2
        exact pe_listRg g.calm (gl_of g c) (g.free _ hfr) (prg_2 (gl_of g hg) (g.free _ hy) (hE a) (hE a2) (star_one ha) (star_one (star_tail ha)) (star_any (star_tail ha))) (star_one h1)
      · rename_i hx2
        obtain rfl := hx.resolve_left hx2
        exact pe_tupRg g.calm (gl_of g c) (g.free _ hfr) (prg_2 (gl_of g hg) (g.free _ hy) (hE a) (hE a2) (star_one ha) (star_one (star_tail ha)) (star_any (star_tail ha))) (star_one h1)
    · exact pe_bi g h0 c hfr hb h1 (pa_wL hE h1)
  · exact pe_bi g h0 c hfr hb h1 (pa_wL hE h1)
end
end G

set_option Elab.async false
set_option linter.all false
set_option maxRecDepth 100000
set_option maxHeartbeats 8000000
namespace G
open PySem PySem.Spec PyProof.Rows L2 LamX
section
variable {X : Cx}
theorem pe_if_t {e : Expr} {c : Prop} [Decidable c] {t : TE} (h : c → PE X e t) : PE X e (if c then t else tNo) := by
  by_cases q : c
  · rw [if_pos q]
    exact h q
  · rw [if_neg q]
    exact pe_no
theorem pe_if_f {e : Expr} {c : Prop} [Decidable c] {t : TE} (h : ¬ c → PE X e t) : PE X e (if c then tNo else t) := by
  by_cases q : c
  · rw [if_pos q]
    exact pe_no
  · rw [if_neg q]
    exact h q
theorem pt_if_f {e : Expr} {c : Prop} [Decidable c] {t : TT} (h : ¬ c → PT X e t) : PT X e (if c then noT else t) := by
  by_cases q : c
  · rw [if_pos q]
    exact ⟨fun _ _ _ _ _ _ z => z.elim⟩
  · rw [if_neg q]
    exact h q
theorem pt_no {e : Expr} : PT X e noT := ⟨fun _ _ _ _ _ _ z => z.elim⟩
theorem snd (n : Nat) : ∀ {X : Cx} {k : Nat} {Γ : Gam} {sc : Scope} {W : WX}, Good k Γ sc W X → (∀ e, PE X e (wE X.K n Γ sc W e)) ∧ (∀ e, PT X e (wT X.K n Γ sc W e)) := by
  induction n with
  | zero => exact fun _ => ⟨fun _ => pe_no, fun _ => pt_no⟩
  | succ n ih =>
    intro X k Γ sc W g
    obtain ⟨hE, hT⟩ := ih g
    have hu := g.units
    have hu1 : X.A.units + 1 < cLine := by omega
    have main : ∀ e, PE X e (wE X.K (n + 1) Γ sc W e) := by
      intro e
      cases e with
      | Constant c j p =>
        cases c with
        | int i => exact pe_int
        | bool b => exact pe_bl
        | none => exact pe_non
        | str x => exact pe_str
        | _ => exact pe_no
      | Name x p => exact pe_name g
      | BinOp a op b p => exact pe_op (ok_bin op) (hE a) (hE b)
      | UnaryOp op a p =>
        cases op with
        | USub => exact pe_un (r := rU fun i => .int (-i)) un_neg (hE a)
        | Not => exact pe_notT (hE a)
        | _ => exact pe_no
      | BoolOp op vs p =>
        cases op with
        | And => exact pe_and_l hE
        | Or => exact pe_or_l hE
      | Compare a ops bs p =>
        match ops, bs with
        | [op], [b] => exact pe_if_f fun h => pe_cmpR (ok_cmp hu op) (hE a) (hE b) (Bool.eq_false_iff.mpr h)
        | [op, op'], [b, c] => exact pe_if_f fun h => pe_chain (ok_cmp hu op) (ok_cmp hu op') (hE a) (hE b) (hE c) (Bool.eq_false_iff.mpr h)
        | [], _ => exact pe_no
        | [_], [] => exact pe_no
        | [_], _ :: _ :: _ => exact pe_no
        | [_, _], [] => exact pe_no
        | [_, _], [_] => exact pe_no
        | [_, _], _ :: _ :: _ :: _ => exact pe_no
        | _ :: _ :: _ :: _, _ => exact pe_no
      | IfExp c a b p => exact pe_ifExp (hT c) (hE a) (hE b)
      | List es p => exact pe_if_t fun h => pe_lst (pa_wL hE h)
      | Tuple es kk p => exact pe_if_t fun h => pe_tup (pa_wL hE h)
      | Dict ks vs p =>
        match ks, vs with
        | [], [] => exact pe_dnewK
        | [], _ :: _ => exact pe_no
        | a :: ks, vs =>
          refine pe_if_t fun h => ?_
          simp only [Bool.and_eq_true, decide_eq_true_eq, beq_iff_eq] at h
          exact pe_disp (pps_w hE h.1.1 h.1.2) h.1.1 h.1.2 (by simp) h.2
      | Subscript a b p =>
        cases b with
        | Slice lo hi st p2 =>
          cases st with
          | some z => exact pe_no
          | none =>
            cases lo <;> cases hi <;> first
              | exact pe_slice sl_all (hE a) po_none po_none
              | exact pe_slice sl_all (hE a) (po_some (hE _)) po_none
              | exact pe_slice sl_all (hE a) po_none (po_some (hE _))
              | exact pe_slice sl_all (hE a) (po_some (hE _)) (po_some (hE _))
        | _ => exact pe_ix (ok_sub2 hu1) (hE a) (hE _) (slice_no rfl)
      | Attribute o f p => exact pe_if_t fun h => pe_attr (hE o) h
      | Lambda a body scope p =>
        have gen : PE X (.Lambda a body scope p) (match a, Γ.P with
          | ⟨[], [], none, [], [], none, []⟩, some _ => if lamSB sc scope = true then tLamV Γ.qual Γ.cells Γ.T body scope else tNo
          | _, _ => tNo) := by
          split
          · rename_i q hp
            exact pe_if_t fun h => pe_lamV g hp h
          · exact pe_no
        exact gen
      | Call fn es kws pos =>
        cases fn with
        | Name x p =>
          have gen : PE X (.Call (.Name x p) es kws pos) (if (oddName x || !noStar es || !kwAll kws) = true then tNo else if glb sc x = true then (match Γ.fn x es.length (kwNames kws) with
              | some p => tFn p.2 (actsAt Γ sc fun s' W' b => wE X.K n Γ.low s' W' b) W (wL (wE X.K n Γ sc W) es) (wKw (wE X.K n Γ sc W) kws) es.length (kwNames kws).length
              | none => (match es, kws, bTab X.K x with
                | e :: es, [], some r => if Γ.free x = true then wB Γ sc (wE X.K n Γ sc W) x e es r.2 else tNo
                | _, _, _ => tNo)) else if vis sc x = true then (match es, kws, slot Γ.N x with
                | [], [], some i => tThunk i Γ.act W
                | _, _, _ => tNo) else tNo) := by
            refine pe_if_f fun h => ?_
            have h' := Bool.eq_false_iff.mpr h
            simp only [Bool.or_eq_false_iff, Bool.not_eq_false'] at h'
            obtain ⟨⟨h0, h1⟩, h2⟩ := h'
            by_cases c : glb sc x = true
            · rw [if_pos c]
              cases hf : Γ.fn x es.length (kwNames kws) with
              | some q =>
                refine pe_fn g h0 c hf h1 h2 (pa_wL hE h1) (fun e => by subst e; rfl) (pk_wK hE) fun pins σ H s I => acts_at g (fun A outer s H E scope f c' body hr => ?_) I
                exact (ih (good_lam g A outer s H E scope f c' hr)).1 body
              | none =>
                match es, kws, hb : bTab X.K x with
                | [], _, _ => exact pe_no
                | _ :: _, _ :: _, _ => exact pe_no
                | _ :: _, [], none => exact pe_no
                | e :: es, [], some r => exact pe_if_t fun hfr => pe_wB g hE h0 c hfr hb h1
            · rw [if_neg c]
              by_cases c2 : vis sc x = true
              · rw [if_pos c2]
                match es, kws, hb : slot Γ.N x with
                | [], [], some i =>
                  by_cases hk : lamRoom ≤ k
                  · exact pe_thunk g h0 c2 hb hk
                  · refine ⟨fun pins s σ H Q I hh => ?_⟩
                    obtain ⟨f, tl, e1, ac, ht⟩ := hh
                    exact absurd (g.aek ⟨f, tl, ac⟩) hk
                | [], [], none => exact pe_no
                | [], _ :: _, _ => exact pe_no
                | _ :: _, _, _ => exact pe_no
              · rw [if_neg c2]
                exact pe_no
          exact gen
        | Attribute o m apos =>
          cases kws with
          | nil =>
            refine pe_if_t fun h => ?_
            simp only [Bool.and_eq_true] at h
            exact pe_mtab (hE o) (pa_wL hE h.1.2) h.1.1 h.1.2 h.2
          | cons a b => exact pe_no
        | _ => exact pe_no
      | ListComp elt gs scope pos =>
        match gs with
        | [] => exact pe_no
        | c1 :: c2 :: r =>
          have no : wE X.K (n + 1) Γ sc W (.ListComp elt (c1 :: c2 :: r) scope pos) = tNo := by
            unfold wE
            split <;> first
              | rfl
              | (rename_i q; simp at q)
          rw [no]
          exact pe_no
        | [⟨tg, iter, ifs, a⟩] =>
          by_cases ha : a = 0
          · subst ha
            refine pe_if_t fun h => ?_
            obtain ⟨h1, h2⟩ := Bool.and_eq_true_iff.mp h
            have bk : BlkOk X.N X.env.scope scope (ownS Γ.N scope) := by
              rw [g.N, g.sc]
              exact blkOk_by h1
            have gb := fun s H C cl fp => good_blk g s H scope C cl fp
            refine pe_lc g.calm (by rw [g.N]; exact g.nd) (pi_w g hE tg iter) bk (fun s H C cl fp => ?_) (fun s H C cl fp => ?_) (fun s H C cl fp => (ih (gb s H C cl fp)).1 elt) (set_no (by simpa using h2) _)
            · have q := gb s H C cl fp
              exact pg_w q.calm (by have := q.units; omega) q.N q.sc q.nd (fun z => by cases z) (ih q).1 tg
            · match ifs with
              | [] => exact pts_nil
              | [c] => exact pts_one ((ih (gb s H C cl fp)).2 c)
              | _ :: _ :: _ => exact ⟨fun _ _ _ _ _ _ z => z.elim⟩
          · have no : wE X.K (n + 1) Γ sc W (.ListComp elt [⟨tg, iter, ifs, a⟩] scope pos) = tNo := by
              unfold wE
              split <;> first
                | rfl
                | (rename_i q; cases q; exact absurd rfl ha)
                | (rename_i q; simp at q)
            rw [no]
            exact pe_no
      | _ => exact pe_no
    refine ⟨main, fun e => ?_⟩
    have tru : ∀ e, plainTest e = true → PT X e (tTru X.K (wE X.K n Γ sc W e)) := fun e h => pt_truth (hE e) (tests_no h _)
    cases e with
    | BoolOp op vs p =>
      cases op with
      | And => exact (pw_and_l hT).pt
      | Or => exact (pw_or_l hT).pt
    | UnaryOp op a p =>
      cases op with
      | Not => exact pt_not (hT a)
      | _ => exact pt_no
    | Compare a ops bs p =>
      match ops, bs with
      | [op], [b] => exact pt_if_f fun h => pt_cmpR (ok_cmp hu op) (hE a) (hE b) (Bool.eq_false_iff.mpr h)
      | [op, op'], [b, c] => exact pt_if_f fun h => pt_chain (ok_cmp hu op) (ok_cmp hu op') (hE a) (hE b) (hE c) (Bool.eq_false_iff.mpr h)
      | [], _ => exact pt_no
      | [_], [] => exact pt_no
      | [_], _ :: _ :: _ => exact pt_no
      | [_, _], [] => exact pt_no
      | [_, _], [_] => exact pt_no
      | [_, _], _ :: _ :: _ :: _ => exact pt_no
      | _ :: _ :: _ :: _, _ => exact pt_no
    | Name => exact tru _ rfl
    | Call => exact tru _ rfl
    | Subscript => exact tru _ rfl
    | Attribute => exact tru _ rfl
    | BinOp => exact tru _ rfl
    | ListComp => exact tru _ rfl
    | Constant => exact tru _ rfl
    | _ => exact pt_no
end
end G

set_option Elab.async false
set_option linter.all false
set_option maxRecDepth 100000
set_option maxHeartbeats 8000000
namespace G
open PySem PySem.Spec PyProof.Rows L2 LamX
/-! ## statements -/
def isStarE (e : Expr) : Bool := match e with
  | .Starred .. => true
  | _ => false
def swS (sc : Scope) (ts vs : List Expr) : Option (Option (List Str)) :=
  if (!(ts.length == 2 || ts.length == 3) || vs.length != ts.length) = true then some none
  else if vs.any isStarE = true then some none
  else
    let line := (ts.head?.map (·.pos.line)).getD 0
    let names := ts.filterMap fun
      | .Name id pos => if (sc.names.lookup id == some .local && pos.line == line) = true then some id else none
      | _ => none
    if (names.length != ts.length || names.eraseDups.length != names.length) = true then some none
    else if vs.all (foldedForSure 8) = true then some none
    else if vs.all (constantsAlone 8) = true then none
    else some (some names)
theorem blockFn {env : Env} (hk : env.scope.kind = .function) : env.blockKind = .function := by
  unfold Env.blockKind
  rw [hk]
  rfl
theorem sw_eq {env : Env} {ts vs : List Expr} {k k2 : Nat} {p p2 : Pos} {r : Option (List Str)} (hk : env.scope.kind = .function) (h : swS env.scope ts vs = some r) : swappedStores [.Tuple ts k p] (.Tuple vs k2 p2) env = pure r := by
  have hb := blockFn hk
  unfold swappedStores
  simp only [hb]
  unfold swS at h
  by_cases c1 : (!(ts.length == 2 || ts.length == 3) || vs.length != ts.length) = true
  · rw [if_pos c1] at h
    cases h
    exact if_pos (by rw [c1]; rfl)
  · rw [if_neg c1] at h
    have f1 := Bool.eq_false_iff.mpr c1
    rw [if_neg (by rw [f1]; decide)]
    by_cases c2 : vs.any isStarE = true
    · rw [if_pos c2] at h
      cases h
      exact if_pos c2
    · rw [if_neg c2] at h
      refine (if_neg c2).trans ?_
      simp only at h
      split at h
      · rename_i c3
        cases h
        exact if_pos c3
      · rename_i c3
        refine (if_neg c3).trans ?_
        by_cases c4 : vs.all (foldedForSure 8) = true
        · rw [if_pos c4] at h
          cases h
          exact if_pos c4
        · rw [if_neg c4] at h
          refine (if_neg c4).trans ?_
          by_cases c5 : vs.all (constantsAlone 8) = true
          · rw [if_pos c5] at h
            cases h
          · rw [if_neg c5] at h
            cases h
            exact (if_neg c5).trans rfl
/-- a comprehension that is stored at a local on its own line takes another road -/
def swC (sc scope : Scope) (x : Str) (px pe : Pos) : Bool :=
  sc.names.lookup x == some .local && px.line == pe.line && !(scope.names.any fun (n, k) => n == x && (k == .local || k == .cell))
theorem swC_eq {env : Env} {elt : Expr} {gs : List Comprehension} {scope : Scope} {pos px : Pos} {x : Str} {l : Nat} (hk : env.scope.kind = .function) :
    swapsWith (.ListComp elt gs scope pos) (some (.Name x px)) l env = pure (swC env.scope scope x px pos) := by
  have hb := blockFn hk
  unfold swapsWith swC
  simp only [hb]
  rfl
def okAsg (e : Expr) : Bool := match e with
  | .SetComp .. => false
  | .DictComp .. => false
  | _ => true
def wSL (f : Stmt → TS) : List Stmt → TS
  | [] => tNext
  | [s] => f s
  | s :: r => tSeq (f s) (wSL f r)
/-- what stands in an except suite -/
def wSu (N : List Str) (sc : Scope) : List Stmt → TS
  | [.Assign [.Name y _] (.Name z _) _] => if !oddName z && loc sc y && vis sc z then (match slot N y, slot N z with
    | some j, some l => tAsg (tVar l) (gName j)
    | _, _ => tNoS) else tNoS
  | [.Assign [.Name y _] (.Constant .none _ _) _] => if loc sc y then (match slot N y with
    | some j => tAsg (tC .non) (gName j)
    | none => tNoS) else tNoS
  | [.Return (some (.Constant .none _ _)) _] => tRet (tC .non)
  | [.Return (some (.Constant (.bool b) _ _)) _] => tRet (tC (.bl b))
  | [.Return none _] => tRetN
  | _ => tNoS
def raise0 (Γ : Gam) (W : WX) (x : Str) (e : Expr) : TS := match e, Γ.exc x with
  | .Constant (.str _) _ _, some C => tRaise0 C W
  | _, _ => tNoS
def wS (K : PySem.W.Frag) : Nat → Gam → Scope → WX → Stmt → TS
  | 0, _, _, _, _ => tNoS
  | n + 1, Γ, sc, W, st => match st with
    | .Pass _ => tNext
    | .Break _ => tBreak
    | .Continue _ => tCont
    | .Return none _ => tRetN
    | .Return (some e) _ => tRet (wE K n Γ sc W e)
    | .Expr e _ => if isComp e then tNoS else tDrop (wE K n Γ sc W e)
    | .Assign [.Name x _] e _ => if okAsg e && loc sc x then (match slot Γ.N x with
      | some i => tAsg (wE K n Γ sc W e) (gName i)
      | none => tNoS) else tNoS
    | .Assign [.Tuple ts _ _] (.Tuple vs kk p2) _ => (match swS sc ts vs with
      | some (some _) => (match ts, vs with
        | [.Name x _, .Name y _], [a, b] => (match slot Γ.N x, slot Γ.N y with
          | some i, some j => if i ≠ j ∧ sc.names.lookup x = some .local ∧ sc.names.lookup y = some .local ∧ swS sc ts vs = some (some [x, y]) ∧ noStar [a, b] = true then tPar i j (wL (wE K n Γ sc W) [a, b]) else tNoS
          | _, _ => tNoS)
        | [.Name x _, .Name y _, .Name z _], [a, b, c] => (match slot Γ.N x, slot Γ.N y, slot Γ.N z with
          | some i, some j, some l => if i ≠ j ∧ i ≠ l ∧ j ≠ l ∧ sc.names.lookup x = some .local ∧ sc.names.lookup y = some .local ∧ sc.names.lookup z = some .local ∧ swS sc ts vs = some (some [x, y, z]) ∧ noStar [a, b, c] = true then
              tPar3 i j l (wL (wE K n Γ sc W) [a, b, c]) else tNoS
          | _, _, _ => tNoS)
        | _, _ => tNoS)
      | some none => tAsg (wE K n Γ sc W (.Tuple vs kk p2)) (wG K Γ sc true (wE K n Γ sc W) (.Tuple ts 0 p2))
      | none => tNoS)
    | .Assign [.Tuple ts k p] e _ => if isComp e then tNoS else tAsg (wE K n Γ sc W e) (wG K Γ sc true (wE K n Γ sc W) (.Tuple ts k p))
    | .Assign [.Attribute o f _] e _ => if isComp e then tNoS else sFld K (wE K n Γ sc W o) (wE K n Γ sc W e) f
    | .Assign [.Subscript o i p] e _ => tAsg (wE K n Γ sc W e) (wG K Γ sc true (wE K n Γ sc W) (.Subscript o i p))
    | .AugAssign (.Name x _) op e _ => if loc sc x then (match slot Γ.N x with
      | some i => tAug i (wE K n Γ sc W e) (rAug K op)
      | none => tNoS) else tNoS
    | .If c a b _ => tIfS (wT K n Γ sc W c) (wSL (wS K n Γ sc W) a) (wSL (wS K n Γ sc W) b)
    | .While c b [] _ => tWhile (wT K n Γ sc W c) (wSL (wS K n Γ sc W) b)
    | .For tg iter b [] _ => if isSetD iter then tNoS else tFor (wI K Γ sc (wE K n Γ sc W) tg iter) (wG K Γ sc true (wE K n Γ sc W) tg) (wSL (wS K n Γ sc W) b)
    | .Raise (some (.Call (.Name x _) [e] [] _)) none _ => if oddName x then tNoS else if glb sc x then (match Γ.exA x with
      | some p => if noStar [e] then tRaiseA p.1 p.2 W (wL (wE K n Γ sc W) [e]) else tNoS
      | none => raise0 Γ W x e) else tNoS
    | .Try body [.ExceptHandler (some (.Name x _)) (some nm) (b₀ :: suite) _] [] [] _ => if oddName x then tNoS else if glb sc x && decide (sc.names.lookup nm = some .local) then (match Γ.exc x, slot Γ.N nm with
      | some C, some i => fun D σ H => wSL (wS K n Γ sc (wKeep K (.ref C) i (wSu Γ.N sc (b₀ :: suite)) W D)) body D σ H
      | _, _ => tNoS) else tNoS
    | _ => tNoS
structure GoodS (k : Nat) (Γ : Gam) (sc : Scope) (W : WX) (X : Cx) : Prop extends Good k Γ sc W X where
  hs : X.stack = X.env :: X.outer
  hf : X.env.frame = some X.env.locals
  fnok : ∀ x, X.fn x = true
section
variable {X : Cx} {k : Nat} {Γ : Gam} {sc : Scope} {W : WX}
theorem ps_if_f {e : Stmt} {c : Prop} [Decidable c] {t : TS} (h : ¬ c → PS X e t) : PS X e (if c then tNoS else t) := by
  by_cases q : c
  · rw [if_pos q]
    exact ps_no
  · rw [if_neg q]
    exact h q
theorem ps_if_t {e : Stmt} {c : Prop} [Decidable c] {t : TS} (h : c → PS X e t) : PS X e (if c then t else tNoS) := by
  by_cases q : c
  · rw [if_pos q]
    exact h q
  · rw [if_neg q]
    exact ps_no
theorem pss_w {f : Stmt → TS} (hf : ∀ s, PS X s (f s)) : ∀ {b : List Stmt}, PSs X b (wSL f b)
  | [] => pss_nil
  | [s] => pss_one (hf s)
  | s :: t :: r => pss_cons (hf s) (pss_w hf (b := t :: r))
theorem GoodS.try_ (g : GoodS k Γ sc W X) {W' : WX} {pn : List (Addr × Obj)} {xe : Value → Shared → Prop} (tk : Takes (X.tr pn xe) W') (hp : PassesOwn (model X.prog X.w) X.A X.env xe) : GoodS k Γ sc W' (X.tr pn xe) where
  calm := g.calm
  sc := g.sc
  N := g.N
  nd := g.nd
  room := g.room
  fn := g.fn
  gv := g.gv
  free := g.free
  exc := g.exc
  exA := g.exA
  act := g.act
  aex := g.aex
  aek := g.aek
  pass := hp
  takes := tk
  lam := g.lam
  hs := g.hs
  hf := g.hf
  fnok := g.fnok
theorem pss_su (g : GoodS k Γ sc W X) (a : Addr) (pn : List (Addr × Obj)) (b : List Stmt) : PSs (X.suite a pn) b (wSu Γ.N sc b) := by
  have no : ∀ {b : List Stmt}, PSs (X.suite a pn) b tNoS := ⟨fun _ _ _ _ _ _ z => z.elim⟩
  have nd : X.N.Nodup := by
    rw [g.N]
    exact g.nd
  have at_ : ∀ {x : Str} {i : Nat}, slot Γ.N x = some i → X.N[i]? = some x := fun h => by
    rw [g.N]
    exact slot_ok h
  unfold wSu
  split
  · split
    · rename_i c
      simp only [Bool.and_eq_true, Bool.not_eq_true'] at c
      obtain ⟨⟨c0, c1⟩, c2⟩ := c
      obtain ⟨o1, o2, o3⟩ := oddName_no c0
      split
      · rename_i h1 h2
        exact pss_one (ps_set (X := X.suite a pn) nd (at_ h1) (by show Loc X.env.scope _; rw [g.sc]; exact loc_ok c1) (pe_var (X := X.suite a pn) (at_ h2) (by show Vis X.env.scope _; rw [g.sc]; exact vis_ok c2) o1 o2) rfl (.inl (g.fnok _)))
      · exact no
    · exact no
  · split
    · rename_i c
      split
      · rename_i h1
        exact pss_one (ps_set (X := X.suite a pn) nd (at_ h1) (by show Loc X.env.scope _; rw [g.sc]; exact loc_ok c) pe_non rfl (.inl (g.fnok _)))
      · exact no
    · exact no
  · exact pss_one (ps_ret pe_non)
  · exact pss_one (ps_ret pe_bl)
  · exact pss_one ps_retN
  · exact no
end
end G

set_option Elab.async false
set_option linter.all false
set_option maxRecDepth 100000
set_option maxHeartbeats 8000000
namespace G
open PySem PySem.Spec PyProof.Rows L2 LamX
section
variable {X : Cx} {k : Nat} {Γ : Gam} {sc : Scope} {W : WX}
theorem no_swap {e : Expr} (h : isComp e = false) {t : Option Expr} {l : Nat} {env : Env} : swapsWith e t l env = pure false := by
  unfold isComp at h
  cases e <;> first
    | rfl
    | cases h
theorem ps_dead {st : Stmt} {t : TS} (h : ∀ D σ H, ¬ t D σ H) : PS X st t := ⟨fun _ _ _ _ _ _ z => (h _ _ _ z).elim⟩
/-- name = e -/
theorem ps_name (n : Nat) (g : GoodS k Γ sc W X) {x : Str} {px pos : Pos} {e : Expr} {i : Nat} (hok : okAsg e = true) (hl : loc sc x = true) (hi : slot Γ.N x = some i) :
    PS X (.Assign [.Name x px] e pos) (tAsg (wE X.K n Γ sc W e) (gName i)) := by
  have nd : X.N.Nodup := by
    rw [g.N]
    exact g.nd
  have hN : X.N[i]? = some x := by
    rw [g.N]
    exact slot_ok hi
  have hL : Loc X.env.scope x := by
    rw [g.sc]
    exact loc_ok hl
  have hE := (snd n g.toGood).1 e
  by_cases hc : isComp e = true
  · cases e with
    | ListComp elt gs scope p =>
      by_cases hs : swC sc scope x px p = true
      · have hs2 : sc.names.lookup x = some .local := by
          unfold swC at hs
          simp only [Bool.and_eq_true, beq_iff_eq] at hs
          exact hs.1.1
        cases n with
        | zero => exact ps_dead fun D σ H z => z
        | succ n =>
          have hE2 := (snd n g.toGood).1
          match gs with
          | [] => exact ps_dead fun D σ H z => z
          | c1 :: c2 :: r =>
            have no : wE X.K (n + 1) Γ sc W (.ListComp elt (c1 :: c2 :: r) scope p) = tNo := by
              unfold wE
              split <;> first
                | rfl
                | (rename_i q; simp at q)
            rw [no]
            exact ps_dead fun D σ H z => z
          | [⟨tg, iter, ifs, a⟩] =>
            by_cases ha : a = 0
            · subst ha
              show PS X _ (tAsg (if _ then _ else tNo) _)
              by_cases h : (blkC Γ.N sc scope (ownS Γ.N scope) && !isSetD iter) = true
              · rw [if_pos h]
                obtain ⟨h1, h2⟩ := Bool.and_eq_true_iff.mp h
                have bk : BlkOk X.N X.env.scope scope (ownS Γ.N scope) := by
                  rw [g.N, g.sc]
                  exact blkOk_by h1
                have gb := fun s H C cl fp => good_blk g.toGood s H scope C cl fp
                have sw : ∀ l, X.env.scope.kind = .function → swapsWith (.ListComp elt [⟨tg, iter, ifs, 0⟩] scope p) (some (.Name x px)) l X.env = pure true := fun l hk => by
                  rw [swC_eq hk, g.sc, hs]
                refine ⟨fun pins s σ H D I hh => ?_⟩
                refine (ps_setLc g.calm nd hN (by rw [g.sc]; exact hs2) (sw _ I.ok.kind) (pi_w g.toGood hE2 tg iter) bk (fun s H C cl fp => ?_) (fun s H C cl fp => ?_) (fun s H C cl fp => (snd n (gb s H C cl fp)).1 elt) (set_no (by simpa using h2) _)).run pins s σ H D I hh
                · have q := gb s H C cl fp
                  exact pg_w q.calm (by have := q.units; omega) q.N q.sc q.nd (fun z => by cases z) (snd n q).1 tg
                · match ifs with
                  | [] => exact pts_nil
                  | [c] => exact pts_one ((snd n (gb s H C cl fp)).2 c)
                  | _ :: _ :: _ => exact ⟨fun _ _ _ _ _ _ z => z.elim⟩
              · rw [if_neg h]
                exact ps_dead fun D σ H z => z
            · have no : wE X.K (n + 1) Γ sc W (.ListComp elt [⟨tg, iter, ifs, a⟩] scope p) = tNo := by
                unfold wE
                split <;> first
                  | rfl
                  | (rename_i q; cases q; exact absurd rfl ha)
                  | (rename_i q; simp at q)
              rw [no]
              exact ps_dead fun D σ H z => z
      · refine ⟨fun pins s σ H D I hh => ?_⟩
        exact (ps_set nd hN hL hE (by rw [swC_eq I.ok.kind, g.sc, Bool.eq_false_iff.mpr hs]) (.inl (g.fnok x))).run pins s σ H D I hh
    | SetComp => cases hok
    | DictComp => cases hok
    | _ => cases hc
  · exact ps_set nd hN hL hE (no_swap (Bool.eq_false_iff.mpr hc)) (.inl (g.fnok x))
theorem no_sole {e : Expr} {t : Expr} (h : (match t with | .Name .. => isComp e | _ => false) = false) {l : Nat} {env : Env} : swapsWithSole [t] e l env = pure false := by
  show swapsWith e (some t) l env = pure false
  by_cases hc : isComp e = true
  · cases t <;> first
      | (cases e <;> rfl)
      | (have h2 : isComp e = false := h
         rw [hc] at h2
         cases h2)
  · exact no_swap (Bool.eq_false_iff.mpr hc)
theorem sndS (n : Nat) : ∀ {X : Cx} {k : Nat} {Γ : Gam} {sc : Scope} {W : WX}, GoodS k Γ sc W X → ∀ st, PS X st (wS X.K n Γ sc W st) := by
  induction n with
  | zero => exact fun _ _ => ps_no
  | succ n ih =>
    intro X k Γ sc W g
    obtain ⟨hE, hT⟩ := snd n g.toGood
    have hS := ih g
    have hu := g.units
    have hu1 : X.A.units + 1 < cLine := by omega
    have nd : X.N.Nodup := by
      rw [g.N]
      exact g.nd
    have hG : ∀ tg, PG X tg (wG X.K Γ sc true (wE X.K n Γ sc W) tg) := pg_w g.calm hu1 g.N g.sc g.nd (fun _ => g.fnok) hE
    have at_ : ∀ {x : Str} {i : Nat}, slot Γ.N x = some i → X.N[i]? = some x := fun h => by
      rw [g.N]
      exact slot_ok h
    intro st
    cases st with
    | Pass p => exact ps_pass
    | Break p => exact ps_break
    | Continue p => exact ps_continue
    | Return v p =>
      cases v with
      | none => exact ps_retN
      | some e => exact ps_ret (hE e)
    | Expr e p => exact ps_if_f fun h => ps_expr (hE e) (no_swap (Bool.eq_false_iff.mpr h))
    | Assign ts e p =>
      match ts with
      | [] => exact ps_no
      | [tg] =>
        cases tg with
        | Name x px =>
          refine ps_if_t fun h => ?_
          obtain ⟨h1, h2⟩ := Bool.and_eq_true_iff.mp h
          cases hi : slot Γ.N x with
          | none => exact ps_no
          | some i => exact ps_name n g h1 h2 hi
        | Subscript o i q => exact ps_asg (hE e) (hG _) (no_sole rfl) (by cases e <;> rfl) rfl
        | Attribute o f q => exact ps_if_f fun h => ps_fld (hE o) (hE e) (no_swap (Bool.eq_false_iff.mpr h))
        | Tuple ts kk q =>
          by_cases ht : ∃ vs k2 p2, e = .Tuple vs k2 p2
          · obtain ⟨vs, k2, p2, rfl⟩ := ht
            show PS X _ (match swS sc ts vs with
              | some (some _) => (match ts, vs with
                | [.Name x _, .Name y _], [a, b] => (match slot Γ.N x, slot Γ.N y with
                  | some i, some j => if i ≠ j ∧ sc.names.lookup x = some .local ∧ sc.names.lookup y = some .local ∧ swS sc ts vs = some (some [x, y]) ∧ noStar [a, b] = true then tPar i j (wL (wE X.K n Γ sc W) [a, b]) else tNoS
                  | _, _ => tNoS)
                | [.Name x _, .Name y _, .Name z _], [a, b, c] => (match slot Γ.N x, slot Γ.N y, slot Γ.N z with
                  | some i, some j, some l => if i ≠ j ∧ i ≠ l ∧ j ≠ l ∧ sc.names.lookup x = some .local ∧ sc.names.lookup y = some .local ∧ sc.names.lookup z = some .local ∧ swS sc ts vs = some (some [x, y, z]) ∧ noStar [a, b, c] = true then
                      tPar3 i j l (wL (wE X.K n Γ sc W) [a, b, c]) else tNoS
                  | _, _, _ => tNoS)
                | _, _ => tNoS)
              | some none => tAsg (wE X.K n Γ sc W (.Tuple vs k2 p2)) (wG X.K Γ sc true (wE X.K n Γ sc W) (.Tuple ts 0 p2))
              | none => tNoS)
            split
            · split
              · split
                · rename_i x px y py a b i j h1 h2 _ _
                  refine ps_if_t fun c => ?_
                  obtain ⟨c1, c2, c3, c4, c5⟩ := c
                  refine ⟨fun pins s σ H D I hh => ?_⟩
                  refine (ps_par g.calm nd (at_ (by assumption)) (at_ (by assumption)) c1 (by rw [g.sc]; exact c2) (by rw [g.sc]; exact c3) (pa_wL hE c5) (sw_eq I.ok.kind (by rw [g.sc]; exact c4)) rfl).run pins s σ H D I hh
                · exact ps_no
              · split
                · refine ps_if_t fun c => ?_
                  obtain ⟨c1, c2, c3, c4, c5, c6, c7, c8⟩ := c
                  refine ⟨fun pins s σ H D I hh => ?_⟩
                  refine (ps_par3 g.calm nd (at_ (by assumption)) (at_ (by assumption)) (at_ (by assumption)) c1 c2 c3 (by rw [g.sc]; exact c4) (by rw [g.sc]; exact c5) (by rw [g.sc]; exact c6) (pa_wL hE c8) (sw_eq I.ok.kind (by rw [g.sc]; exact c7)) rfl).run pins s σ H D I hh
                · exact ps_no
              · exact ps_no
            · rename_i hw
              refine ⟨fun pins s σ H D I hh => ?_⟩
              exact (ps_asg (tg := .Tuple ts kk q) (g := wG X.K Γ sc true (wE X.K n Γ sc W) (.Tuple ts kk q)) (hE (.Tuple vs k2 p2)) (hG _) (no_sole rfl) (sw_eq I.ok.kind (by rw [g.sc]; exact hw)) rfl).run pins s σ H D I hh
            · exact ps_no
          · have q1 : wS X.K (n + 1) Γ sc W (.Assign [.Tuple ts kk q] e p) = (if isComp e = true then tNoS else tAsg (wE X.K n Γ sc W e) (wG X.K Γ sc true (wE X.K n Γ sc W) (.Tuple ts kk q))) := by
              cases e <;> first
                | rfl
                | exact absurd ⟨_, _, _, rfl⟩ ht
            rw [q1]
            refine ps_if_f fun h => ps_asg (hE e) (hG _) (no_sole rfl) ?_ rfl
            cases e <;> first
              | rfl
              | exact absurd ⟨_, _, _, rfl⟩ ht
        | _ => exact ps_no
      | t1 :: t2 :: r =>
        have q1 : wS X.K (n + 1) Γ sc W (.Assign (t1 :: t2 :: r) e p) = tNoS := by
          unfold wS
          split <;> first
            | rfl
            | (rename_i q; cases q)
        rw [q1]
        exact ps_no
    | AugAssign tg op e p =>
      cases tg with
      | Name x px =>
        refine ps_if_t fun h => ?_
        cases hi : slot Γ.N x with
        | none => exact ps_no
        | some i => exact ps_aug nd (at_ hi) (by rw [g.sc]; exact loc_ok h) (hE e) (ok_aug op) (.inl (g.fnok x))
      | _ => exact ps_no
    | If c a b p => exact ps_if (hT c) (pss_w hS) (pss_w hS)
    | While c b o p =>
      cases o with
      | nil => exact ps_while g.pass (hT c) (pss_w hS)
      | cons => exact ps_no
    | For tg iter b o p =>
      cases o with
      | nil => exact ps_if_f fun h => ps_for g.pass g.calm (pi_w g.toGood hE tg iter) (hG tg) (pss_w hS) (set_no (Bool.eq_false_iff.mpr h) _)
      | cons => exact ps_no
    | Raise ex cause p =>
      by_cases hr : ∃ x px e p3, ex = some (.Call (.Name x px) [e] [] p3) ∧ cause = none
      · obtain ⟨x, px, e, p3, rfl, rfl⟩ := hr
        refine ps_if_f fun h0 => ps_if_t fun h1 => ?_
        cases ha : Γ.exA x with
        | some q =>
          refine ps_if_t fun h2 => ?_
          obtain ⟨k1, hm, F⟩ := g.toGood.exA x q ha
          exact ps_raiseA g.toGood (Bool.eq_false_iff.mpr h0) h1 hm F k1 (pa_wL hE h2) h2
        | none =>
          show PS X _ (raise0 Γ W x e)
          unfold raise0
          split
          · rename_i m j p2 C he
            exact ps_raise0 g.toGood (Bool.eq_false_iff.mpr h0) h1 he
          · exact ps_no
      · have q1 : wS X.K (n + 1) Γ sc W (.Raise ex cause p) = tNoS := by
          unfold wS
          split <;> first
            | rfl
            | (rename_i q; cases q; exact absurd ⟨_, _, _, _, rfl, rfl⟩ hr)
            | (rename_i q; cases q)
        rw [q1]
        exact ps_no
    | Try body hs orelse fin p =>
      by_cases hr : ∃ x px nm b₀ suite p2, hs = [.ExceptHandler (some (.Name x px)) (some nm) (b₀ :: suite) p2] ∧ orelse = [] ∧ fin = []
      · obtain ⟨x, px, nm, b₀, suite, p2, rfl, rfl, rfl⟩ := hr
        refine ps_if_f fun h0 => ps_if_t fun h1 => ?_
        obtain ⟨h2, h3⟩ := Bool.and_eq_true_iff.mp h1
        have o1 := (oddName_no (Bool.eq_false_iff.mpr h0)).1
        cases he : Γ.exc x with
        | none => exact ps_no
        | some C =>
          cases hi : slot Γ.N nm with
          | none => exact ps_no
          | some i =>
            refine ps_tryK (tb := fun W => wSL (wS X.K n Γ sc W) body) g.hs g.hf nd (at_ hi) (by show X.env.scope.names.lookup nm = _; rw [g.sc]; exact of_decide_eq_true h3) ⟨gl_of g.toGood h2, o1, .inl (g.exc x C he).1⟩ g.takes
              (fun W' pn xe tk hp => ?_) (fun a pn => pss_su g a pn _)
            exact pss_w (ih (g.try_ tk hp))
      · have q1 : wS X.K (n + 1) Γ sc W (.Try body hs orelse fin p) = tNoS := by
          unfold wS
          split <;> first
            | rfl
            | (rename_i q; cases q; exact absurd ⟨_, _, _, _, _, _, rfl, rfl, rfl⟩ hr)
            | (rename_i q; cases q)
        rw [q1]
        exact ps_no
    | _ => exact ps_no
end
end G

set_option Elab.async false
set_option linter.all false
set_option maxRecDepth 100000
set_option maxHeartbeats 8000000
namespace G
open PySem PySem.Spec PyProof.Rows L2 LamX
/-! ## the law's own call -/
section
variable {P : Program} {w : World} {K : PySem.W.Frag} {mg mb : Str → Option Value} {k : Nat} {fa a : Addr} {tt : List (Addr × Addr)} {S : SpG} {s0 : Shared} {us : List Value} {zs : List Int}
theorem law_run (KX : K.In s0.heap) (gl : s0.heap.Ns mainGlobals mg) (bi : s0.heap.Ns builtinsNs mb) (bb : ∀ x : Str, x ≠ "__name__" → mb x = bootBuiltins x) (lim : s0.heap.NoLimit) (ng : s0.gens = #[])
    (tE : ∀ p ∈ tt, s0.heap.get? p.2 = some { cls := .none, data := .fields #[] }) (tK : ∀ p ∈ tt, K.lookup p.2 = none) (tC : ∀ p ∈ tt, PySem.W.CodeHd s0.heap p.1 p.2)
    (bm : ∃ (b : Addr) (ob : Obj), mg "__builtins__" = some (.ref b) ∧ b ≠ builtinsNs ∧ s0.heap.get? b = some ob ∧ ob.cls = .type "module" ∧ ob.dict = some builtinsNs ∧ ob.data = .plain)
    (ha : s0.heap.get? a = some { cls := .type "list", data := .seq us.toArray }) (hi : IntsAre us zs) (hl : zs.length ≤ sizeLine) (hr : RoomG k callerA)
    (F : ∀ base : Heap, K.In base → base.Ns mainGlobals mg → (∀ p ∈ tt, TabB base mg p.1 p.2) → FnS P w K mg base k fa 1 [] S)
    (hS : ∀ H : Hp, (∀ p ∈ tt, H p.2 = some (.tbl #[])) → SqL K H a (zs.map V.int) → S (fun _ _ => False) [.ref a] [] H (fun v _ => v = .bl true) fun _ _ _ => False) :
    codeAny (model P w) callerA (.call (.ref fa) ⟨[.ref a], []⟩) (fun r s' => r = .ok (.ret (.bool true)) ∧ OldK s0.heap s'.heap ∧ s'.os = s0.os ∧ AllBare s'.gens) s0 := by
  have rel := vals_ints hi
  have lenU := hi.length
  obtain ⟨T, eT⟩ : ∃ T : List Addr, T = tt.map (·.2) := ⟨_, rfl⟩
  have inT : ∀ p ∈ tt, p.2 ∈ T := fun p hp => by
    rw [eT]
    exact List.mem_map.mpr ⟨p, hp, rfl⟩
  have ofT : ∀ b ∈ T, ∃ p ∈ tt, p.2 = b := fun b hb => by
    rw [eT] at hb
    obtain ⟨p, hp, e⟩ := List.mem_map.mp hb
    exact ⟨p, hp, e⟩
  have atT : ∀ b ∈ T, s0.heap.get? b = some { cls := .none, data := .fields #[] } := fun b hb => by
    obtain ⟨p, hp, e⟩ := ofT b hb
    rw [← e]
    exact tE p hp
  have aT : a ∉ T := fun z => by
    have q := (atT a z).symm.trans ha
    cases q
  obtain ⟨HH, eH⟩ : ∃ HH : Hp, HH = fun b => if b ∈ T then some (.tbl #[]) else if b = a ∧ K.lookup a = none then some (.frz { cls := .type "list", data := .seq us.toArray } (.lst (zs.map V.int))) else none := ⟨_, rfl⟩
  have two : ∀ b u, HH b = some u → (b ∈ T ∧ u = .tbl #[]) ∨ (b = a ∧ K.lookup a = none ∧ u = .frz { cls := .type "list", data := .seq us.toArray } (.lst (zs.map V.int))) := fun b u e => by
    rw [eH] at e
    by_cases c : b ∈ T
    · have e2 := (if_pos c).symm.trans e
      exact .inl ⟨c, (Option.some.inj e2).symm⟩
    · have e2 := (if_neg c).symm.trans e
      by_cases c2 : b = a ∧ K.lookup a = none
      · have e3 := (if_pos c2).symm.trans e2
        exact .inr ⟨c2.1, c2.2, (Option.some.inj e3).symm⟩
      · have e3 := (if_neg c2).symm.trans e2
        cases e3
  have tabs : ∀ p ∈ tt, HH p.2 = some (.tbl #[]) := fun p hp => by
    rw [eH]
    exact if_pos (inT p hp)
  have none_of : ∀ b o, s0.heap.get? b = some o → o.data ≠ .fields #[] → (∀ v m, o.data ≠ .seq v m) → HH b = none := fun b o e h1 h2 => by
    cases q : HH b with
    | none => rfl
    | some u =>
      rcases two b u q with ⟨c, _⟩ | ⟨c, _, _⟩
      · rw [atT b c] at e
        cases e
        exact absurd rfl h1
      · rw [c, ha] at e
        cases e
        exact absurd rfl (h2 _ _)
  have kfree : ∀ b o, K.lookup b = some o → HH b = none := fun b o e => by
    cases q : HH b with
    | none => rfl
    | some u =>
      rcases two b u q with ⟨c, _⟩ | ⟨c, c2, _⟩
      · obtain ⟨p, hp, ep⟩ := ofT b c
        rw [← ep, tK p hp] at e
        cases e
      · rw [c, c2] at e
        cases e
  have hok : HOk P w HH s0.heap := fun b u e => by
    rcases two b u e with ⟨c, rfl⟩ | ⟨rfl, c2, rfl⟩
    · exact atT b c
    · exact ⟨ha, by rw [List.length_map]; exact hl, us, _, rel, ha⟩
  have seq : SqL K HH a (zs.map V.int) := by
    cases hk : K.lookup a with
    | none => exact .inl (.inr ⟨{ cls := .type "list", data := .seq us.toArray }, by rw [eH]; exact (if_neg aT).trans (if_pos ⟨rfl, hk⟩)⟩)
    | some o =>
      have e := KX a o hk
      rw [ha] at e
      cases e
      exact .inr ⟨_, us.toArray, _, hk, rfl, rfl, rfl, by rw [List.size_toArray, lenU]; exact hl, by simpa using rel⟩
  have hid : ∀ b o, s0.heap.get? b = some o → HH b = none → (hidT s0.heap HH).get? b = some o := fun b o e n => hidT_get e n
  have nsH : ∀ b m, s0.heap.Ns b m → (hidT s0.heap HH).Ns b m := fun b m ⟨o, es, ep, e, d, r⟩ => by
    refine ⟨o, es, ep, hid b o e (none_of b o e (fun z => ?_) fun v m z => ?_), d, r⟩
    · rw [d] at z
      cases z
    · rw [d] at z
      cases z
  have KB : K.In (hidT s0.heap HH) := fun b o e => hid b o (KX b o e) (kfree b o e)
  have md : L2.Mod K mg (hidT s0.heap HH) := ⟨KB, nsH _ _ gl, ⟨mb, nsH _ _ bi, bb⟩, let ⟨mc, h1, h2⟩ := lim; ⟨mc, nsH _ _ h1, h2⟩⟩
  have tB : ∀ p ∈ tt, TabB (hidT s0.heap HH) mg p.1 p.2 := fun p hp => by
    refine ⟨?_, ?_, fun z => ?_⟩
    · obtain ⟨o, vs, file, tf, flags, tg, inF, text, tk, e1, r1, r2, r3, r4, r5, r6, r7, r8, hne⟩ := tC p hp
      refine ⟨o, vs, file, tf, flags, tg, inF, text, tk, hid _ o e1 (none_of _ o e1 (fun z => ?_) fun v m z => ?_), r1, r2, r3, r4, r5, r6, r7, r8, hne⟩
      · rw [r2] at z
        cases z
        simp at r3
      · rw [r2] at z
        cases z
    · obtain ⟨b, ob, b1, b2, b3, b4, b5, b6⟩ := bm
      refine ⟨b, ob, b1, b2, fun q => ?_, fun q => ?_, hid b ob b3 (none_of b ob b3 (fun z => ?_) fun v m z => ?_), b4, b5, b6⟩
      · obtain ⟨o, es, ep, e, hd, _⟩ := gl
        rw [q, e] at b3
        cases b3
        rw [hd] at b6
        cases b6
      · rw [q, tE p hp] at b3
        cases b3
        cases b6
      · rw [b6] at z
        cases z
      · rw [b6] at z
        cases z
    · obtain ⟨o, es, ep, e, hd, _⟩ := gl
      rw [z, tE p hp] at e
      cases e
      cases hd
  have e0 : Env0 P w K mg (hidT s0.heap HH) callerA [] s0 HH :=
    ⟨rfl, md, fun b o e => of_hidT e, Nat.le_of_eq (hidT_size _ _), trivial, fun b hb => absurd (show b ∈ ([] : List Addr) from hb) (by simp), hok, .of_eq ng⟩
  have run := F _ KB (nsH _ _ gl) tB callerA [] s0 HH [.ref a] [] [.ref a] [] _ _ (fun _ _ => False) hr e0 (.cons rfl .nil) .nil rfl rfl (fun _ _ z => z.elim) (hS HH tabs seq)
  refine codeAny_mono run fun r s' h => ?_
  cases r with
  | error e =>
    obtain ⟨_, _, _, _, _, _, _, _, _, _, _, _, z⟩ := h
    exact z.elim
  | ok fl =>
    cases fl with
    | next => exact False.elim h
    | brk => exact False.elim h
    | cont => exact False.elim h
    | ret u =>
      obtain ⟨v, H2, os, bare, un, hok2, rv, q⟩ := h
      have q2 : v = .bl true := q
      subst q2
      obtain rfl : u = Value.bool true := rv
      have old : ∀ b o, b ∉ T → s0.heap.get? b = some o → s'.heap.get? b = some o := fun b o nb e => by
        cases q : HH b with
        | none => exact un.keep b o e q (fun z => nomatch (show b ∈ ([] : List Addr) from z)) (fun z => nomatch z)
        | some u =>
          rcases two b u q with ⟨c, _⟩ | ⟨c, _, rfl⟩
          · exact absurd c nb
          · have z2 := (hok2 b _ (un.frzs b _ _ q)).1
            rw [c, ha] at e
            cases e
            exact z2
      have more : ∀ b ∈ T, ∃ ps : Array Value, s'.heap.get? b = some { cls := .none, data := .fields ps } := fun b hb => by
        obtain ⟨p, hp, ep⟩ := ofT b hb
        obtain ⟨m, z⟩ := un.tbls p.2 #[] (tabs p hp)
        rw [← ep]
        exact ⟨_, hok2 p.2 _ z⟩
      refine ⟨rfl, ⟨fun b o e => ?_, fun b o e => ?_⟩, os, bare⟩
      · by_cases hb : b ∈ T
        · obtain ⟨ps, hm⟩ := more b hb
          obtain ⟨p, hp, ep⟩ := ofT b hb
          rw [atT b hb] at e
          cases e
          rw [← ep] at hm ⊢
          exact .inr (.inl ⟨((tC p hp).tab (tE p hp)).isCodeTable, rfl, #[], ps, rfl, by rw [Array.empty_append]; exact hm⟩)
        · exact .inl (old b o hb e)
      · by_cases hb : b ∈ T
        · obtain ⟨ps, hm⟩ := more b hb
          exact ⟨_, hm⟩
        · exact ⟨o, old b o hb e⟩
end
/-- what the head must give of a law -/
def LawG (l : PySem.W.OpenLaw) (w : World) (K : PySem.W.Frag) (k n : Nat) (mg : Str → Option Value) (fa : Addr) (h : Heap) : Prop :=
  ∃ (tt : List (Addr × Addr)) (S : SpG), (∀ p ∈ tt, h.get? p.2 = some { cls := .none, data := .fields #[] }) ∧ (∀ p ∈ tt, K.lookup p.2 = none) ∧ (∀ p ∈ tt, PySem.W.CodeHd h p.1 p.2) ∧
    (∀ (H : Hp) (a : Addr) (zs : List Int), zs.length ≤ n → (∀ z ∈ zs, Builtin.Int.intBits z ≤ 1048576) → (∀ p ∈ tt, H p.2 = some (.tbl #[])) → SqL K H a (zs.map V.int) →
      S (fun _ _ => False) [.ref a] [] H (fun v _ => v = .bl true) fun _ _ _ => False) ∧
    ∀ base : Heap, K.In base → base.Ns mainGlobals mg → (∀ p ∈ tt, TabB base mg p.1 p.2) → FnS l.prog w K mg base k fa 1 [] S
theorem law_end {l : PySem.W.OpenLaw} {n k : Nat} {q : Program} {loose : List Str} {XP : (Str → Option Value) → Heap → Prop} {YP : World → Heap → Prop} {d : DefRec} (hn : l.most = some n) (hn2 : n ≤ sizeLine) (hdf : d.params.defaults = []) (hr : RoomG k callerA)
    (F : ∀ (w : World) (mg : Str → Option Value) (fa : Addr) (h : Heap), YP w h → h.Ns mainGlobals mg → mg d.name = some (.ref fa) → ∃ K : PySem.W.Frag, K.In h ∧ LawG l w K k n mg fa h) :
    PySem.W.WalkO q loose XP YP l.row.toRowW d [] (fun f vs => PySem.call f vs) := by
  refine Att.attach_callB hn hdf fun w s₀ s1 mg mb fa o pm cd doc a us zs Gr Y ho hd hcd hmg hobj hints hlen hbits hg => ?_
  obtain ⟨K, KX, tt, S, h1, h2, h3, h4, h5⟩ := F w mg fa _ Y Gr.T.g hmg
  exact law_run KX Gr.T.g Gr.T.b Gr.T.builtins Gr.T.nolimit hg h1 h2 h3 Gr.T.bmain hobj hints (Nat.le_trans hlen hn2) hr h5 fun H hT hS => h4 H a zs hlen hbits hT hS
end G

set_option Elab.async false
set_option linter.all false
set_option maxRecDepth 100000
set_option maxHeartbeats 8000000
namespace G
open PySem PySem.Spec PyProof.Rows L2 LamX
/-! ## a module's facts, a def by its body -/
structure FnE where
  x : Str
  n : Nat
  ks : List Str
  l : Nat
  S : SpG
def fnLook (fl : List FnE) (x : Str) (n : Nat) (ks : List Str) : Option (Nat × SpG) := (fl.find? fun e => e.x == x && e.n == n && e.ks == ks).map fun e => (e.l, e.S)
structure Md where
  free : List Str
  gv : List (Str × V)
  exc : List (Str × Addr)
  exa : List (Str × Addr × Str) := []
structure MdOk (P : Program) (K : PySem.W.Frag) (mg : Str → Option Value) (m : Md) : Prop where
  free : ∀ x ∈ m.free, mg x = none
  gv : ∀ p ∈ m.gv, ∃ u, mg p.1 = some u ∧ RelV p.2 u
  exc : ∀ p ∈ m.exc, mg p.1 = some (.ref p.2) ∧ PySem.W.excIn K p.2 He.veBase "ValueError.__new__" = true ∧ PySem.W.keepIn K (.ref p.2) = true ∧
    PySem.W.subIn K (.ref p.2) (.type "BaseException") = some true ∧ PySem.W.typeIn K (.ref p.2) = some (.type "type")
  exa : ∀ p ∈ m.exa, mg p.1 = some (.ref p.2.1) ∧ IniF K P p.2.1 p.2.2
def gam (m : Md) (N : List Str) (fl : List FnE) (act : Acts) (qual : Str) (cells : List (Str × Addr)) (T : List (Addr × Str)) (P : Option Addr) : Gam :=
  { N := N, fn := fnLook fl, gv := fun x => m.gv.lookup x, exc := fun x => m.exc.lookup x, exA := fun x => m.exa.lookup x, free := fun x => m.free.contains x, act := act, qual := qual, cells := cells, T := T, P := P }
def pick {α : Type} (l : List α) (ix : List Nat) : List α := ix.filterMap fun i => l[i]?
theorem pick_rel {xs : List V} {us : List Value} (r : Vals xs us) : ∀ ix : List Nat, Vals (pick xs ix) (pick us ix)
  | [] => .nil
  | i :: ix => by
    have ih := pick_rel r ix
    unfold pick at ih ⊢
    rw [List.filterMap_cons, List.filterMap_cons]
    cases h : xs[i]? with
    | none =>
      rw [r.none_of h]
      exact ih
    | some x =>
      obtain ⟨u, e, q⟩ := r.get h
      rw [e]
      exact .cons q ih
theorem fnLook_ok {fl : List FnE} {x : Str} {n : Nat} {ks : List Str} {p : Nat × SpG} (h : fnLook fl x n ks = some p) : ∃ e ∈ fl, e.x = x ∧ e.n = n ∧ e.ks = ks ∧ p = (e.l, e.S) := by
  unfold fnLook at h
  obtain ⟨e, h1, h2⟩ := Option.map_eq_some_iff.mp h
  have h3 := List.find?_some h1
  simp only [Bool.and_eq_true, beq_iff_eq] at h3
  exact ⟨e, List.mem_of_find?_eq_some h1, h3.1.1, h3.1.2, h3.2, h2.symm⟩
theorem lookup_mem' {α : Type} {x : Str} {v : α} : ∀ {l : List (Str × α)}, l.lookup x = some v → (x, v) ∈ l
  | [], h => by cases h
  | (y, u) :: r, h => by
    rw [List.lookup_cons] at h
    cases c : x == y with
    | true =>
      rw [c] at h
      have e := beq_iff_eq.mp c
      subst e
      cases h
      exact List.mem_cons_self
    | false =>
      rw [c] at h
      exact List.mem_cons_of_mem _ (lookup_mem' h)
section
variable {P : Program} {w : World} {K : PySem.W.Frag} {mg : Str → Option Value} {base : Heap}
/-- a callee's entry holds -/
def FnEOk (P : Program) (w : World) (K : PySem.W.Frag) (mg : Str → Option Value) (base : Heap) (k : Nat) (e : FnE) : Prop :=
  e.l ≤ k ∧ ∃ f, mg e.x = some (.ref f) ∧ PySem.W.keepIn K (.ref f) = true ∧ FnS P w K mg base e.l f e.n e.ks e.S
theorem FnEOk.mono {j k : Nat} {e : FnE} (h : FnEOk P w K mg base j e) (l : j ≤ k) : FnEOk P w K mg base k e := ⟨Nat.le_trans h.1 l, h.2⟩
/-- where a def's lambdas are kept -/
def TabOk (K : PySem.W.Frag) (mg : Str → Option Value) (base : Heap) (f : Addr) (qual : Str) (T : List (Addr × Str)) (p : Addr) : Prop :=
  ∃ c, (∀ oc od fd sl, K.lookup f = some ⟨oc, od, .func fd, sl⟩ → fd.code = .ref c) ∧ TabB base mg c p ∧ (p, qual ++ "<lambda>") ∈ T ∧ ∀ q ∈ T, q.1 = p → q.2 = qual ++ "<lambda>"
theorem fn_rule {x qual : Str} {params : Arguments} {body : List Stmt} {scope : Scope} {dvs : List V} {kws : List (Str × V)} {f : Addr} {fd : FuncData} {N ps : List Str} {n : Nat} {ks : List Str} {ix : List Nat} {k : Nat} {S : Acts → List V → Hp → VK → XK → Prop}
    (F : FunD K x qual params body scope dvs kws f fd) (Sc : FnScope N ps scope) (hb : ∀ (s : Shared) (us ws : List Value), us.length = n → ws.length = ks.length → BindsTo s fd ⟨us, ks.zip ws⟩ (ps.zip (pick (us ++ ws) ix)))
    (m : Md) (hm : MdOk P K mg m) (hkm : m.exa = [] ∨ 1 ≤ k) (fl : List FnE) (hfl : ∀ e ∈ fl, FnEOk P w K mg base k e) (ta : Bool) (hta : ta = true → lamRoom ≤ k) (T : List (Addr × Str)) (pt : Option Addr) (hP : ∀ p, pt = some p → TabOk K mg base f (qual ++ ".<locals>.") T p)
    (fuel : Nat) (hbody : ∀ (cells : List (Str × Addr)) (acts : Acts) (vs : List V) (H : Hp) (Q : VK) (E : XK), S acts vs H Q E → vs.length = ps.length ∧
      wSL (wS K fuel (gam m N fl (fun g tl => ta = true ∧ acts g tl) (qual ++ ".<locals>.") cells T pt) scope (fun cls d _ H' => E cls d H')) body ⟨fun _ H' => Q .non H', Q, fun _ _ => False, fun _ _ => False⟩ (start N vs) H) :
    FnS P w K mg base (k + 1) f n ks (fun acts vs zs H Q E => S acts (pick (vs ++ zs) ix) H Q E) := by
  obtain ⟨oc, od, dV, kV, doc, pm, an, cdv, ct, osl, rfl, lk, hcd, hD, hK⟩ := F.ex
  intro A outer s H us ws vs zs Q E acts hr e0 r rz l1 l2 ha hS
  have lu : us.length = n := r.length.symm.trans l1
  have lw : ws.length = ks.length := rz.length.symm.trans l2
  have rr := pick_rel (r.append rz) ix
  have len : ∀ cells, _ := fun cells => (hbody cells acts _ H Q E hS).1
  refine run_ofS (N := N) (ps := ps) (us := pick (us ++ ws) ix) (vs := pick (vs ++ zs) ix) lk hcd Sc hr.r e0 (hb s us ws lu lw) rr (len []) fun hr2 => ?_
  have g : GoodS k (gam m N fl (fun g tl => ta = true ∧ acts g tl) (qual ++ ".<locals>.") (cellsFrom (s.heap.objs.size + 1) scope.names []) T pt) scope (fun cls d _ H' => E cls d H')
      (cxOf (L2.CX P w) P w K mg base N qual scope f cdv A outer s H E) := {
    calm := rfl
    sc := rfl
    N := rfl
    nd := Sc.nd
    room := ⟨hr2, hr.g⟩
    fn := fun y j js p h => by
      obtain ⟨e, he, rfl, rfl, rfl, rfl⟩ := fnLook_ok h
      exact hfl e he
    gv := fun y v h => hm.gv (y, v) (lookup_mem' h)
    free := fun y h => hm.free y (List.contains_iff_mem.mp h)
    exc := fun y C h => hm.exc (y, C) (lookup_mem' h)
    exA := fun y q h => by
      have z := lookup_mem' h
      refine ⟨hkm.elim (fun e => ?_) id, hm.exa (y, q) z⟩
      rw [e] at z
      cases z
    act := fun g tl h => ha g tl h.2
    aex := fun _ => ⟨rfl, rfl, rfl⟩
    aek := fun ⟨_, _, h, _⟩ => hta h
    pass := passes_of rfl
    takes := takes_of rfl rfl rfl rfl
    lam := fun p hp => by
      obtain ⟨c, h1, h2, h3, h4⟩ := hP p hp
      exact ⟨c, h2, h1 _ _ _ _ lk, h3, h4, rfl, rfl⟩
    hs := rfl
    hf := rfl
    fnok := fun _ => rfl }
  exact ⟨_, pss_w (sndS fuel g), (hbody _ acts _ H Q E hS).2⟩
/-- a weaker promise -/
theorem FnS.imp {k : Nat} {f : Addr} {n : Nat} {ks : List Str} {S S' : SpG} (F : FnS P w K mg base k f n ks S) (h : ∀ acts vs zs H Q E, vs.length = n → zs.length = ks.length → S' acts vs zs H Q E → S acts vs zs H Q E) : FnS P w K mg base k f n ks S' :=
  fun A outer s H us ws vs zs Q E acts hr e0 r rz l1 l2 ha hS => F A outer s H us ws vs zs Q E acts hr e0 r rz l1 l2 ha (h _ _ _ _ _ _ l1 l2 hS)
end
end G

set_option Elab.async false
set_option linter.all false
set_option maxRecDepth 100000
set_option maxHeartbeats 8000000
namespace G
open PySem PySem.Spec PyProof.Rows L2 LamX
/-! ## loops by an invariant -/
def ForGo (J : It) (g : TG) (tb : TS) (D : Ends) (σ : L2.St) (H : Hp) : Prop := ∃ W : Nat → Nat → L2.St → Hp → Prop, (∃ m, W 0 m σ H) ∧ ∀ i m σ H, W i m σ H →
  (J.stop i H ∧ D.nx σ H) ∨ (J.go i H ∧ ∃ N : L2.St → Hp → Prop, (∀ σ' H', N σ' H' → ∃ m', m' < m ∧ W (i + 1) m' σ' H') ∧ ∀ x H', J.yld i H x H' → g x σ H' fun σ2 H2 => tb { D with nx := N, ct := N, bk := D.nx } σ2 H2)
theorem for_go (wi : TI) (g : TG) (tb : TS) (D : Ends) (σ : L2.St) (H : Hp) : tFor wi g tb D σ H = wi σ H fun J H1 => ForGo J g tb D σ H1 := rfl
theorem go_rng {n ix : Nat} {lo : Int} {tb : TS} {D : Ends} {σ : L2.St} {H : Hp} (P : Nat → L2.St → Hp → Prop) (h0 : P 0 σ H)
    (hs : ∀ i σ H, i < n → P i σ H → tb { D with nx := P (i + 1), ct := P (i + 1), bk := D.nx } (σ.set ix (some (.int (lo + i)))) H) (he : ∀ σ H, P n σ H → D.nx σ H) : ForGo (Itr lo n) (gName ix) tb D σ H := by
  refine ⟨fun i m σ H => P i σ H ∧ i + m = n, ⟨n, h0, by omega⟩, fun i m σ H ⟨h, e⟩ => ?_⟩
  by_cases c : i < n
  · refine .inr ⟨c, P (i + 1), fun σ' H' q => ⟨m - 1, by omega, q, by omega⟩, fun x H' ⟨e1, e2⟩ => ?_⟩
    subst e1 e2
    exact hs i σ H' c h
  · have : i = n := by omega
    subst this
    exact .inl ⟨Nat.le_refl _, he σ H h⟩
/-- over a text's signs -/
theorem go_its {x : Str} {ix : Nat} {tb : TS} {D : Ends} {σ : L2.St} {H : Hp} (P : Nat → L2.St → Hp → Prop) (h0 : P 0 σ H)
    (hs : ∀ i c σ H, x.cps.toList[i]? = some c → P i σ H → tb { D with nx := P (i + 1), ct := P (i + 1), bk := D.nx } (σ.set ix (some (.str ⟨#[c]⟩))) H) (he : ∀ σ H, P x.length σ H → D.nx σ H) : ForGo (Its x) (gName ix) tb D σ H := by
  refine ⟨fun i m σ H => P i σ H ∧ i + m = x.length, ⟨x.length, h0, by omega⟩, fun i m σ H ⟨h, e⟩ => ?_⟩
  by_cases c : i < x.length
  · refine .inr ⟨c, P (i + 1), fun σ' H' q => ⟨m - 1, by omega, q, by omega⟩, fun v H' ⟨e1, d, e2, e3⟩ => ?_⟩
    subst e1 e3
    exact hs i d σ H' (by rw [Array.getElem?_toList]; exact e2) h
  · have : i = x.length := by omega
    subst this
    exact .inl ⟨Nat.le_refl _, he σ H h⟩
theorem SqL.one {K : PySem.W.Frag} {H : Hp} {a : Addr} {xs ys : List V} (hk : K.lookup a = none) (h1 : SqL K H a xs) (h2 : SqL K H a ys) : xs = ys := by
  rcases h1 with h1 | ⟨o, _, _, e, _⟩
  · rcases h2 with h2 | ⟨o, _, _, e, _⟩
    · rcases h1 with h1 | ⟨o1, h1⟩ <;> rcases h2 with h2 | ⟨o2, h2⟩ <;> (rw [h1] at h2; first | (cases h2; rfl) | cases h2)
    · rw [hk] at e; cases e
  · rw [hk] at e; cases e
/-! a comprehension over a list that is tracked, over a range -/
def LcGo (J : It) (g : TG) (tt : TT) (te : TE) (vs : List Nat) (σ : L2.St) (Q : VK) (H1 : Hp) : Prop := ∀ D, H1 D = none → ∃ W : Nat → Nat → Hp → Prop, (∃ m, W 0 m (upd H1 D (.lst []))) ∧ ∀ i m H, W i m H →
  (J.stop i H ∧ Q (.ref D) H) ∨ (J.go i H ∧ ∃ Nx : Hp → Prop, (∀ H', Nx H' → ∃ m', m' < m ∧ W (i + 1) m' H') ∧ ∀ x H', J.yld i H x H' → g x (wipe σ vs) H' fun σ2 H2 => wipe σ2 vs = wipe σ vs ∧ tt σ2 H2 fun b H3 =>
    if b = true then te σ2 H3 fun y H4 => ∃ acc, H4 D = some (.lst acc) ∧ acc.length < sizeLine ∧ Nx (upd H4 D (.lst (acc ++ [y]))) else Nx H3)
theorem lc_go (wi : TI) (g : TG) (tt : TT) (te : TE) (vs : List Nat) (σ : L2.St) (H : Hp) (Q : VK) : tLc wi g tt te vs σ H Q = wi σ H fun J H1 => LcGo J g tt te vs σ Q H1 := rfl
theorem wipe_one {σ : L2.St} {ix : Nat} {x : V} : wipe ((wipe σ [ix]).set ix (some x)) [ix] = wipe σ [ix] := by
  show ((σ.set ix none).set ix (some x)).set ix none = σ.set ix none
  rw [List.set_set, List.set_set]
/-- what a comprehension's turn leaves -/
def Lp (D : Addr) (P : Addr → Nat → List V → Hp → Prop) (i : Nat) (H : Hp) : Prop := ∃ acc, H D = some (.lst acc) ∧ acc.length ≤ i ∧ P D i acc H
theorem Lp.put {D : Addr} {P : Addr → Nat → List V → Hp → Prop} {i : Nat} {H : Hp} {acc : List V} {y : V} (hA : H D = some (.lst acc)) (hl : acc.length ≤ i) (hi : i < 16777215) (h : P D (i + 1) (acc ++ [y]) (upd H D (.lst (acc ++ [y])))) :
    ∃ acc', H D = some (.lst acc') ∧ acc'.length < sizeLine ∧ Lp D P (i + 1) (upd H D (.lst (acc' ++ [y]))) := by
  have sl : sizeLine = 16777216 := sizeLine_eq
  exact ⟨acc, hA, by omega, acc ++ [y], upd_same, by rw [List.length_append]; exact Nat.succ_le_succ hl, h⟩
theorem Lp.skip {D : Addr} {P : Addr → Nat → List V → Hp → Prop} {i : Nat} {H : Hp} {acc : List V} (hA : H D = some (.lst acc)) (hl : acc.length ≤ i) (h : P D (i + 1) acc H) : Lp D P (i + 1) H := ⟨acc, hA, Nat.le_succ_of_le hl, h⟩
theorem lc_rng {n ix : Nat} {lo : Int} {tt : TT} {te : TE} {σ : L2.St} {H : Hp} {Q : VK} (P : Addr → Nat → List V → Hp → Prop) (h0 : ∀ D, H D = none → P D 0 [] (upd H D (.lst [])))
    (hs : ∀ D i acc H, i < n → H D = some (.lst acc) → acc.length ≤ i → P D i acc H → tt ((wipe σ [ix]).set ix (some (.int (lo + i)))) H fun b H3 => if b = true then
      te ((wipe σ [ix]).set ix (some (.int (lo + i)))) H3 fun y H4 => ∃ acc, H4 D = some (.lst acc) ∧ acc.length < sizeLine ∧ Lp D P (i + 1) (upd H4 D (.lst (acc ++ [y]))) else Lp D P (i + 1) H3)
    (he : ∀ D acc H, acc.length ≤ n → H D = some (.lst acc) → P D n acc H → Q (.ref D) H) : LcGo (Itr lo n) (gName ix) tt te [ix] σ Q H := by
  intro D hD
  refine ⟨fun i m H => i + m = n ∧ Lp D P i H, ⟨n, by omega, [], upd_same, Nat.le_refl _, h0 D hD⟩, fun i m H ⟨e, acc, hA, hl, h⟩ => ?_⟩
  by_cases c : i < n
  · refine .inr ⟨c, fun H' => Lp D P (i + 1) H', fun H' q => ⟨m - 1, by omega, by omega, q⟩, fun x H' ⟨e1, e2⟩ => ?_⟩
    subst e1 e2
    exact ⟨wipe_one, hs D i acc H' c hA hl h⟩
  · have : i = n := by omega
    subst this
    exact .inl ⟨Nat.le_refl _, he D acc H hl hA h⟩
theorem lc_list {K : PySem.W.Frag} {a : Addr} (xs : List V) {ix : Nat} {tt : TT} {te : TE} {σ : L2.St} {H : Hp} {Q : VK} (P : Addr → Nat → List V → Hp → Prop) (h0 : ∀ D, H D = none → P D 0 [] (upd H D (.lst [])))
    (hl : ∀ D i acc H, P D i acc H → SqL K H a xs)
    (hs : ∀ D i acc H x, xs[i]? = some x → H D = some (.lst acc) → acc.length ≤ i → P D i acc H → tt ((wipe σ [ix]).set ix (some x)) H fun b H3 => if b = true then
      te ((wipe σ [ix]).set ix (some x)) H3 fun y H4 => ∃ acc, H4 D = some (.lst acc) ∧ acc.length < sizeLine ∧ Lp D P (i + 1) (upd H4 D (.lst (acc ++ [y]))) else Lp D P (i + 1) H3)
    (he : ∀ D acc H, acc.length ≤ xs.length → H D = some (.lst acc) → P D xs.length acc H → Q (.ref D) H) : LcGo (Itl K a) (gName ix) tt te [ix] σ Q H := by
  intro D hD
  refine ⟨fun i m H => i + m = xs.length ∧ Lp D P i H, ⟨xs.length, by omega, [], upd_same, Nat.le_refl _, h0 D hD⟩, fun i m H ⟨e, acc, hA, hz, h⟩ => ?_⟩
  by_cases c : i < xs.length
  · refine .inr ⟨⟨xs, xs[i], hl D i acc H h, List.getElem?_eq_getElem c⟩, fun H' => Lp D P (i + 1) H', fun H' q => ⟨m - 1, by omega, by omega, q⟩, fun x H' ⟨e1, e2⟩ => ?_⟩
    subst e1
    exact ⟨wipe_one, hs D i acc H' x (e2 xs (hl D i acc H' h)) hA hz h⟩
  · have : i = xs.length := by omega
    subst this
    exact .inl ⟨⟨xs, hl D _ acc H h, Nat.le_refl _⟩, he D acc H hz hA h⟩
end G

set_option Elab.async false
set_option linter.all false
set_option maxRecDepth 100000
set_option maxHeartbeats 8000000
namespace G
open PySem PySem.Spec PyProof.Rows L2 LamX
/-! ## texts: signs, lengths, what repr prints -/
theorem app_cps (a b : Str) : (a ++ b).cps.toList = a.cps.toList ++ b.cps.toList := by
  show (a.cps ++ b.cps).toList = _
  rw [Array.toList_append]
theorem len_cps (a : Str) : a.cps.toList.length = a.length := by
  show a.cps.toList.length = a.cps.size
  rw [Array.length_toList]
/-- of zeros and ones alone -/
def BitS (x : Str) : Prop := ∀ c ∈ x.cps.toList, c = 48 ∨ c = 49
theorem BitS.app {a b : Str} (ha : BitS a) (hb : BitS b) : BitS (a ++ b) := fun c hc => by
  rw [app_cps] at hc
  exact (List.mem_append.mp hc).elim (ha c) (hb c)
theorem bits_0 : BitS "0" := by
  intro c hc
  have e : (("0" : Str)).cps.toList = [48] := by decide +kernel
  rw [e] at hc
  exact .inl (by simpa using hc)
theorem bits_1 : BitS "1" := by
  intro c hc
  have e : (("1" : Str)).cps.toList = [49] := by decide +kernel
  rw [e] at hc
  exact .inr (by simpa using hc)
theorem bits_e : BitS "" := by
  intro c hc
  have e : (("" : Str)).cps.toList = [] := by decide +kernel
  rw [e] at hc
  exact nomatch hc
theorem len_e : ((("" : String) : Str)).length = 0 := by decide +kernel
theorem len_0 : ((("0" : String) : Str)).length = 1 := by decide +kernel
theorem len_1 : ((("1" : String) : Str)).length = 1 := by decide +kernel
def dig (i : Int) : Str := Str.ofString (toString (i % 2))
theorem dig_or (i : Int) : dig i = "0" ∨ dig i = "1" := by
  unfold dig
  rcases Int.emod_two_eq i with h | h <;> rw [h]
  · exact .inl rfl
  · exact .inr rfl
theorem dig_bit (i : Int) : BitS (dig i) := by
  rcases dig_or i with h | h <;> rw [h]
  · exact bits_0
  · exact bits_1
theorem dig_len (i : Int) : (dig i).length = 1 := by
  rcases dig_or i with h | h <;> rw [h]
  · exact len_0
  · exact len_1
/-- so many of the lowest bits, ahead of a text -/
def tw : Nat → Int → Str → Str
  | 0, _, acc => acc
  | n + 1, i, acc => tw n (i / 2) (dig i ++ acc)
theorem tw_len : ∀ (n : Nat) (i : Int) (acc : Str), (tw n i acc).length = n + acc.length
  | 0, _, acc => (Nat.zero_add _).symm
  | n + 1, i, acc => by
    show (tw n (i / 2) (dig i ++ acc)).length = _
    rw [tw_len n, strLen_append, dig_len]
    omega
theorem tw_bit : ∀ (n : Nat) (i : Int) (acc : Str), BitS acc → BitS (tw n i acc)
  | 0, _, _, h => h
  | n + 1, i, acc, h => tw_bit n (i / 2) _ ((dig_bit i).app h)
theorem tw_low : ∀ (n : Nat) (i q : Int) (acc : Str), tw n (i + 2 ^ n * q) acc = tw n i acc
  | 0, _, _, _ => rfl
  | n + 1, i, q, acc => by
    show tw n ((i + 2 ^ (n + 1) * q) / 2) (dig (i + 2 ^ (n + 1) * q) ++ acc) = tw n (i / 2) (dig i ++ acc)
    have e : (2 : Int) ^ (n + 1) * q = 2 * (2 ^ n * q) := by rw [Int.pow_succ, Int.mul_comm (2 ^ n) 2, Int.mul_assoc]
    have e1 : (i + 2 ^ (n + 1) * q) % 2 = i % 2 := by rw [e]; omega
    have e2 : (i + 2 ^ (n + 1) * q) / 2 = i / 2 + 2 ^ n * q := by rw [e]; omega
    have e3 : dig (i + 2 ^ (n + 1) * q) = dig i := by unfold dig; rw [e1]
    rw [e2, e3, tw_low n]
theorem tw_step : ∀ (n : Nat) (i : Int) (acc : Str), 0 ≤ i → tw (n + 1) i acc = dig (i / 2 ^ n) ++ tw n i acc
  | 0, i, acc, _ => by
    show dig i ++ acc = dig (i / 2 ^ 0) ++ acc
    rw [Int.pow_zero, Int.ediv_one]
  | n + 1, i, acc, h => by
    show tw (n + 1) (i / 2) (dig i ++ acc) = dig (i / 2 ^ (n + 1)) ++ tw n (i / 2) (dig i ++ acc)
    rw [tw_step n (i / 2) _ (by omega)]
    have e : i / 2 / 2 ^ n = i / 2 ^ (n + 1) := by
      rw [Int.ediv_ediv_of_nonneg (by decide : (0 : Int) ≤ 2), Int.pow_succ, Int.mul_comm]
    rw [e]
/-! so many ones -/
theorem fold_rep (x : Array Nat) : ∀ (n : Nat) (acc : Array Nat), ((List.replicate n x).foldl (· ++ ·) acc).toList = acc.toList ++ (List.replicate n x.toList).flatten
  | 0, acc => by simp
  | n + 1, acc => by
    rw [List.replicate_succ, List.foldl_cons, fold_rep x n, List.replicate_succ, List.flatten_cons, Array.toList_append, List.append_assoc]
def ones (n : Nat) : Str := Txt.mul "1" (n : Int)
theorem ones_cps (n : Nat) : (ones n).cps.toList = List.replicate n 49 := by
  have e1 : (("1" : Str)).cps.toList = [49] := by decide +kernel
  unfold ones Txt.mul
  by_cases h : (n : Int) < 1
  · rw [if_pos h]
    have : n = 0 := by omega
    subst this
    rfl
  · rw [if_neg h]
    by_cases h2 : n = 1
    · subst h2
      have ec : (((1 : Nat) : Int) == 1 || (("1" : Str)).length == 0) = true := rfl
      rw [if_pos ec]
      exact e1
    · have e0 : ((n : Int) == 1 || (("1" : Str)).length == 0) = false := by
        rw [len_1, Bool.or_eq_false_iff]
        exact ⟨beq_false_of_ne (by omega), rfl⟩
      rw [e0, if_neg (by simp)]
      show ((List.replicate (n : Int).toNat ("1" : Str).cps).foldl (· ++ ·) #[]).toList = _
      rw [fold_rep, e1]
      simp
theorem ones_len (n : Nat) : (ones n).length = n := by rw [← len_cps, ones_cps, List.length_replicate]
theorem ones_bit (n : Nat) : BitS (ones n) := fun c hc => by
  rw [ones_cps] at hc
  exact .inr (List.eq_of_mem_replicate hc)
theorem mul_ok1 {n : Nat} (h : n ≤ 1000000) : MulOk "1" (n : Int) := by
  refine ⟨?_, fun _ _ => ?_, fun _ _ => ?_⟩
  · rw [Bool.or_eq_false_iff]
    exact ⟨decide_eq_false (by omega), decide_eq_false (by omega)⟩
  · rw [len_1]
    have h1 : ¬ (n : Int) < 1 := by assumption
    have : (1 : Int) ≤ (2 ^ 63 - 1) / (n : Int) := by
      rw [Int.le_ediv_iff_mul_le (by omega)]
      omega
    omega
  · rw [len_1]
    exact decide_eq_false (by rw [sizeLine_eq]; omega)
/-! what repr prints is short -/
theorem textFrom_le : ∀ (ts : List Str) (k : Nat) (acc : Str), (textFrom k acc ts).length ≤ acc.length + piled ts
  | [], k, acc => Nat.le_add_right _ _
  | t :: r, k, acc => by
    have ih := textFrom_le r (k + 1) (acc ++ (if k > 0 then ", " else "" : String) ++ t)
    have e : (acc ++ (if k > 0 then ", " else "" : String) ++ t).length = acc.length + (if k > 0 then 2 else 0) + t.length := by
      rw [strLen_append, strLen_append]
      split <;> rfl
    rw [e] at ih
    show (textFrom (k + 1) (acc ++ (if k > 0 then ", " else "" : String) ++ t) r).length ≤ _
    have p : piled (t :: r) = t.length + 2 + piled r := rfl
    rw [p]
    have : (if k > 0 then 2 else 0 : Nat) ≤ 2 := by split <;> omega
    omega
theorem listText_le (ts : List Str) : (listText ts).length ≤ piled ts + 2 := by
  unfold listText
  have h := textFrom_le ts 0 "["
  have e1 : ((("[" : String) : Str)).length = 1 := by decide +kernel
  have e2 : ((("]" : String) : Str)).length = 1 := by decide +kernel
  rw [strLen_append, e2]
  rw [e1] at h
  omega
theorem int_shown_le {i : Int} (h : i.natAbs < 10 ^ 20) : (Str.ofString (toString i)).length ≤ 21 := by
  rw [PySem.ofString_length]
  exact int_text_length_le10 (k := 20) (by decide) h
theorem bit_shown_le {x : Str} (h : BitS x) : (reprText x).length ≤ 10 * x.length + 2 := PySem.StrLaws.reprText_len x fun c hc => by
  rcases h c hc with e | e <;> rw [e] <;> decide
/-! ## strip -/
theorem take_all {p : Nat → Bool} : ∀ {l : List Nat}, (∀ c ∈ l, p c = true) → l.takeWhile p = l
  | [], _ => rfl
  | c :: r, h => by
    rw [List.takeWhile_cons, if_pos (h c List.mem_cons_self), take_all fun d hd => h d (List.mem_cons_of_mem _ hd)]
theorem take_lt {p : Nat → Bool} {c : Nat} (hp : p c = false) : ∀ {l : List Nat}, c ∈ l → (l.takeWhile p).length < l.length
  | d :: r, h => by
    rw [List.takeWhile_cons]
    by_cases q : p d = true
    · rw [if_pos q, List.length_cons, List.length_cons]
      rcases List.mem_cons.mp h with e | h
      · rw [← e, hp] at q
        cases q
      · exact Nat.succ_lt_succ (take_lt hp h)
    · rw [if_neg q]
      exact Nat.succ_pos _
theorem mem_drop {p : Nat → Bool} {c : Nat} (hp : p c = false) : ∀ {l : List Nat}, c ∈ l → c ∈ l.drop (l.takeWhile p).length
  | d :: r, h => by
    rw [List.takeWhile_cons]
    by_cases q : p d = true
    · rw [if_pos q, List.length_cons, List.drop_succ_cons]
      rcases List.mem_cons.mp h with e | h
      · rw [← e, hp] at q
        cases q
      · exact mem_drop hp h
    · rw [if_neg q]
      exact h
theorem strip_all {x y : Str} (h : ∀ c ∈ x.cps.toList, y.cps.contains c = true) : Txt.stripChars x y = "" := by
  have e0 : (("" : Str)) = ⟨#[]⟩ := by decide +kernel
  have lo : stripLo y.cps.contains true x = x.length := by
    unfold stripLo
    rw [if_pos rfl]
    have : x.cps.toList.takeWhile y.cps.contains = x.cps.toList := take_all h
    rw [this, len_cps]
  unfold Txt.stripChars Txt.stripBy
  by_cases hx : x.length = 0
  · have ex : x = ⟨#[]⟩ := by
      cases x with
      | mk c =>
        have : c.size = 0 := hx
        rw [Array.eq_empty_of_size_eq_zero this]
    have ee : stripped y.cps.contains true true x = "" := by
      rw [e0, ex]
      unfold stripped Builtin.Str.strSub
      simp
    by_cases c : stripSame y.cps.contains true true x = true
    · rw [if_pos c, ex, e0]
    · rw [if_neg c, ee]
  · have hs : stripSame y.cps.contains true true x = false := by
      unfold stripSame
      rw [lo]
      rw [Bool.and_eq_false_iff]
      exact .inl (beq_false_of_ne hx)
    rw [hs, if_neg (by simp), e0]
    unfold stripped Builtin.Str.strSub
    rw [lo]
    refine congrArg Str.mk (Array.eq_empty_of_size_eq_zero ?_)
    rw [Array.size_extract]
    have q : x.cps.size = x.length := rfl
    rw [q]
    omega
/-- a sign of another kind stays -/
theorem strip_some {x y : Str} {c : Nat} (hc : c ∈ x.cps.toList) (h : y.cps.contains c = false) : Txt.stripChars x y ≠ "" := by
  intro e
  have e0 : (("" : Str)).length = 0 := len_e
  have hx : 0 < x.length := by
    rw [← len_cps]
    exact List.length_pos_of_mem hc
  unfold Txt.stripChars Txt.stripBy at e
  by_cases s : stripSame y.cps.contains true true x = true
  · rw [if_pos s] at e
    rw [e] at hx
    rw [e0] at hx
    omega
  · rw [if_neg s] at e
    have z := congrArg Str.length e
    rw [e0] at z
    unfold stripped Builtin.Str.strSub at z
    have m := mem_drop (p := y.cps.contains) h hc
    have lo : stripLo y.cps.contains true x = (x.cps.toList.takeWhile y.cps.contains).length := rfl
    rw [← lo] at m
    have t := take_lt (p := y.cps.contains) h (List.mem_reverse.mpr m)
    rw [List.length_reverse, List.length_drop, len_cps] at t
    have z2 : min (x.length - ((x.cps.toList.drop (stripLo y.cps.contains true x)).reverse.takeWhile y.cps.contains).length) x.length - stripLo y.cps.contains true x = 0 := by
      have q : (x.cps.extract (stripLo y.cps.contains true x) (stripHi y.cps.contains true x (stripLo y.cps.contains true x))).size = 0 := z
      rw [Array.size_extract] at q
      exact q
    omega
end G

set_option Elab.async false
set_option linter.all false
set_option maxRecDepth 100000
set_option maxHeartbeats 8000000
namespace G
open PySem PySem.Spec PyProof.Rows L2 LamX
/-! ## the laws' draws -/
abbrev kS (x : Str) : Key := .inr x
def dwL (La Ca : Addr) (left turn : Int) : List (Key × V) := [(kS "large", .ref La), (kS "cells", .ref Ca), (kS "left", .int left), (kS "turn", .int turn)]
theorem dw_large {La Ca : Addr} {l t : Int} : valV (dwL La Ca l t) (kS "large") = some (.ref La) := by rfl
theorem dw_cells {La Ca : Addr} {l t : Int} : valV (dwL La Ca l t) (kS "cells") = some (.ref Ca) := by rfl
theorem dw_left {La Ca : Addr} {l t : Int} : valV (dwL La Ca l t) (kS "left") = some (.int l) := by rfl
theorem dw_turn {La Ca : Addr} {l t : Int} : valV (dwL La Ca l t) (kS "turn") = some (.int t) := by rfl
theorem dw_left' {La Ca : Addr} {l t z : Int} : putK (dwL La Ca l t) (kS "left") (.int z) = dwL La Ca z t := by rfl
theorem dw_turn' {La Ca : Addr} {l t z : Int} : putK (dwL La Ca l t) (kS "turn") (.int z) = dwL La Ca l z := by rfl
theorem dw_new {La Ca : Addr} : mergeK [] [(kS "large", .ref La), (kS "cells", .ref Ca), (kS "left", .int 0), (kS "turn", .int 0)] = dwL La Ca 0 0 := by rfl

theorem sub_k {K : PySem.W.Frag} {H : Hp} {a : Addr} {kvs : List (Key × V)} {x : Str} {v : V} {Q : VK} (e : H a = some (.dK kvs)) (h : valV kvs (kS x) = some v) (q : Q v H) : G.rSub2 K (.ref a) (.str x) H Q :=
  .inr ⟨a, v, rfl, .inl ⟨kvs, kS x, .inl e, rfl, h.symm⟩, q⟩
theorem put_k {H : Hp} {a : Addr} {kvs : List (Key × V)} {x : Str} {v : V} {Q : Hp → Prop} (e : H a = some (.dK kvs)) (hl : kvs.length < sizeLine) (q : Q (upd H a (.dK (putK kvs (kS x) v)))) : G.rPut (.ref a) (.str x) v H Q :=
  .inr ⟨a, _, rfl, .inl ⟨kvs, kS x, e, rfl, hl, rfl⟩, q⟩
theorem eq_int {K : PySem.W.Frag} {H : Hp} {i j : Int} {Q : VK} (q : Q (.bl (decide (i = j))) H) : G.rCmp K .Eq (.int i) (.int j) H Q := .inl ⟨rfl, by
  have e : decide (V.int i = V.int j) = decide (i = j) := by rw [Bool.eq_iff_iff]; simp
  show Q (.bl (decide (V.int i = V.int j))) H
  rw [e]
  exact q⟩
theorem ne_str {K : PySem.W.Frag} {H : Hp} {i j : Str} {Q : VK} (q : Q (.bl (!decide (i = j))) H) : G.rCmp K .NotEq (.str i) (.str j) H Q := .inl ⟨rfl, by
  have e : decide (V.str i = V.str j) = decide (i = j) := by rw [Bool.eq_iff_iff]; simp
  show Q (.bl (!decide (V.str i = V.str j))) H
  rw [e]
  exact q⟩
theorem eq_str {K : PySem.W.Frag} {H : Hp} {i j : Str} {Q : VK} (q : Q (.bl (decide (i = j))) H) : G.rCmp K .Eq (.str i) (.str j) H Q := .inl ⟨rfl, by
  have e : decide (V.str i = V.str j) = decide (i = j) := by rw [Bool.eq_iff_iff]; simp
  show Q (.bl (decide (V.str i = V.str j))) H
  rw [e]
  exact q⟩
theorem dp_ints {K : PySem.W.Frag} {H : Hp} : ∀ zs : List Int, DpAll K H (zs.map V.int) (zs.map PyData.int)
  | [] => .nil
  | z :: r => .cons (.int z) (dp_ints r)
theorem lay_ints : ∀ zs : List Int, PyData.canLayAll0 (zs.map PyData.int) = true
  | [] => rfl
  | z :: r => by
    show (PyData.canLay0 (.int z) && PyData.canLayAll0 (r.map PyData.int)) = true
    rw [lay_ints r]
    rfl
theorem deep_ints : ∀ zs : List Int, PyData.depthAll (zs.map PyData.int) = 0
  | [] => rfl
  | z :: r => by
    show max 0 (PyData.depthAll (r.map PyData.int)) = 0
    rw [deep_ints r]
    rfl
theorem shaped_ints (zs : List Int) : SeqAt.shaped (.list (zs.map PyData.int)) = true := by
  show (PyData.canLayAll0 (zs.map PyData.int) && decide (PyData.depthAll (zs.map PyData.int) + 1 ≤ 64)) = true
  rw [lay_ints, deep_ints]
  rfl
/-- a list of ints != [] -/
theorem ne_nil {K : PySem.W.Frag} {H : Hp} {a b : Addr} {zs : List Int} {Q : VK} (ha : SqL K H a (zs.map V.int)) (hb : H b = some (.lst [])) (q : Q (.bl (!zs.isEmpty)) H) : G.rCmp K .NotEq (.ref a) (.ref b) H Q := by
  refine .inr ⟨_, .list [], .lst ha (dp_ints zs), .lst (.inl (.inl hb)) .nil, shaped_ints zs, rfl, ?_⟩
  have e : PyData.eqv (.list (zs.map PyData.int)) (.list []) = zs.isEmpty := by cases zs <;> rfl
  rw [e]
  exact q
theorem ix_ok {K : PySem.W.Frag} {H : Hp} {a : Addr} {xs : List V} {i : Int} {v : V} {Q : VK} (ha : SqL K H a xs) (h0 : 0 ≤ i) (h : xs[i.toNat]? = some v) (q : Q v H) : G.rSub2 K (.ref a) (.int i) H Q := by
  refine .inl (.inl ⟨a, xs, i, v, rfl, rfl, ha, ?_, q⟩)
  obtain ⟨hl, _⟩ := List.getElem?_eq_some_iff.mp h
  unfold atI ixN
  rw [if_pos h0, if_pos (by omega)]
  exact h

/-- what a draw leaves alone -/
def Dr (st La : Addr) (H H' : Hp) : Prop := ∀ b o, H b = some o → b ≠ st → b ≠ La → H' b = some o
theorem Dr.refl (st La : Addr) (H : Hp) : Dr st La H H := fun _ _ h _ _ => h
theorem Dr.trans {st La : Addr} {H H1 H2 : Hp} (a : Dr st La H H1) (b : Dr st La H1 H2) : Dr st La H H2 := fun c o h n m => b c o (a c o h n m) n m
theorem Dr.new {st La p : Addr} {H H1 : Hp} {o : HO} (a : Dr st La H H1) (n : H1 p = none) : Dr st La H (upd H1 p o) := fun c o h n1 m => by
  have q := a c o h n1 m
  rw [upd_ne (ne_of_none q n)]
  exact q
theorem Dr.put {st La : Addr} {H H1 : Hp} {o : HO} (a : Dr st La H H1) : Dr st La H (upd H1 st o) := fun c o h n1 m => by
  rw [upd_ne n1]
  exact a c o h n1 m
theorem Dr.pop {st La : Addr} {H H1 : Hp} {o : HO} (a : Dr st La H H1) : Dr st La H (upd H1 La o) := fun c o h n1 m => by
  rw [upd_ne m]
  exact a c o h n1 m
/-- the state, in full -/
structure DrwF (st La Ca : Addr) (cs : List Int) (H : Hp) (ls : List Int) (left turn : Int) : Prop where
  st : H st = some (.dK (dwL La Ca left turn))
  la : H La = some (.lst (ls.map V.int))
  ca : H Ca = some (.lst (cs.map V.int))
  ne : La ≠ Ca
  l0 : 0 ≤ left
  ls0 : ∀ z ∈ ls, 0 ≤ z
  lsl : ls.length ≤ 1000000
  csl : cs.length ≤ 1000000
  t0 : 0 ≤ turn
section
variable {st La Ca p : Addr} {cs ls : List Int} {H : Hp} {left turn : Int} {o : HO}
theorem DrwF.n1 (d : DrwF st La Ca cs H ls left turn) : st ≠ La := fun e => by
  have z := d.st
  rw [e, d.la] at z
  cases z
theorem DrwF.n2 (d : DrwF st La Ca cs H ls left turn) : st ≠ Ca := fun e => by
  have z := d.st
  rw [e, d.ca] at z
  cases z
theorem DrwF.new (d : DrwF st La Ca cs H ls left turn) (n : H p = none) : DrwF st La Ca cs (upd H p o) ls left turn :=
  { d with
    st := by rw [upd_ne (ne_of_none d.st n)]; exact d.st
    la := by rw [upd_ne (ne_of_none d.la n)]; exact d.la
    ca := by rw [upd_ne (ne_of_none d.ca n)]; exact d.ca }
theorem DrwF.setl {z : Int} (d : DrwF st La Ca cs H ls left turn) (hz : 0 ≤ z) : DrwF st La Ca cs (upd H st (.dK (putK (dwL La Ca left turn) (kS "left") (.int z)))) ls z turn :=
  { d with
    st := by rw [upd_same, dw_left']
    la := by rw [upd_ne (Ne.symm d.n1)]; exact d.la
    ca := by rw [upd_ne (Ne.symm d.n2)]; exact d.ca
    l0 := hz }
theorem DrwF.sett {z : Int} (d : DrwF st La Ca cs H ls left turn) (hz : 0 ≤ z) : DrwF st La Ca cs (upd H st (.dK (putK (dwL La Ca left turn) (kS "turn") (.int z)))) ls left z :=
  { d with
    st := by rw [upd_same, dw_turn']
    la := by rw [upd_ne (Ne.symm d.n1)]; exact d.la
    ca := by rw [upd_ne (Ne.symm d.n2)]; exact d.ca
    t0 := hz }
theorem DrwF.pop {z : Int} (d : DrwF st La Ca cs H (z :: ls) left turn) : DrwF st La Ca cs (upd H La (.lst (ls.map V.int))) ls left turn :=
  { d with
    st := by rw [upd_ne d.n1]; exact d.st
    la := upd_same
    ca := by rw [upd_ne (Ne.symm d.ne)]; exact d.ca
    ls0 := fun x hx => d.ls0 x (List.mem_cons_of_mem _ hx)
    lsl := by have := d.lsl; rw [List.length_cons] at this; omega }
end
/-- the state: at most t turns behind it -/
def Drw (st La Ca : Addr) (H : Hp) (t : Int) : Prop := ∃ cs ls left turn, DrwF st La Ca cs H ls left turn ∧ turn ≤ t
theorem Drw.new {st La Ca p : Addr} {H : Hp} {t : Int} {o : HO} (d : Drw st La Ca H t) (n : H p = none) : Drw st La Ca (upd H p o) t := by
  obtain ⟨cs, ls, left, turn, d, h⟩ := d
  exact ⟨cs, ls, left, turn, d.new n, h⟩
theorem Drw.mono {st La Ca : Addr} {H : Hp} {t u : Int} (d : Drw st La Ca H t) (h : t ≤ u) : Drw st La Ca H u := by
  obtain ⟨cs, ls, left, turn, d, h1⟩ := d
  exact ⟨cs, ls, left, turn, d, Int.le_trans h1 h⟩
def spDraw : SpG := fun _ vs zs H Q _ => ∃ st La Ca n t, vs ++ zs = [.ref st, .int n] ∧ 0 < n ∧ n ≤ 2 ^ 29 ∧ t ≤ 2 ^ 40 ∧ Drw st La Ca H t ∧ ∀ r H', 0 ≤ r → r < n → Drw st La Ca H' (t + 1) → Dr st La H H' → Q (.int r) H'
def rdDraw1 (K : PySem.W.Frag) : TS := (tWhile (tAnd (tTest (tOp (G.rCmp K .Eq) (tOp (G.rSub2 K) (tVar 0) (tC (.str "left"))) (tC (.int 0)))) (tTest (tOp (G.rCmp K .NotEq) (tOp (G.rSub2 K) (tVar 0) (tC (.str "large"))) (tLst tNil))))
  (tAsg (tBM K "list" rPopAt (tOp (G.rSub2 K) (tVar 0) (tC (.str "large"))) (tCons (tC (.int 0)) tNil)) (gSub (tVar 0) (tC (.str "left")) G.rPut)))
def rdDraw2 (K : PySem.W.Frag) : TS :=
  (tSeq (tIfS (tTest (tOp (G.rCmp K .Gt) (tOp (G.rSub2 K) (tVar 0) (tC (.str "left"))) (tC (.int 0))))
  (tSeq (tAsg (tOp (G.rBin K .Mod) (tCB G.rInt1 (tCons (tOp (G.rSub2 K) (tVar 0) (tC (.str "left"))) tNil)) (tVar 1)) (gName 2))
  (tSeq (tAsg (tOp (G.rBin K .FloorDiv) (tOp (G.rSub2 K) (tVar 0) (tC (.str "left"))) (tVar 1)) (gSub (tVar 0) (tC (.str "left")) G.rPut))
  (tRet (tVar 2))))
  tNext)
  (tSeq (tAsg (tOp (G.rBin K .Add) (tOp (G.rSub2 K) (tVar 0) (tC (.str "turn"))) (tC (.int 1))) (gName 3))
  (tSeq (tAsg (tVar 3) (gSub (tVar 0) (tC (.str "turn")) G.rPut))
  (tSeq (tAsg (tIf (tTest (tOp (G.rCmp K .NotEq) (tOp (G.rSub2 K) (tVar 0) (tC (.str "cells"))) (tLst tNil))) (tOp (G.rSub2 K) (tOp (G.rSub2 K) (tVar 0) (tC (.str "cells"))) (tOp (G.rBin K .Mod) (tCB G.rInt1 (tCons (tVar 3) tNil)) (tCB (G.rLen K) (tCons (tOp (G.rSub2 K) (tVar 0) (tC (.str "cells"))) tNil)))) (tC (.int 0))) (gName 4))
  (tSeq (tAsg (tOp (G.rBin K .Mod) (tCB G.rInt1 (tCons (tOp (G.rBin K .Pow) (tOp (G.rBin K .Add) (tOp (G.rBin K .Add) (tOp (G.rBin K .Mod) (tCB G.rInt1 (tCons (tVar 4) tNil)) (tC (.int 2147483563))) (tOp (G.rBin K .Mult) (tC (.int 40692)) (tVar 3))) (tC (.int 24681))) (tC (.int 3))) tNil)) (tC (.int 2147483629))) (gName 5))
  (tRet (tOp (G.rBin K .Mod) (tCB G.rInt1 (tCons (tOp (G.rBin K .FloorDiv) (tOp (G.rBin K .Mod) (tCB G.rInt1 (tCons (tOp (G.rBin K .Pow) (tOp (G.rBin K .Add) (tVar 5) (tOp (G.rBin K .Mult) (tC (.int 104917)) (tVar 3))) (tC (.int 5))) tNil)) (tC (.int 2147483579))) (tC (.int 29))) tNil)) (tVar 1))))))))
def rdDraw (K : PySem.W.Frag) : TS := tSeq (rdDraw1 K) (rdDraw2 K)

theorem gt_int {K : PySem.W.Frag} {H : Hp} {i j : Int} {Q : VK} (q : Q (.bl (decide (j < i))) H) : G.rCmp K .Gt (.int i) (.int j) H Q := q
theorem div_int {K : PySem.W.Frag} {H : Hp} {i j : Int} {Q : VK} (h0 : 0 < j) (h1 : j < 1073741824) (q : Q (.int (i / j)) H) : G.rBin K .FloorDiv (.int i) (.int j) H Q := ⟨.inl ⟨h0, h1⟩, q⟩
theorem mod_int {K : PySem.W.Frag} {H : Hp} {i j : Int} {Q : VK} (h0 : 0 < j) (q : Q (.int (i % j)) H) : G.rBin K .Mod (.int i) (.int j) H Q := ⟨h0, q⟩
theorem mul_int {K : PySem.W.Frag} {H : Hp} {i j : Int} {Q : VK} (h0 : -18446744073709551616 < i) (h1 : i < 18446744073709551616) (q : Q (.int (i * j)) H) : G.rBin K .Mult (.int i) (.int j) H Q := ⟨.inl (.inl ⟨by omega, by omega⟩), q⟩
theorem pow_int {K : PySem.W.Frag} {H : Hp} {i j : Int} {Q : VK} (h0 : 0 ≤ j) (h1 : j ≤ 1000000) (h2 : i.natAbs < 18446744073709551616) (q : Q (.int (i ^ j.toNat)) H) : G.rBin K .Pow (.int i) (.int j) H Q := ⟨⟨h0, h1, h2⟩, q⟩
theorem int_1 {H : Hp} {i : Int} {Q : VK} (q : Q (.int i) H) : G.rInt1 [.int i] H Q := q
theorem add_int {K : PySem.W.Frag} {H : Hp} {i j : Int} {Q : VK} (q : Q (.int (i + j)) H) : G.rBin K .Add (.int i) (.int j) H Q := q
theorem sub_int {K : PySem.W.Frag} {H : Hp} {i j : Int} {Q : VK} (q : Q (.int (i - j)) H) : G.rBin K .Sub (.int i) (.int j) H Q := q
theorem mix_ok {K : PySem.W.Frag} {H : Hp} {c u n : Int} {Q : VK} (n0 : 0 < n) (u0 : 0 ≤ u) (u1 : u < 2 ^ 41) (q : ∀ r, 0 ≤ r → r < n → Q (.int r) H) :
    G.rInt1 [V.int c] H fun x H1 => rBin K .Mod x (V.int 2147483563) H1 fun x H1 => rBin K .Mult (V.int 40692) (V.int u) H1 fun y H2 => rBin K .Add x y H2 fun x H1 => rBin K .Add x (V.int 24681) H1 fun x H1 =>
      rBin K .Pow x (V.int 3) H1 fun x H1 => G.rInt1 [x] H1 fun x H1 => rBin K .Mod x (V.int 2147483629) H1 fun x H1 => rBin K .Mult (V.int 104917) (V.int u) H1 fun y H2 => rBin K .Add x y H2 fun x H1 =>
      rBin K .Pow x (V.int 5) H1 fun x H1 => G.rInt1 [x] H1 fun x H1 => rBin K .Mod x (V.int 2147483579) H1 fun x H1 => rBin K .FloorDiv x (V.int 29) H1 fun x H1 => G.rInt1 [x] H1 fun x H1 => rBin K .Mod x (V.int n) H1 Q := by
  have h1 : 0 ≤ c % 2147483563 := Int.emod_nonneg _ (by decide)
  have h2 : c % 2147483563 < 2147483563 := Int.emod_lt_of_pos _ (by decide)
  refine int_1 (mod_int (by decide) (mul_int (by decide) (by decide) (add_int (add_int (pow_int (by decide) (by decide) (by omega) (int_1 (mod_int (by decide) (mul_int (by decide) (by decide) (add_int ?_)))))))))
  have h3 := Int.emod_nonneg ((c % 2147483563 + 40692 * u + 24681) ^ (3 : Int).toNat) (by decide : (2147483629 : Int) ≠ 0)
  have h4 := Int.emod_lt_of_pos ((c % 2147483563 + 40692 * u + 24681) ^ (3 : Int).toNat) (by decide : (0 : Int) < 2147483629)
  revert h3 h4
  generalize (c % 2147483563 + 40692 * u + 24681) ^ (3 : Int).toNat % 2147483629 = m
  intro h3 h4
  exact pow_int (by decide) (by decide) (by omega) (int_1 (mod_int (by decide) (div_int (by decide) (by decide) (int_1 (mod_int n0 (q _ (Int.emod_nonneg _ (by omega)) (Int.emod_lt_of_pos _ n0)))))))
theorem draw2_ok {K : PySem.W.Frag} {st La Ca : Addr} {n t : Int} {H H1 : Hp} {cs ls : List Int} {left turn : Int} {Q : VK} {nx : L2.St → Hp → Prop} (n0 : 0 < n) (n1 : n ≤ 2 ^ 29) (tl : t ≤ 2 ^ 40) (d : DrwF st La Ca cs H1 ls left turn) (ht : turn ≤ t)
    (fr : Dr st La H H1) (q : ∀ r H', 0 ≤ r → r < n → Drw st La Ca H' (t + 1) → Dr st La H H' → Q (.int r) H') :
    rdDraw2 K ⟨nx, Q, fun _ _ => False, fun _ _ => False⟩ [some (.ref st), some (.int n), none, none, none, none] H1 := by
  unfold rdDraw2
  simp only [tSeq, tWhile, tAnd, tTest, tOp, tVar, tC, tLst, tNil, tAsg, tBM, tCons, gSub, tIfS, tCB, gName, tRet, tNext, tIf, List.getElem?_cons_zero, List.getElem?_cons_succ, List.set_cons_zero, List.set_cons_succ, Option.some.injEq, exists_eq_left']
  have sl : sizeLine = 16777216 := sizeLine_eq
  have d4 : ∀ l t, (dwL La Ca l t).length < sizeLine := fun l t => by rw [sl]; show 4 < 16777216; decide
  refine sub_k d.st dw_left (gt_int ⟨_, rfl, ?_⟩)
  by_cases c : 0 < left
  · rw [if_pos (decide_eq_true c)]
    refine sub_k d.st dw_left (int_1 (mod_int n0 ?_))
    refine sub_k d.st dw_left (div_int n0 (by omega) ?_)
    refine put_k d.st (d4 _ _) ?_
    exact q _ _ (Int.emod_nonneg _ (by omega)) (Int.emod_lt_of_pos _ n0) ⟨cs, ls, _, turn, d.setl (Int.ediv_nonneg (by omega) (by omega)), by omega⟩ fr.put
  · rw [if_neg (by simpa using c)]
    refine sub_k d.st dw_turn ?_
    show G.rPut (.ref st) (.str "turn") (.int (turn + 1)) H1 _
    refine put_k d.st (d4 _ _) ?_
    have t0 := d.t0
    have d2 := d.sett (z := turn + 1) (by omega)
    have f2 : Dr st La H (upd H1 st (.dK (putK (dwL La Ca left turn) (kS "turn") (.int (turn + 1))))) := fr.put
    rw [dw_turn'] at d2 f2 ⊢
    refine sub_k d2.st dw_cells ⟨by rw [sl]; decide, fun p hp => ?_⟩
    have d3 := d2.new (o := .lst []) hp
    have f3 := f2.new (o := .lst []) hp
    refine ne_nil (.inl (.inl d3.ca)) upd_same ⟨_, rfl, ?_⟩
    have u1 : turn + 1 < 2 ^ 41 := by omega
    have fin : ∀ r, 0 ≤ r → r < n → Q (.int r) (upd (upd H1 st (.dK (dwL La Ca left (turn + 1)))) p (.lst [])) := fun r h0 h1 => q r _ h0 h1 ⟨cs, ls, left, turn + 1, d3, by omega⟩ f3
    cases cs with
    | nil =>
      rw [if_neg (by simp)]
      exact mix_ok (c := 0) n0 (by omega) u1 fin
    | cons z zs =>
      rw [if_pos (by simp)]
      refine sub_k d3.st dw_cells (int_1 (sub_k d3.st dw_cells (.inl ⟨_, (z :: zs).length, rfl, .inl ⟨_, .inl (.inl d3.ca), by rw [List.length_map]⟩, mod_int (by rw [List.length_cons]; omega) ?_⟩)))
      have hk : (0 : Int) ≤ (turn + 1) % ((z :: zs).length : Int) := Int.emod_nonneg _ (by rw [List.length_cons]; omega)
      have hk2 : (turn + 1) % ((z :: zs).length : Int) < ((z :: zs).length : Int) := Int.emod_lt_of_pos _ (by rw [List.length_cons]; omega)
      have hk3 : ((turn + 1) % ((z :: zs).length : Int)).toNat < (z :: zs).length := by omega
      refine ix_ok (.inl (.inl d3.ca)) hk (v := .int ((z :: zs)[((turn + 1) % ((z :: zs).length : Int)).toNat])) (by rw [List.getElem?_map, List.getElem?_eq_getElem hk3]; rfl) ?_
      exact mix_ok n0 (by omega) u1 fin
theorem draw_ok {K : PySem.W.Frag} {N : List Str} (hN : N.length = 6) {acts : Acts} {vs : List V} {H : Hp} {Q : VK} {E : XK} {nx : L2.St → Hp → Prop} (h : spDraw acts vs [] H Q E) :
    rdDraw K ⟨nx, Q, fun _ _ => False, fun _ _ => False⟩ (L2.start N vs) H := by
  obtain ⟨st, La, Ca, n, t, e, n0, n1, tl, ⟨cs, ls, left, turn, d, ht⟩, q⟩ := h
  rw [List.append_nil] at e
  subst e
  have eN : L2.start N [.ref st, .int n] = [some (.ref st), some (.int n), none, none, none, none] := by
    unfold L2.start
    rw [hN]
    rfl
  rw [eN]
  unfold rdDraw rdDraw1
  simp only [tSeq, tWhile, tAnd, tTest, tOp, tVar, tC, tLst, tNil, tAsg, tBM, tCons, gSub, tIfS, tCB, gName, tRet, tNext, tIf, List.getElem?_cons_zero, List.getElem?_cons_succ, Option.some.injEq, exists_eq_left']
  have sl : sizeLine = 16777216 := sizeLine_eq
  have d4 : ∀ l t, (dwL La Ca l t).length < sizeLine := fun l t => by rw [sl]; show 4 < 16777216; decide
  refine ⟨fun m σ H' => ∃ ls left, ls.length = m ∧ σ = [some (.ref st), some (.int n), none, none, none, none] ∧ DrwF st La Ca cs H' ls left turn ∧ Dr st La H H', ⟨_, ls, left, rfl, rfl, d, Dr.refl _ _ _⟩, ?_⟩
  rintro m σ H1 ⟨ls, left, rfl, rfl, d, fr⟩
  simp only [List.getElem?_cons_zero, List.getElem?_cons_succ, Option.some.injEq, exists_eq_left']
  refine sub_k d.st dw_left (eq_int ⟨_, rfl, ?_⟩)
  by_cases c : left = 0
  · rw [if_pos (decide_eq_true c)]
    refine sub_k d.st dw_large ⟨by rw [sl]; decide, fun p hp => ?_⟩
    have d2 := d.new (o := .lst []) hp
    have f2 := fr.new (o := .lst []) hp
    refine ne_nil (.inl (.inl d2.la)) upd_same ⟨_, rfl, ?_⟩
    cases ls with
    | nil =>
      rw [if_neg (by simp)]
      exact draw2_ok n0 n1 tl d2 ht f2 q
    | cons z ls =>
      rw [if_pos (by simp)]
      refine ⟨fun σ H' => ∃ left, σ = [some (.ref st), some (.int n), none, none, none, none] ∧ DrwF st La Ca cs H' ls left turn ∧ Dr st La H H', fun σ' H' ⟨l, h1, h2, h3⟩ => ⟨_, Nat.lt_succ_self _, ls, l, rfl, h1, h2, h3⟩, ?_⟩
      refine sub_k d2.st dw_large ⟨.inl ⟨rfl, _, .inl (.inl d2.la)⟩, La, _, 0, 0, .int z, rfl, rfl, d2.la, by decide, by decide, seqIndex_of (Int.le_refl 0) (by rw [List.length_map, List.length_cons]; omega), rfl, ?_⟩
      have d3 := d2.pop
      have f3 := f2.pop (o := .lst (ls.map V.int))
      refine put_k (kvs := dwL La Ca left turn) d3.st (d4 _ _) ⟨z, rfl, d3.setl (d2.ls0 z List.mem_cons_self), f3.put⟩
  · rw [if_neg (by simpa using c), if_neg (by simp)]
    exact draw2_ok n0 n1 tl d ht fr q
end G

set_option Elab.async false
set_option linter.all false
set_option maxRecDepth 100000
set_option maxHeartbeats 8000000
namespace G
open PySem PySem.Spec PyProof.Rows L2 LamX
/-! ## the laws' picks, their beginning, what they catch -/
def spPick : SpG := fun _ vs zs H Q _ => ∃ st La Ca t a xs, vs ++ zs = [.ref st, .ref a] ∧ t ≤ 2 ^ 40 ∧ Drw st La Ca H t ∧ a ≠ La ∧ H a = some (.lst xs) ∧ 0 < xs.length ∧ xs.length ≤ 1000000 ∧
  ∀ x H', x ∈ xs → Drw st La Ca H' (t + 1) → Dr st La H H' → Q x H'
def rdPick (K : PySem.W.Frag) (acts : Acts) (W : WX) : TS :=
  (tRet (tOp (G.rSub2 K) (tVar 1) (tFn spDraw (fun _ _ => acts) W (tCons (tVar 0) (tCons (tCB (G.rLen K) (tCons (tVar 1) tNil)) tNil)) tNil 2 0)))
theorem Drw.full {st La Ca : Addr} {H : Hp} {t : Int} (d : Drw st La Ca H t) : ∃ l u, H st = some (.dK (dwL La Ca l u)) := by
  obtain ⟨_, _, l, u, d, _⟩ := d
  exact ⟨l, u, d.st⟩
theorem pick_ok {K : PySem.W.Frag} {N : List Str} (hN : N.length = 2) {acts acts' : Acts} {W : WX} {vs : List V} {H : Hp} {Q : VK} {E : XK} {nx : L2.St → Hp → Prop} (h : spPick acts vs [] H Q E) :
    rdPick K acts' W ⟨nx, Q, fun _ _ => False, fun _ _ => False⟩ (L2.start N vs) H := by
  obtain ⟨st, La, Ca, t, a, xs, e, tl, d, na, ha, l0, l1, q⟩ := h
  rw [List.append_nil] at e
  subst e
  have eN : L2.start N [.ref st, .ref a] = [some (.ref st), some (.ref a)] := by
    unfold L2.start
    rw [hN]
    rfl
  rw [eN]
  unfold rdPick
  simp only [tOp, tVar, tNil, tCons, tCB, tRet, tFn, List.getElem?_cons_zero, List.getElem?_cons_succ, Option.some.injEq, exists_eq_left']
  refine .inl ⟨_, xs.length, rfl, .inl ⟨_, .inl (.inl ha), rfl⟩, rfl, rfl, ?_⟩
  refine ⟨st, La, Ca, xs.length, t, rfl, by omega, by omega, tl, d, fun r H' h0 h1 d' f' => ?_⟩
  have ns : a ≠ st := fun e => by
    obtain ⟨l, u, z⟩ := d.full
    rw [← e, ha] at z
    cases z
  have h2 : r.toNat < xs.length := by omega
  refine ix_ok (.inl (.inl (f' a _ ha ns na))) h0 (List.getElem?_eq_getElem h2) (q _ _ (List.getElem_mem h2) d' f')
/-! ### the beginning -/
def spBegun (K : PySem.W.Frag) : SpG := fun _ vs us H Q _ => ∃ (a : Addr) (zs : List Int), vs ++ us = [.ref a] ∧ SqL K H a (zs.map V.int) ∧ zs.length ≤ 1000000 ∧
  ∀ st La Ca H', H st = none → H La = none → Same H H' → Drw st La Ca H' 0 → Q (.ref st) H'
def rdBegun (K : PySem.W.Frag) : TS :=
  (tSeq (tAsg (tLc (iSeq K (tVar 0)) (gName 2) tYes (tCB G.rAbs1 (tCons (tVar 2) tNil)) [2]) (gName 1))
  (tSeq (tAsg (tLc (iSeq K (tVar 1)) (gName 2) (tTest (tOp (G.rCmp K .GtE) (tVar 2) (tOp (G.rBin K .Pow) (tC (.int 10)) (tC (.int 18))))) (tOp (G.rBin K .Sub) (tVar 2) (tOp (G.rBin K .Pow) (tC (.int 10)) (tC (.int 18)))) [2]) (gName 3))
  (tRet (tDisp [((tC (.str "large")), (tVar 3)), ((tC (.str "cells")), (tVar 1)), ((tC (.str "left")), (tC (.int 0))), ((tC (.str "turn")), (tC (.int 0)))]))))
theorem sql_same {K : PySem.W.Frag} {H H' : Hp} {a : Addr} {xs : List V} (h : SqL K H a xs) (e : Same H H') : SqL K H' a xs := by
  rcases h with (h | ⟨o, h⟩) | h
  · exact .inl (.inl (e _ _ h))
  · exact .inl (.inr ⟨o, e _ _ h⟩)
  · exact .inr h
theorem same_new {H H' : Hp} {p : Addr} {o : HO} (e : Same H H') (n : H p = none) : Same H (upd H' p o) := fun b u h => by
  rw [upd_ne (ne_of_none h n)]
  exact e b u h
theorem ge_int {K : PySem.W.Frag} {H : Hp} {i j : Int} {Q : VK} (q : Q (.bl (decide (j ≤ i))) H) : G.rCmp K .GtE (.int i) (.int j) H Q := q
theorem begun_ok {K : PySem.W.Frag} {N : List Str} (hN : N.length = 4) {acts : Acts} {vs : List V} {H : Hp} {Q : VK} {E : XK} {nx : L2.St → Hp → Prop} (h : spBegun K acts vs [] H Q E) :
    rdBegun K ⟨nx, Q, fun _ _ => False, fun _ _ => False⟩ (L2.start N vs) H := by
  obtain ⟨a, zs, e, ha, hl, q⟩ := h
  rw [List.append_nil] at e
  subst e
  have eN : L2.start N [.ref a] = [some (.ref a), none, none, none] := by
    unfold L2.start
    rw [hN]
    rfl
  rw [eN]
  unfold rdBegun
  simp only [tSeq, tAsg, lc_go, iSeq, iList, tVar, tC, gName, tRet, List.getElem?_cons_zero, List.getElem?_cons_succ, List.set_cons_zero, List.set_cons_succ, Option.some.injEq, exists_eq_left']
  refine .inl ⟨a, rfl, ⟨_, ha⟩, ?_⟩
  refine lc_list (zs.map V.int) (fun D i acc H' => H D = none ∧ Same H H' ∧ ∃ cs : List Int, acc = cs.map V.int ∧ ∀ z ∈ cs, 0 ≤ z) (fun D hD => ⟨hD, same_new (Same.refl H) hD, [], rfl, fun z hz => nomatch hz⟩) (fun D i acc H' h => sql_same ha h.2.1) ?_ ?_
  · rintro D i acc H' x hx hA hz ⟨hD, hS, cs, rfl, h0⟩
    rw [List.getElem?_map] at hx
    obtain ⟨z, hz2, rfl⟩ := Option.map_eq_some_iff.mp hx
    have hi : i < zs.length := (List.getElem?_eq_some_iff.mp hz2).1
    show tCB G.rAbs1 (tCons (tVar 2) tNil) [some (.ref a), none, some (.int z), none] H' _
    simp only [tCB, tCons, tVar, tNil, List.getElem?_cons_zero, List.getElem?_cons_succ, Option.some.injEq, exists_eq_left']
    refine Lp.put hA hz (by omega) ⟨hD, same_new hS hD, cs ++ [_], by rw [List.map_append]; rfl, fun w hw => ?_⟩
    rcases List.mem_append.mp hw with h | h
    · exact h0 w h
    · rw [List.mem_singleton.mp h]
      split <;> omega
  · rintro Ca acc H1 hl2 hA ⟨hD, hS, cs, rfl, h0⟩
    rw [List.length_map, List.length_map] at hl2
    refine .inl ⟨Ca, rfl, ⟨_, .inl (.inl hA)⟩, ?_⟩
    refine lc_list (cs.map V.int) (fun D i acc H' => H1 D = none ∧ Same H1 H' ∧ ∃ ls : List Int, acc = ls.map V.int ∧ ∀ z ∈ ls, 0 ≤ z) (fun D hD => ⟨hD, same_new (Same.refl H1) hD, [], rfl, fun z hz => nomatch hz⟩) (fun D i acc H' h => .inl (.inl (h.2.1 _ _ hA))) ?_ ?_
    · rintro D i acc H' x hx hB hz ⟨hD, hS, ls, rfl, h0⟩
      rw [List.getElem?_map] at hx
      obtain ⟨z, hz2, rfl⟩ := Option.map_eq_some_iff.mp hx
      have hi : i < cs.length := (List.getElem?_eq_some_iff.mp hz2).1
      show tTest (tOp (G.rCmp K .GtE) (tVar 2) (tOp (G.rBin K .Pow) (tC (.int 10)) (tC (.int 18)))) [some (.ref a), some (.ref Ca), some (.int z), none] H' _
      simp only [tTest, tOp, tVar, tC, List.getElem?_cons_zero, List.getElem?_cons_succ, Option.some.injEq, exists_eq_left']
      refine pow_int (by decide) (by decide) (by decide) (ge_int ⟨_, rfl, ?_⟩)
      by_cases c : (10 : Int) ^ (18 : Int).toNat ≤ z
      · rw [if_pos (decide_eq_true c)]
        show tOp (G.rBin K .Sub) (tVar 2) (tOp (G.rBin K .Pow) (tC (.int 10)) (tC (.int 18))) [some (.ref a), some (.ref Ca), some (.int z), none] H' _
        simp only [tTest, tOp, tVar, tC, List.getElem?_cons_zero, List.getElem?_cons_succ, Option.some.injEq, exists_eq_left']
        refine pow_int (by decide) (by decide) (by decide) (sub_int ?_)
        refine Lp.put hB hz (by omega) ⟨hD, same_new hS hD, ls ++ [_], by rw [List.map_append]; rfl, fun w hw => ?_⟩
        rcases List.mem_append.mp hw with h | h
        · exact h0 w h
        · rw [List.mem_singleton.mp h]
          omega
      · rw [if_neg (by simpa using c)]
        exact Lp.skip hB hz ⟨hD, hS, ls, rfl, h0⟩
    · rintro La acc H2 hl3 hB ⟨hD2, hS2, ls, rfl, h02⟩
      rw [List.length_map, List.length_map] at hl3
      have hC := hS2 _ _ hA
      have sl : sizeLine = 16777216 := sizeLine_eq
      intro st hst
      show tPairs _ _ _ _
      simp only [tPairs, tC, tVar, List.getElem?_cons_zero, List.getElem?_cons_succ, List.set_cons_zero, List.set_cons_succ, Option.some.injEq, exists_eq_left']
      refine ⟨upd_same, [(kS "large", .ref La), (kS "cells", .ref Ca), (kS "left", .int 0), (kS "turn", .int 0)], rfl, Nat.le_of_ble_eq_true rfl, ?_⟩
      have nLa : La ≠ st := ne_of_none hB hst
      have nCa : Ca ≠ st := ne_of_none hC hst
      have nLC : La ≠ Ca := fun e => by rw [e, hA] at hD2; cases hD2
      have n0 : ∀ b, H2 b = none → H b = none := fun b n => by
        cases z : H b with
        | none => rfl
        | some o => rw [hS2 _ _ (hS _ _ z)] at n; cases n
      rw [dw_new, upd_upd]
      refine q st La Ca _ (n0 st hst) ?_ (same_new (hS.trans hS2) (n0 st hst)) ⟨cs, ls, 0, 0, ?_, Int.le_refl 0⟩
      · cases z : H La with
        | none => rfl
        | some o => rw [hS _ _ z] at hD2; cases hD2
      · exact ⟨upd_same, by rw [upd_ne nLa]; exact hB, by rw [upd_ne nCa]; exact hC, nLC, Int.le_refl 0, h02, by omega, by omega, Int.le_refl 0⟩
/-! ### what is caught -/
def spCaught (K : PySem.W.Frag) : SpG := fun acts vs zs H Q E => ∃ (f : Addr) (tl : TL), vs ++ zs = [.ref f] ∧ acts f tl ∧
  tl (fun cls d H' => ∃ b, PySem.W.exmOne K cls (.ref (He.ga K "ReelError")) = some b ∧ (b = true → ∀ a, H' a = none → Q (.ref a) (upd H' a (ExT cls d a))) ∧ (b = false → E cls d H')) H fun _ H' => Q .non H'
def rdCaught (K : PySem.W.Frag) (acts : Acts) (W : WX) : TS :=
  (tSeq (tAsg (tC .non) (gName 1))
  (tSeq (fun D σ H => (tDrop (tThunk 0 acts (wKeep K (.ref (He.ga K "ReelError")) 2 (tAsg (tVar 2) (gName 1)) W D))) D σ H)
  (tRet (tVar 1))))
theorem caught_ok {K : PySem.W.Frag} {N : List Str} (hN : N.length = 3) {acts : Acts} {vs : List V} {H : Hp} {Q : VK} {E : XK} {nx : L2.St → Hp → Prop} (h : spCaught K acts vs [] H Q E) :
    rdCaught K (fun g tl => true = true ∧ acts g tl) (fun cls d _ H' => E cls d H') ⟨nx, Q, fun _ _ => False, fun _ _ => False⟩ (L2.start N vs) H := by
  obtain ⟨f, tl, e, ha, ht⟩ := h
  rw [List.append_nil] at e
  subst e
  have eN : L2.start N [.ref f] = [some (.ref f), none, none] := by
    unfold L2.start
    rw [hN]
    rfl
  rw [eN]
  unfold rdCaught
  simp only [tSeq, tAsg, tC, tDrop, tThunk, wKeep, tVar, gName, tRet, List.getElem?_cons_zero, List.getElem?_cons_succ, List.set_cons_zero, List.set_cons_succ, Option.some.injEq, exists_eq_left']
  refine ⟨f, tl, rfl, ⟨trivial, ha⟩, ?_⟩
  unfold WE wKeep
  simp only [tAsg, tVar, gName, tRet, List.getElem?_cons_zero, List.getElem?_cons_succ, List.set_cons_zero, List.set_cons_succ, Option.some.injEq, exists_eq_left']
  exact ht
/-! ### a pick from a list that was just made -/
theorem pick_new {st La Ca p : Addr} {H : Hp} {t : Int} {xs : List V} {acts : Acts} {Q : VK} {E : XK} (d : Drw st La Ca H t) (tl : t ≤ 2 ^ 40) (hp : H p = none) (l0 : 0 < xs.length) (l1 : xs.length ≤ 1000000)
    (q : ∀ x H', x ∈ xs → Drw st La Ca H' (t + 1) → Dr st La H H' → Q x H') : spPick acts [.ref st, .ref p] [] (upd H p (.lst xs)) Q E := by
  refine ⟨st, La, Ca, t, p, xs, rfl, tl, d.new hp, fun e => ?_, upd_same, l0, l1, fun x H' hx d' f' => q x H' hx d' (((Dr.refl st La H).new hp).trans f')⟩
  obtain ⟨_, _, _, _, z, _⟩ := d
  rw [e, z.la] at hp
  cases hp
/-! ### what a law's lambdas leave alone: all but the state, its list, the tables -/
def DrN (st La : Addr) (H H' : Hp) : Prop := ∀ b o, H b = some o → b ≠ st → b ≠ La → (∀ ps, o ≠ .tbl ps) → H' b = some o
theorem DrN.refl (st La : Addr) (H : Hp) : DrN st La H H := fun _ _ h _ _ _ => h
theorem DrN.trans {st La : Addr} {H H1 H2 : Hp} (a : DrN st La H H1) (b : DrN st La H1 H2) : DrN st La H H2 := fun c o h n m k => b c o (a c o h n m k) n m k
theorem Dr.n {st La : Addr} {H H' : Hp} (a : Dr st La H H') : DrN st La H H' := fun b o h n m _ => a b o h n m
theorem ext_n {st La : Addr} {H H' : Hp} (a : ExtN H H') : DrN st La H H' := fun b o h _ _ k => a b o h k
theorem DrN.new {st La p : Addr} {H H1 : Hp} {o : HO} (a : DrN st La H H1) (n : H1 p = none) : DrN st La H (upd H1 p o) := fun c u h n1 m k => by
  have q := a c u h n1 m k
  rw [upd_ne (ne_of_none q n)]
  exact q
section
variable {st La Ca a : Addr} {H H' : Hp} {t u : Int}
theorem Drw.la (d : Drw st La Ca H t) : ∃ xs, H La = some (.lst xs) := by
  obtain ⟨_, _, _, _, z, _⟩ := d
  exact ⟨_, z.la⟩
theorem Drw.keepT (d : Drw st La Ca H t) (n : DrN st La H H') {xs : List V} (h : H a = some (.tup xs)) : H' a = some (.tup xs) := by
  obtain ⟨l, v, z⟩ := d.full
  obtain ⟨ys, z2⟩ := d.la
  exact n a _ h (fun e => by rw [e, z] at h; cases h) (fun e => by rw [e, z2] at h; cases h) fun _ e => by cases e
theorem Drw.keepX (d : Drw st La Ca H t) (n : DrN st La H H') {φ : Heap → Prop} (h : H a = some (.ext φ)) : H' a = some (.ext φ) := by
  obtain ⟨l, v, z⟩ := d.full
  obtain ⟨ys, z2⟩ := d.la
  exact n a _ h (fun e => by rw [e, z] at h; cases h) (fun e => by rw [e, z2] at h; cases h) fun _ e => by cases e
theorem Drw.keepL (d : Drw st La Ca H t) (n : DrN st La H H') {xs : List V} (ha : a ≠ La) (h : H a = some (.lst xs)) : H' a = some (.lst xs) := by
  obtain ⟨l, v, z⟩ := d.full
  exact n a _ h (fun e => by rw [e, z] at h; cases h) ha fun _ e => by cases e
theorem Drw.ext (d : Drw st La Ca H t) (n : ExtN H H') : Drw st La Ca H' t := by
  obtain ⟨cs, ls, l, v, z, h⟩ := d
  exact ⟨cs, ls, l, v, { z with st := n _ _ z.st (fun _ e => by cases e), la := n _ _ z.la (fun _ e => by cases e), ca := n _ _ z.ca (fun _ e => by cases e) }, h⟩
theorem tabs_new {T : List (Addr × Str)} {p : Addr} {o : HO} (h : Tabs T H) (n : H p = none) : Tabs T (upd H p o) := fun q hq => (h q hq).ext fun b u e => by
  rw [upd_ne (ne_of_none e n)]
  exact e
theorem tabs_dr {T : List (Addr × Str)} (h : Tabs T H) (d : Drw st La Ca H t) (n : Dr st La H H') : Tabs T H' := fun q hq => by
  obtain ⟨ps, h1, h2, h3⟩ := h q hq
  obtain ⟨l, v, z⟩ := d.full
  obtain ⟨ys, z2⟩ := d.la
  refine ⟨ps, n _ _ h1 (fun e => by rw [e, z] at h1; cases h1) (fun e => by rw [e, z2] at h1; cases h1), h2, fun pos cv hc => ?_⟩
  obtain ⟨c, e1, e2⟩ := h3 pos cv hc
  exact ⟨c, e1, d.keepX n.n e2⟩
end
/-! ### what is caught of a lambda -/
/-- how an error that leaves the lambda ends: kept, if it is the package's -/
def ErrK (K : PySem.W.Frag) (Q : VK) (E : XK) : XK := fun cls d H' => ∃ b, PySem.W.exmOne K cls (.ref (He.ga K "ReelError")) = some b ∧ (b = true → ∀ a, H' a = none → Q (.ref a) (upd H' a (ExT cls d a))) ∧ (b = false → E cls d H')
/-- a call that is handed a lambda: kept folded -/
def tLamFn (S : SpG) (acts : L2.St → Hp → Acts) (W : WX) (t tk : TA) (n m : Nat) : TE := tFn S acts W t tk n m
def tCaught (K : PySem.W.Frag) (acts : L2.St → Hp → Acts) (W : WX) (t : TE) : TE := tFn (spCaught K) acts W (tCons t tNil) tNil 1 0
theorem caught_lam {K : PySem.W.Frag} {n : Nat} {Γ : Gam} {sc scope : Scope} {body : Expr} {σ : L2.St} {H : Hp} {Q : VK} {W : WX} {lm : WX → TE} (hP : Γ.P.isSome = true) (L : lamSB sc scope = true) (hq : ∀ W', wE K n Γ.low scope W' body = lm W')
    (hT : Tabs Γ.T H) (go : ∀ H2, ExtN H H2 → Tabs Γ.T H2 → lm (fun cls d _ H' => ErrK K Q (WE W σ) cls d H') σ H2 fun _ H' => Q .non H') :
    tCaught K (actsAt Γ sc fun s W b => wE K n Γ.low s W b) W (tLamV Γ.qual Γ.cells Γ.T body scope) σ H Q := by
  refine ⟨hT, fun f c' o H1 hE hT1 nf hL hc => ?_⟩
  refine ⟨rfl, rfl, f, fun E H' Q' => H' c' = some (CodeO c' (Γ.qual ++ "<lambda>")) ∧ wE K n Γ.low scope (fun cls d _ H'' => E cls d H'') body σ H' Q', rfl, ?_, ?_⟩
  · unfold actsAt
    cases e : Γ.P with
    | none => rw [e] at hP; cases hP
    | some p => exact .inr ⟨o, body, scope, c', hP, L, upd_same, hL, rfl⟩
  · refine ⟨by rw [upd_ne (ne_of_none hc nf)]; exact hc, ?_⟩
    rw [hq]
    exact go _ (fun b u e k => by
      have z := hE b u e k
      rw [upd_ne (ne_of_none z nf)]
      exact z) (tabs_new hT1 nf)
end G

set_option Elab.async false
set_option linter.all false
set_option maxRecDepth 100000
set_option maxHeartbeats 8000000
namespace G
open PySem PySem.Spec PyProof.Rows L2 LamX
/-! ## defs put together -/
section
variable {P : Program} {w : World} {K : PySem.W.Frag} {mg : Str → Option Value} {base : Heap}
theorem binds_k {x qual : Str} {params : Arguments} {body : List Stmt} {scope : Scope} {f : Addr} {fd : FuncData} {ps : List Str} {n : Nat} {ks : List Str} {ix : List Nat} (F : FunD K x qual params body scope [] [] f fd)
    (h : ∀ (kV doc pm : Value) (an : Option Addr) (cdv ct : Value) (us ws : List Value), us.length = n → ws.length = ks.length →
      bindArgs (PySem.W.fnOf x qual params body scope .none kV doc pm an cdv ct) ⟨us, ks.zip ws⟩ = pure (ps.zip (pick (us ++ ws) ix))) (s : Shared) (us ws : List Value) (l1 : us.length = n) (l2 : ws.length = ks.length) :
    BindsTo s fd ⟨us, ks.zip ws⟩ (ps.zip (pick (us ++ ws) ix)) := by
  obtain ⟨oc, od, dV, kV, doc, pm, an, cdv, ct, osl, rfl, lk, hcd, hD, hK⟩ := F.ex
  rcases hD with ⟨_, rfl⟩ | ⟨e, _⟩
  · exact .of_eq (h kV doc pm an cdv ct us ws l1 l2)
  · exact absurd rfl e
theorem mk_fn {x : Str} {params : Arguments} {body : List Stmt} {scope : Scope} {f : Addr} {fd : FuncData} {N ps : List Str} {n : Nat} {ks : List Str} {ix : List Nat} {k : Nat} {S' : SpG} (S : Acts → List V → Hp → VK → XK → Prop)
    (F : FunD K x x params body scope [] [] f fd) (gx : mg x = some (.ref f)) (Sc : FnScope N ps scope)
    (hb : ∀ (kV doc pm : Value) (an : Option Addr) (cdv ct : Value) (us ws : List Value), us.length = n → ws.length = ks.length →
      bindArgs (PySem.W.fnOf x x params body scope .none kV doc pm an cdv ct) ⟨us, ks.zip ws⟩ = pure (ps.zip (pick (us ++ ws) ix)))
    (m : Md) (hm : MdOk P K mg m) (hkm : m.exa = [] ∨ 1 ≤ k) (fl : List FnE) (hfl : ∀ e ∈ fl, FnEOk P w K mg base k e) (ta : Bool) (hta : ta = true → lamRoom ≤ k) (T : List (Addr × Str)) (pt : Option Addr) (hP : ∀ p, pt = some p → TabOk K mg base f (x ++ ".<locals>.") T p)
    (t : List (Str × Addr) → Acts → XK → TS) (eq : ∀ (cells : List (Str × Addr)) (acts : Acts) (E : XK), wSL (wS K 40 (gam m N fl (fun g tl => ta = true ∧ acts g tl) (x ++ ".<locals>.") cells T pt) scope (fun cls d _ H' => E cls d H')) body = t cells acts E)
    (ok : ∀ (cells : List (Str × Addr)) (acts : Acts) (vs : List V) (H : Hp) (Q : VK) (E : XK), S acts vs H Q E → vs.length = ps.length ∧ t cells acts E ⟨fun _ H' => Q .non H', Q, fun _ _ => False, fun _ _ => False⟩ (L2.start N vs) H)
    (hi : ∀ acts vs zs H Q E, vs.length = n → zs.length = ks.length → S' acts vs zs H Q E → S acts (pick (vs ++ zs) ix) H Q E) : FnEOk P w K mg base (k + 1) ⟨x, n, ks, k + 1, S'⟩ := by
  refine ⟨Nat.le_refl _, f, gx, F.kp, ?_⟩
  refine FnS.imp (fn_rule (ix := ix) (S := S) F Sc (fun s us ws l1 l2 => binds_k F hb s us ws l1 l2) m hm hkm fl hfl ta hta T pt hP 40 fun cells acts vs H Q E h => ?_) hi
  have z := ok cells acts vs H Q E h
  refine ⟨z.1, ?_⟩
  rw [eq cells acts E]
  exact z.2
end
/-! ## an exception class's facts, as a Bool -/
/-- where a def's lambdas are kept, by the head's facts -/
theorem tab_ok {K : PySem.W.Frag} {mg : Str → Option Value} {base : Heap} {x qual : Str} {params : Arguments} {body : List Stmt} {scope : Scope} {dvs : List V} {kws : List (Str × V)} {q : Str × Option Str} {fd : FuncData} {T : List (Addr × Str)} {lq : Str}
    (F : FunD K x qual params body scope dvs kws (He.fAd K q) fd) (tb : TabB base mg (He.cT K q).1 (He.cT K q).2) (hT : ((He.cT K q).2, lq ++ "<lambda>") ∈ T) (hu : ∀ r ∈ T, r.1 = (He.cT K q).2 → r.2 = lq ++ "<lambda>") : TabOk K mg base (He.fAd K q) lq T (He.cT K q).2 := by
  obtain ⟨oc, od, dV, kV, doc, pm, an, cdv, ct, osl, rfl, lk, hcd, hD, hK⟩ := F.ex
  obtain ⟨c, rfl⟩ := He.codeIn_ref hcd
  have e : He.codeOf K q = c := He.codeOf_eq lk rfl
  refine ⟨c, fun oc' od' fd' sl' lk' => ?_, ?_, hT, hu⟩
  · rw [lk] at lk'
    cases lk'
    rfl
  · have e2 : (He.cT K q).1 = c := e
    rw [e2] at tb
    exact tb
theorem hi_draw {acts : Acts} {vs zs : List V} {H : Hp} {Q : VK} {E : XK} (h : spDraw acts vs zs H Q E) : spDraw acts (pick (vs ++ zs) [0, 1]) [] H Q E := by
  obtain ⟨st, La, Ca, n, t, e, r⟩ := h
  exact ⟨st, La, Ca, n, t, by rw [e]; rfl, r⟩
theorem hi_pick {acts : Acts} {vs zs : List V} {H : Hp} {Q : VK} {E : XK} (h : spPick acts vs zs H Q E) : spPick acts (pick (vs ++ zs) [0, 1]) [] H Q E := by
  obtain ⟨st, La, Ca, t, a, xs, e, r⟩ := h
  exact ⟨st, La, Ca, t, a, xs, by rw [e]; rfl, r⟩
theorem hi_begun {K : PySem.W.Frag} {acts : Acts} {vs zs : List V} {H : Hp} {Q : VK} {E : XK} (h : spBegun K acts vs zs H Q E) : spBegun K acts (pick (vs ++ zs) [0]) [] H Q E := by
  obtain ⟨a, ys, e, r⟩ := h
  exact ⟨a, ys, by rw [e]; rfl, r⟩
theorem hi_caught {K : PySem.W.Frag} {acts : Acts} {vs zs : List V} {H : Hp} {Q : VK} {E : XK} (h : spCaught K acts vs zs H Q E) : spCaught K acts (pick (vs ++ zs) [0]) [] H Q E := by
  obtain ⟨f, tl, e, r⟩ := h
  exact ⟨f, tl, by rw [e]; rfl, r⟩
theorem ln_draw {acts : Acts} {vs : List V} {H : Hp} {Q : VK} {E : XK} (h : spDraw acts vs [] H Q E) : vs.length = 2 := by
  obtain ⟨st, La, Ca, n, t, e, r⟩ := h
  rw [List.append_nil] at e
  rw [e]
  rfl
theorem ln_pick {acts : Acts} {vs : List V} {H : Hp} {Q : VK} {E : XK} (h : spPick acts vs [] H Q E) : vs.length = 2 := by
  obtain ⟨st, La, Ca, t, a, xs, e, r⟩ := h
  rw [List.append_nil] at e
  rw [e]
  rfl
theorem ln_begun {K : PySem.W.Frag} {acts : Acts} {vs : List V} {H : Hp} {Q : VK} {E : XK} (h : spBegun K acts vs [] H Q E) : vs.length = 1 := by
  obtain ⟨a, ys, e, r⟩ := h
  rw [List.append_nil] at e
  rw [e]
  rfl
theorem ln_caught {K : PySem.W.Frag} {acts : Acts} {vs : List V} {H : Hp} {Q : VK} {E : XK} (h : spCaught K acts vs [] H Q E) : vs.length = 1 := by
  obtain ⟨f, tl, e, r⟩ := h
  rw [List.append_nil] at e
  rw [e]
  rfl
end G

set_option Elab.async false
set_option linter.all false
set_option maxRecDepth 100000
set_option maxHeartbeats 8000000
namespace G
open PySem PySem.Spec PyProof.Rows L2 LamX
/-! ## the head: closures' cells too, error classes with an __init__ -/
/-- what the text says of the __init__ -/
structure IniS (P : Program) (d : IniD) : Prop where
  top : (P.main.scope.names.lookup ("super" : Str)).isSome = false
  sh : ∃ (txt : Str) (a1 a2 : Arg) (p0 p1 p2 p3 p4 p5 p6 p7 p8 p9 : Pos) (j : Nat), d.params = iniArgs d.fld a1 a2 ∧ d.body = iniBody d.fld txt p0 p1 p2 p3 p4 p5 p6 p7 p8 p9 j ∧ a1.arg = "self" ∧ a2.arg = d.fld ∧ (p2.endLine == p4.line) = true ∧
    ∀ (kV doc pm cda ct : Value) (an : Option Addr) (cc : Addr) (u v : Value), bindArgs (PySem.W.ksFn "__init__" d.qual d.params d.body d.scope .none kV doc pm an cda ct cc) ⟨[u, v], []⟩ = pure [(("self" : Str), u), (d.fld, v)]
  ncell : ∀ y ∈ d.scope.names, y.2 ≠ .cell
  nco : d.scope.isCoroutine = false
  ngen : d.scope.isGenerator = false
  kind : d.scope.kind = .function
  s1 : d.scope.names.lookup ("super" : Str) = some .globalImplicit
  s2 : d.scope.names.lookup ("__class__" : Str) = some .free
  s3 : d.scope.names.lookup ("self" : Str) = some .local
  s4 : d.scope.names.lookup d.fld = some .local
  hd : (d.fld == ("__debug__" : Str)) = false
  hs : d.fld ≠ "self"
theorem ini_ok {K : PySem.W.Frag} {P : Program} {d : IniD} (S : IniS P d) (e : iniO K d.x = d.val) (h : iniB K P d = true) : IniF K P (He.ga K d.x) d.fld := by
  unfold iniB at h
  obtain ⟨h1, h⟩ := He.ba h
  obtain ⟨h2, h⟩ := He.ba h
  obtain ⟨h3, h⟩ := He.ba h
  obtain ⟨h4, h⟩ := He.ba h
  obtain ⟨h5, h⟩ := He.ba h
  obtain ⟨h6, h⟩ := He.ba h
  obtain ⟨h7, h⟩ := He.ba h
  obtain ⟨h8, h⟩ := He.ba h
  obtain ⟨h9, h⟩ := He.ba h
  obtain ⟨h10, h⟩ := He.ba h
  obtain ⟨h11, h⟩ := He.ba h
  obtain ⟨h12, h⟩ := He.ba h
  obtain ⟨h13, h⟩ := He.ba h
  refine ⟨⟨oexB_ok h1, He.eqO_ok h2, of_decide_eq_true h3, of_decide_eq_true h4, h5⟩, He.eqO_ok h6, of_decide_eq_true h7, He.eqO_ok h8, of_decide_eq_true h9, He.eqO_ok h10, He.eqO_ok h11, S.top, ?_⟩
  unfold iniO at e
  split at h
  · rename_i oc od fd sl lk
    rw [lk] at e
    obtain ⟨n1, n2, n3, n4, n5, n6, n7, n8, n9, n10, n11, n12, n13, n14, n15⟩ := fd
    have e2 : (some (n1, n2, n3, n4, n5, n6, n7.map (·.1), n15) : IniW) = some (("__init__" : Str), d.qual, d.params, FuncBody.stmts d.body, d.scope, mainGlobals, [("__class__" : Str)], builtinsNs) := e
    simp only [Option.some.injEq, Prod.mk.injEq] at e2
    obtain ⟨q1, q2, q3, q4, q5, q6, q7, q8⟩ := e2
    unfold fdB at h
    obtain ⟨g1, h⟩ := He.ba h
    obtain ⟨g2, h⟩ := He.ba h
    obtain ⟨g3, g4⟩ := He.ba h
    dsimp only at g1 g2 g3 g4
    have z2 := of_decide_eq_true g2
    subst z2
    obtain ⟨cda, rfl⟩ := He.codeIn_ref g1
    obtain ⟨ccl, cdd, vs, ccs, file, tf, lc, hv, hf⟩ := fileB_ok g3
    match n7, q7, g4 with
    | [(y, cc)], q7, g4 =>
      obtain ⟨cl, cld, csl, lcc⟩ := cellB_ok g4
      have y1 : y = ("__class__" : Str) := List.head_eq_of_cons_eq q7
      subst y1 q1 q2 q3 q4 q5 q6 q8
      obtain ⟨txt, a1, a2, p0, p1, p2, p3, p4, p5, p6, p7, p8, p9, j, w1, w2, w3, w4, w5, w6⟩ := S.sh
      refine ⟨He.fAd K (d.x, some "__init__"), cda, cc, oc, ccl, cl, od, cdd, cld, sl, ccs, csl, d.qual, txt, n9, n10, n11, n14, n12, a1, a2, d.scope, p0, p1, p2, p3, p4, p5, p6, p7, p8, p9, j, vs, file, tf, He.eqO_ok h12, of_decide_eq_true h13, ?_, g1, w3, w4, S.ncell, S.nco, S.ngen, S.kind, S.s1, S.s2, S.s3, S.s4, lc, hv, hf, lcc, fun _ _ => rfl, S.hd, S.hs, w5, fun u v => ?_⟩
      · rw [lk, w1, w2]
      · rw [← w1, ← w2]
        exact w6 n9 n10 n11 (.ref cda) n14 n12 cc u v
  · cases h
/-! ### the hook -/
theorem frT_as {as : List Addr} {h : Heap} : (He.frT h.get? as).In h := fun _ _ e => (He.frT_mem e).1
structure SaysY (fa : List He.Fa) (fn : List He.DefD) (ts : List He.Tab) (tf : List He.Defn) (ini : List IniD) (ex : PySem.W.Frag → Bool) (w : World) (h : Heap) (K : PySem.W.Frag) : Prop where
  x : He.SaysX fa fn ts tf ex w h K
  i : ini.map (fun d => iniO K d.x) = ini.map IniD.val
abbrev AlY : Type := He.AlX × List IniW
def obsY (n : Nat) (fa : List He.Fa) (fn : List He.DefD) (ts : List He.Tab) (tf : List He.Defn) (ini : List IniD) (ex : PySem.W.Frag → Bool) (g : Addr → Option Obj) : AlY :=
  ((He.obsT fa fn ts (He.frT g (asY g n)), ex (He.frT g (asY g n)) && He.tabsB g tf (He.frT g (asY g n))), ini.map fun d => iniO (He.frT g (asY g n)) d.x)
def valY (fn : List He.DefD) (ts : List He.Tab) (ini : List IniD) (w : World) : AlY := (He.valX fn ts w, ini.map IniD.val)
theorem saysY_of {n : Nat} {fa : List He.Fa} {fn : List He.DefD} {ts : List He.Tab} {tf : List He.Defn} {ini : List IniD} {ex : PySem.W.Frag → Bool} {w : World} {h : Heap} (e : obsY n fa fn ts tf ini ex h.get? = valY fn ts ini w) :
    SaysY fa fn ts tf ini ex w h (He.frT h.get? (asY h.get? n)) := by
  obtain ⟨K, eK⟩ : ∃ K, K = He.frT h.get? (asY h.get? n) := ⟨_, rfl⟩
  have e0 : ((He.obsT fa fn ts (He.frT h.get? (asY h.get? n)), ex (He.frT h.get? (asY h.get? n)) && He.tabsB h.get? tf (He.frT h.get? (asY h.get? n))), ini.map fun d => iniO (He.frT h.get? (asY h.get? n)) d.x) = ((He.valT fn ts w, true), ini.map IniD.val) := e
  rw [← eK] at e0 ⊢
  have e1 := congrArg (fun z : AlY => z.1.1) e0
  have e2 : (ex K && He.tabsB h.get? tf K) = true := congrArg (fun z : AlY => z.1.2) e0
  have e3 := congrArg (fun z : AlY => z.2) e0
  obtain ⟨h1, h2⟩ := He.ba e2
  have all : ∀ p ∈ tf, PySem.W.codeHdIn K (He.cT K p).1 (He.cT K p).2 = true ∧ ∃ o, h.get? (He.cT K p).2 = some o ∧ He.emptyTab o = true := fun p hp => by
    obtain ⟨a, b⟩ := He.ba (List.all_eq_true.mp h2 p hp)
    refine ⟨a, ?_⟩
    split at b
    · rename_i o q
      exact ⟨o, q, b⟩
    · cases b
  refine ⟨⟨e1, h1, fun p hp => (all p hp).1, fun p hp => ?_, fun p hp => ?_⟩, e3⟩
  · obtain ⟨_, o, q, z⟩ := all p hp
    have y := He.frT_none (as := asY h.get? n) q z
    rw [← eK] at y
    exact y
  · obtain ⟨_, o, q, z⟩ := all p hp
    rw [q, He.emptyTab_eq z]
def hookY (n : Nat) (fa : List He.Fa) (fn : List He.DefD) (ts : List He.Tab) (tf : List He.Defn) (ini : List IniD) (ex : PySem.W.Frag → Bool) : PySem.W.Hook where
  α := AlY
  obs := fun s => obsY n fa fn ts tf ini ex s.heap.get?
  val := fun w => valY fn ts ini w
  says := fun w h => ∃ K : PySem.W.Frag, K.In h ∧ SaysY fa fn ts tf ini ex w h K
  of := fun _ _ e => ⟨_, frT_as, saysY_of e⟩
  keeps := fun _ _ _ ⟨K, hK, c⟩ k => ⟨K, fun b o z => k b o (hK b o z), ⟨⟨c.x.t, c.x.more, c.x.hd, c.x.out, fun p hp => k _ _ (c.x.empty p hp)⟩, c.i⟩⟩
theorem obsY_eq {n : Nat} {fa : List He.Fa} {fn : List He.DefD} {ts : List He.Tab} {tf : List He.Defn} {ini : List IniD} {ex : PySem.W.Frag → Bool} {g : Addr → Option Obj} {s : Shared} (h : ∀ a, g a = s.heap.get? a) : obsY n fa fn ts tf ini ex g = (hookY n fa fn ts tf ini ex).obs s := by
  have e : g = s.heap.get? := funext h
  rw [e]
  rfl
theorem SaysY.ini {fa : List He.Fa} {fn : List He.DefD} {ts : List He.Tab} {tf : List He.Defn} {ini : List IniD} {ex : PySem.W.Frag → Bool} {w : World} {h : Heap} {K : PySem.W.Frag} {P : Program} (c : SaysY fa fn ts tf ini ex w h K) (i : Nat) {d : IniD} (e : ini[i]? = some d) (S : IniS P d) (b : iniB K P d = true) :
    IniF K P (He.ga K d.x) d.fld := by
  refine ini_ok S ?_ b
  have z : (ini.map fun d => iniO K d.x)[i]? = (ini.map IniD.val)[i]? := by rw [c.i]
  rw [List.getElem?_map, List.getElem?_map, e] at z
  exact Option.some.inj z
end G

set_option Elab.async false
set_option linter.all false
set_option maxRecDepth 100000
set_option maxHeartbeats 8000000
namespace G
open PySem PySem.Spec PyProof.Rows L2 LamX
/-! ## own classes: an instance made -/
section
variable {P : Program} {w : World} {K : PySem.W.Frag} {mg : Str → Option Value} {base : Heap} {A : Around} {outer : List Env} {s : Shared} {H : Hp}
abbrev madeH (h : Heap) (C : Addr) : Heap := (h.push PySem.W.emptyDict).push (PySem.W.instObj C h.objs.size)
abbrev madeT (h : Heap) (H : Hp) (C : Addr) : Hp := upd (upd H h.objs.size (.own (h.objs.size + 1))) (h.objs.size + 1) (.ins C h.objs.size [])
theorem made_kp {h : Heap} {C : Addr} : ∀ b u, h.get? b = some u → (madeH h C).get? b = some u := fun b u q => Heap.get?_push_of_some _ (Heap.get?_push_of_some _ q)
theorem made_sz {h : Heap} {C : Addr} : h.objs.size ≤ (madeH h C).objs.size := by
  rw [Heap.size_push, Heap.size_push]
  omega
theorem made_at {h : Heap} {H : Hp} {C b : Addr} (hb : b < h.objs.size) : madeT h H C b = H b := by
  unfold madeT
  have n1 : b ≠ h.objs.size := Nat.ne_of_lt hb
  have n2 : b ≠ h.objs.size + 1 := Nat.ne_of_lt (Nat.lt_succ_of_lt hb)
  rw [upd_ne n2, upd_ne n1]
theorem made_ok {h : Heap} {C : Addr} (x : HOk P w H h) : HOk P w (madeT h H C) (madeH h C) := by
  have e1 : (h.push PySem.W.emptyDict).get? h.objs.size = some PySem.W.emptyDict := Heap.get?_push_size h rfl
  have e2 : (madeH h C).get? (h.objs.size + 1) = some (PySem.W.instObj C h.objs.size) := by
    have := Heap.get?_push_size (h.push PySem.W.emptyDict) (o := PySem.W.instObj C h.objs.size) rfl
    rwa [Heap.size_push] at this
  have e3 : (h.push PySem.W.emptyDict).Ns h.objs.size (fun _ => none) := ⟨PySem.W.emptyDict, #[], _, e1, rfl, (fun e he => absurd he (by simp)), fun _ => rfl⟩
  have x1 : HOk P w (upd H h.objs.size (.own (h.objs.size + 1))) (h.push PySem.W.emptyDict) := x.laid (a := h.objs.size) (o := .own (h.objs.size + 1)) (fun b u q => Heap.get?_push_of_some _ q) (Nat.le_refl _) ⟨_, e1⟩
  refine x1.laid (a := h.objs.size + 1) (o := .ins C h.objs.size []) (fun b u q => Heap.get?_push_of_some _ q) (Nat.le_of_eq (Heap.size_push _ _)) ?_
  have ne : h.objs.size ≠ h.objs.size + 1 := Nat.ne_of_lt (Nat.lt_succ_self _)
  refine ⟨by rw [upd_ne ne, upd_same], Nat.zero_le _, ne, e2, fun _ => none, (Heap.Ns1.of_empty e3).at fun o q => Heap.get?_push_of_some _ q, fun _ => True.intro, fun y hy => absurd rfl hy⟩
theorem made_un {h : Heap} {C : Addr} {l : List Env} (x : HOk P w H h) : Un (frs l) [] H (madeT h H C) h (madeH h C) := by
  refine ⟨fun b o e _ _ _ => made_kp b o e, fun b o e _ _ _ => ⟨o.slots, made_kp b o e⟩, fun b o e n _ => by rw [made_at (Heap.lt_size e)]; exact n, fun b o e _ => ⟨o, made_kp b o e⟩, fun b xs e => ?_, fun b o u e => ?_, fun b ps e => ⟨#[], ?_⟩⟩
  all_goals
    have n1 : H h.objs.size = none := x.fresh (Nat.le_refl _)
    have n2 : H (h.objs.size + 1) = none := x.fresh (Nat.le_succ _)
    have b1 : b ≠ h.objs.size := ne_of_none e n1
    have b2 : b ≠ h.objs.size + 1 := ne_of_none e n2
    unfold madeT
    rw [upd_ne b2, upd_ne b1, e]
  simp
theorem made_env0 {C : Addr} {us : List Value} {kw : List (Str × Value)} (e : Env0 P w K mg base A outer s H) : Env0 P w K mg base (A.under (.builtin "type.__call__" ⟨.ref C :: us, kw⟩)) outer { s with heap := madeH s.heap C } (madeT s.heap H C) where
  frames := (e.make C us kw).frames
  mod := e.mod
  bs := fun b o q => by
    obtain ⟨h1, h2⟩ := e.bs b o q
    exact ⟨made_kp b o h1, by rw [made_at (Heap.lt_size h1)]; exact h2⟩
  bsz := Nat.le_trans e.bsz made_sz
  funs := PySem.Heap.FunFrames.of_keeps (fun b o q _ => ⟨o, made_kp b o q, rfl⟩) e.funs
  frf := fun b hb => by
    have n := e.frf b hb
    obtain ⟨_, o, q, _⟩ := e.funs.mem hb
    rw [made_at (Heap.lt_size q)]
    exact n
  hok := made_ok e.hok
  bare := e.bare
theorem ub_pre {fs : List Addr} {H1 H2 : Hp} {h h1 B h2 : Heap} (u : Un fs [] H H1 h h1) (k : ∀ b o, h.get? b = some o → h1.get? b = some o) (b : UB fs H1 H2 h1 B h2) : UB fs H H2 h B h2 where
  keep := fun c o q n hc => b.keep c o (k c o q) (u.free c o q n (by simp)) hc
  slot := fun c o q hc => b.slot c o (k c o q) hc
  free := fun c o q n => b.free c o (k c o q) (u.free c o q n (by simp))
  there := fun c o q hc => b.there c o (k c o q) hc
  tups := fun c xs q => b.tups c xs (u.tups c xs q)
  frzs := fun c o xs q => b.frzs c o xs (u.frzs c o xs q)
  tbls := fun c ps q => by
    obtain ⟨m1, e1⟩ := u.tbls c ps q
    obtain ⟨m2, e2⟩ := b.tbls c _ e1
    exact ⟨m1 ++ m2, by rw [e2, Array.append_assoc]⟩
/-- what a class's call wants: the new instance and its dict, then __init__ -/
def mkS (C : Addr) (S : SpG) : SpG := fun acts vs zs H Q E => ∀ x dx, H x = none → H dx = none → dx ≠ x → S acts (.ref x :: vs) zs (upd (upd H dx (.own x)) x (.ins C dx [])) (fun v H2 => v = .non ∧ Q (.ref x) H2) E
theorem cls_fn {k n : Nat} {ks : List Str} {C f : Addr} {S : SpG} (M : Mk K C f) (F : FnS P w K mg base k f (n + 1) ks S) : FnS P w K mg base (k + 1) C n ks (mkS C S) := by
  intro A outer s H us ws vs zs Q E acts hr e0 r rz l1 l2 ha hS
  have fr1 : H (s.heap.objs.size + 1) = none := e0.hok.fresh (Nat.le_succ _)
  have fr2 : H s.heap.objs.size = none := e0.hok.fresh (Nat.le_refl _)
  have hq := hS (s.heap.objs.size + 1) s.heap.objs.size fr1 fr2 (Nat.ne_of_lt (Nat.lt_succ_self _))
  have UN : Un (frs outer) [] H (madeT s.heap H C) s.heap (madeH s.heap C) := made_un e0.hok
  have KX : K.In s.heap := fun b o q => (e0.bs b o (e0.mod.kin b o q)).1
  refine make_map (f := f) KX M.makes M.init (beq_iff_eq.mp M.fn) ?_
  have run := F (A.under (.builtin "type.__call__" ⟨.ref C :: us, ks.zip ws⟩)) outer { s with heap := madeH s.heap C } (madeT s.heap H C) (.ref (s.heap.objs.size + 1) :: us) ws (.ref (s.heap.objs.size + 1) :: vs) zs _ E acts
    ⟨hr.r.make C us (ks.zip ws), hr.g⟩ (made_env0 e0) (.cons rfl r) rz (congrArg Nat.succ l1) l2 (fun g tl q => (ha g tl q).later UN (fun _ z => z) (fun b z n => absurd z n)) hq
  refine codeAny_mono run fun r s' hc => ?_
  cases r with
  | error er =>
    obtain ⟨a, B, H', cls, d, e1, e2, e3, e4, e5, e6, e7, e8⟩ := hc
    exact ⟨a, B, H', cls, d, e1, e2, e3, ub_pre UN made_kp e4, e5, e6, e7, e8⟩
  | ok fl =>
    cases fl with
    | ret u =>
      obtain ⟨v, H', e1, e2, e3, e4, e5, e6, e7⟩ := hc
      subst e6
      exact ⟨e5, .ref (s.heap.objs.size + 1), H', e1, e2, UN.trans e3, e4, rfl, e7⟩
    | next => exact hc.elim
    | brk => exact hc.elim
    | cont => exact hc.elim
theorem mk_cls {k n : Nat} {ks : List Str} {x : Str} {C f : Addr} {S : SpG} (M : Mk K C f) (hm : mg x = some (.ref C)) (F : FnS P w K mg base k f (n + 1) ks S) : FnEOk P w K mg base (k + 1) ⟨x, n, ks, k + 1, mkS C S⟩ :=
  ⟨Nat.le_refl _, C, hm, M.kp, cls_fn M F⟩
/-- a method of a class -/
theorem mk_mt {x qual : Str} {params : Arguments} {body : List Stmt} {scope : Scope} {f : Addr} {fd : FuncData} {N ps : List Str} {n : Nat} {ks : List Str} {ix : List Nat} {k : Nat} {S' : SpG} (S : Acts → List V → Hp → VK → XK → Prop)
    (F : FunD K x qual params body scope [] [] f fd) (Sc : FnScope N ps scope)
    (hb : ∀ (kV doc pm : Value) (an : Option Addr) (cdv ct : Value) (us ws : List Value), us.length = n → ws.length = ks.length →
      bindArgs (PySem.W.fnOf x qual params body scope .none kV doc pm an cdv ct) ⟨us, ks.zip ws⟩ = pure (ps.zip (pick (us ++ ws) ix)))
    (m : Md) (hm : MdOk P K mg m) (hkm : m.exa = [] ∨ 1 ≤ k) (fl : List FnE) (hfl : ∀ e ∈ fl, FnEOk P w K mg base k e) (ta : Bool) (hta : ta = true → lamRoom ≤ k) (T : List (Addr × Str)) (pt : Option Addr) (hP : ∀ p, pt = some p → TabOk K mg base f (qual ++ ".<locals>.") T p)
    (t : List (Str × Addr) → Acts → XK → TS) (eq : ∀ (cells : List (Str × Addr)) (acts : Acts) (E : XK), wSL (wS K 40 (gam m N fl (fun g tl => ta = true ∧ acts g tl) (qual ++ ".<locals>.") cells T pt) scope (fun cls d _ H' => E cls d H')) body = t cells acts E)
    (ok : ∀ (cells : List (Str × Addr)) (acts : Acts) (vs : List V) (H : Hp) (Q : VK) (E : XK), S acts vs H Q E → vs.length = ps.length ∧ t cells acts E ⟨fun _ H' => Q .non H', Q, fun _ _ => False, fun _ _ => False⟩ (L2.start N vs) H)
    (hi : ∀ acts vs zs H Q E, vs.length = n → zs.length = ks.length → S' acts vs zs H Q E → S acts (pick (vs ++ zs) ix) H Q E) : FnS P w K mg base (k + 1) f n ks S' := by
  refine FnS.imp (fn_rule (ix := ix) (S := S) F Sc (fun s us ws l1 l2 => binds_k F hb s us ws l1 l2) m hm hkm fl hfl ta hta T pt hP 40 fun cells acts vs H Q E h => ?_) hi
  have z := ok cells acts vs H Q E h
  refine ⟨z.1, ?_⟩
  rw [eq cells acts E]
  exact z.2
end
/-! ### what is asked of the class, as a Bool -/
def mkB (K : PySem.W.Frag) (C f : Addr) : Bool := PySem.W.makesIn K C && (He.eqO (PySem.W.findIn K (.ref C) "__init__") (some (some (.ref f))) && (PySem.W.isFn K (.ref f) && PySem.W.keepIn K (.ref C)))
theorem mkB_ok {K : PySem.W.Frag} {C f : Addr} (h : mkB K C f = true) : Mk K C f := by
  obtain ⟨h1, h⟩ := He.ba h
  obtain ⟨h2, h⟩ := He.ba h
  obtain ⟨h3, h4⟩ := He.ba h
  exact ⟨h1, He.eqO_ok h2, h3, h4⟩
def clsB (K : PySem.W.Frag) (C : Addr) : Bool := PySem.W.plainGet K C Str.empty && (PySem.W.hasDictIn K C && (PySem.W.plainOver K C && He.eqO (PySem.W.findIn K (.ref C) "__setattr__") (some (some (.builtin "object.__setattr__")))))
theorem clsB_ok {K : PySem.W.Frag} {C : Addr} (h : clsB K C = true) : Cls K C := by
  obtain ⟨h1, h⟩ := He.ba h
  obtain ⟨h2, h⟩ := He.ba h
  obtain ⟨h3, h4⟩ := He.ba h
  exact ⟨h1, h2, h3, He.eqO_ok h4⟩
/-- isinstance of an instance: what TyOf.ins asks -/
structure InsC (K : PySem.W.Frag) (C : Addr) : Prop where
  cl : Cls K C
  ha : PySem.W.findIn K (.ref C) "__class__" = some (some (.builtin "object.__class__"))
  hn : PySem.W.specialIn K (.builtin "object.__class__") "__get__" = some (some (.builtin "getset_descriptor.__get__"))
  ht : PySem.W.takesIn K (.builtin "object.__class__") = some true
  hm : PySem.W.mroIn K C (.type "object") = some true
  one : PySem.W.kitOne K (.ref C) (.ref C) = some true
def insB (K : PySem.W.Frag) (C : Addr) : Bool := clsB K C && (He.eqO (PySem.W.findIn K (.ref C) "__class__") (some (some (.builtin "object.__class__"))) &&
  (He.eqO (PySem.W.specialIn K (.builtin "object.__class__") "__get__") (some (some (.builtin "getset_descriptor.__get__"))) && (decide (PySem.W.takesIn K (.builtin "object.__class__") = some true) && (decide (PySem.W.mroIn K C (.type "object") = some true) &&
  decide (PySem.W.kitOne K (.ref C) (.ref C) = some true)))))
theorem insB_ok {K : PySem.W.Frag} {C : Addr} (h : insB K C = true) : InsC K C := by
  obtain ⟨h1, h⟩ := He.ba h
  obtain ⟨h2, h⟩ := He.ba h
  obtain ⟨h3, h⟩ := He.ba h
  obtain ⟨h4, h⟩ := He.ba h
  obtain ⟨h5, h6⟩ := He.ba h
  exact ⟨clsB_ok h1, He.eqO_ok h2, He.eqO_ok h3, of_decide_eq_true h4, of_decide_eq_true h5, of_decide_eq_true h6⟩
end G

set_option Elab.async false
set_option linter.all false
set_option maxRecDepth 100000
set_option maxHeartbeats 8000000
namespace PySem
namespace GK
/-! ### the call, with keywords too -/
section
variable {M : Model} {A : Around} {E : Value → Shared → Prop} {h : Heap} {g : Array GenState} {d : Drawn} {t : Nat} {os : OsState}
variable {nm q : Str} {C N : Addr} {bs bm bmB : List Value} {hdct : Bool} {sn : List Str} {sub : List Value} {ab : Bool} {col : Option Bool} {dd : Option Addr} {k0 k1 k2 k3 k5 : Option Value} {B newId initId : String}
theorem check_newK (F : ExcBaseFacts B newId initId bmB) (hT : ∀ X : String, bm.contains (.type X) = bmB.contains (.type X)) {fld : Str} {v : Value} {Q : Unit → Shared → Prop}
    (hC : h.get? C = some (excClassObj nm q C N bs bm hdct sn sub ab col dd k0 k1 k2 k3 k5 newId)) (hq : Q () ⟨h, g, d, t, os⟩) : wpAny M A (checkBuiltinCall newId ⟨[.ref C], [(fld, v)]⟩) Q E ⟨h, g, d, t, os⟩ := by
  have hcont : (Value.ref C :: bm).contains (.type B) = true := by rw [List.contains_cons, hT, F.hasB, Bool.or_true]
  have hstar := F.noStar
  simp only [checkBuiltinCall, F.newKind, F.newSplit, F.newRow]
  repeat (first | refine wpAny_loadPart_at hC ?_ | (refine wpAny_isSubtype_exc hC ?_; rw [hcont]) | refine wpAny_staticBase_exc hC ?_ | refine wpAny_madeBy_exc hC ?_ | simp only [bne_self_eq_false, Bool.false_eq_true, if_false] | wp_step)
  exact hq
theorem check_typeK {fld : Str} {v : Value} {Q : Unit → Shared → Prop} (hC : h.get? C = some (excClassObj nm q C N bs bm hdct sn sub ab col dd k0 k1 k2 k3 k5 newId))
    (hq : Q () ⟨h, g, d, t, os⟩) : wpAny M A (checkBuiltinCall "type.__call__" ⟨[.ref C], [(fld, v)]⟩) Q E ⟨h, g, d, t, os⟩ := by
  have f3 := tc_sub
  have hT : (⟨h, g, d, t, os⟩ : Shared).TypeIs (.ref C) "type" := ⟨_, hC, rfl⟩
  simp only [checkBuiltinCall, tc_kind, tc_split]
  repeat (any_goals (first | assumption | with_reducible refine wpAny_loadPart_at hC ?_ | with_reducible refine wpAny_onRaise ?_ | with_reducible refine wpAny_map ?_ | wp_step))
end
section
variable {prog : Program} {w : World} {A : Around} {E : Value → Shared → Prop} {R : Result → Shared → Prop} {h : Heap} {g : Array GenState} {d : Drawn} {t : Nat} {os : OsState}
variable {nm q : Str} {C N : Addr} {bs bm bmB : List Value} {hdct : Bool} {sn : List Str} {sub : List Value} {ab : Bool} {col : Option Bool} {dd : Option Addr} {k0 k1 k2 k3 k5 : Option Value} {B newId initId : String}
theorem newK (F : ExcBaseFacts B newId initId bmB) (hT : ∀ X : String, bm.contains (.type X) = bmB.contains (.type X)) {fld : Str} {v : Value}
    (hC : h.get? C = some (excClassObj nm q C N bs bm hdct sn sub ab col dd k0 k1 k2 k3 k5 newId))
    (hq : R (.ok (.ret (.ref (h.objs.size + 1)))) ⟨(h.push { cls := .type "tuple", data := .seq ([] : List Value).toArray }).push
      { cls := .ref C, data := .fields #[.ref h.objs.size, .none, .none, .none, .bool false, .none] }, g, d, t, os⟩) :
    codeAny (model prog w) A (.builtin newId ⟨[.ref C], [(fld, v)]⟩) R ⟨h, g, d, t, os⟩ := by
  have hends := F.ends
  have hcB : (Value.ref C :: bm).contains (.type B) = true := by rw [List.contains_cons, hT, F.hasB, Bool.or_true]
  have hcA : (Value.ref C :: bm).contains (.type "AttributeError") = false := by rw [List.contains_cons, hT, F.noAttr]; rfl
  have hcN : (Value.ref C :: bm).contains (.type "NameError") = false := by rw [List.contains_cons, hT, F.noName]; rfl
  have hrest : ([] : List Value).length ≤ sizeLine := Nat.zero_le _
  refine codeAny_builtinAt F.entry ?_
  unfold Builtin.«BaseException.__new__»
  refine wpAt_bind ?_
  show wpAt _ _ _ (stack >>= _) _ _ _
  refine wpAt_bind (wpAt_stack fun p below => wpAt_of_wpAny ?_)
  wp_walk
  refine wpAt_of_wpAny ?_
  rw [F.owner]
  repeat (first | with_reducible refine wpAny_madeHere_exc F.canon hC ?_ | with_reducible refine wpAny_loadPart_at hC ?_ | (with_reducible refine wpAny_isSubtype_exc hC ?_; first | rw [hcB] | rw [hcA] | rw [hcN]) | wp_step)
  show R _ _
  rw [Heap.size_push]
  exact hq
theorem typeK (F : ExcBaseFacts B newId initId bmB) (hT : ∀ X : String, bm.contains (.type X) = bmB.contains (.type X)) {fld : Str} {v : Value} {fI : Addr} {Q : Fin → Shared → Prop}
    (hC : h.get? C = some (excClassObj nm q C N bs bm hdct sn sub ab col dd k0 k1 k2 k3 k5 newId))
    (hi : W.Looks (model prog w) h (typeLookup (.ref C) "__init__") (some (.ref fI))) (hb : ∀ self, W.Looks (model prog w) h (bindSpecial (.ref fI) self) (.ref fI, [self]))
    (hq : codeAny (model prog w) A (.call (.ref fI) ⟨[.ref (h.objs.size + 1)], [(fld, v)]⟩)
      (fun r s' => match r with | .ok (.ret v) => v = .none ∧ Q (.done (.ret (.ref (h.objs.size + 1)))) s' | .ok _ => False | .error e => E e s')
      ⟨(h.push (W.kdv_tup [])).push (PySem.HandSPX.excO C h.objs.size), g, d, t, os⟩) :
    wpAny (model prog w) A (Builtin.«type.__call__» ⟨[.ref C], [(fld, v)]⟩) Q E ⟨h, g, d, t, os⟩ := by
  repeat (first | with_reducible refine wpAny_loadPart_at hC ?_ | with_reducible refine wpAny_madeBy_exc hC ?_ | wp_step)
  refine codeAny_call_builtin_code (Code.quiet_builtin _ F.quiet) (check_newK F hT hC ?_)
  refine newK F hT hC ?_
  show wpAny _ _ _ _ _ _
  have k : ∀ b o, h.get? b = some o → ((h.push (W.kdv_tup [])).push (PySem.HandSPX.excO C h.objs.size)).get? b = some o := fun b o e => Heap.get?_push_of_some _ (Heap.get?_push_of_some _ e)
  have hC₁ := k _ _ hC
  have hget : ((h.push (W.kdv_tup [])).push (PySem.HandSPX.excO C h.objs.size)).get? (h.objs.size + 1) = some (PySem.HandSPX.excO C h.objs.size) := by heap_get
  have hcC : (Value.ref C :: bm).contains (.ref C) = true := by simp
  have i1 := hi.keeps k
  have b1 := (hb (.ref (h.objs.size + 1))).keeps k
  unfold isInstance
  repeat (first | with_reducible refine wpAny_loadPart_at hget ?_ | (with_reducible refine wpAny_isSubtype_exc hC₁ ?_; rw [hcC]) | wp_step)
  show wpAny _ _ (typeLookup (.ref C) _) _ _ _
  refine i1.at ?_
  refine wpAny_holding (wpAny_bind (b1.at ?_))
  refine wpAny_bind (wpAny_call (codeAny_mono hq fun r s' z => ?_))
  rcases r with e | (v | _ | _ | _) <;> first | exact z | exact z.elim | skip
  obtain ⟨rfl, z⟩ := z
  first
    | exact wpAny_pure (wpAny_pure z)
    | (wp_walk; exact z)
theorem callK (F : ExcBaseFacts B newId initId bmB) (hT : ∀ X : String, bm.contains (.type X) = bmB.contains (.type X)) {fld : Str} {v : Value} {fI : Addr}
    (hC : h.get? C = some (excClassObj nm q C N bs bm hdct sn sub ab col dd k0 k1 k2 k3 k5 newId))
    (hi : W.Looks (model prog w) h (typeLookup (.ref C) "__init__") (some (.ref fI))) (hb : ∀ self, W.Looks (model prog w) h (bindSpecial (.ref fI) self) (.ref fI, [self]))
    (hq : codeAny (model prog w) (A.under (.builtin "type.__call__" ⟨[.ref C], [(fld, v)]⟩)) (.call (.ref fI) ⟨[.ref (h.objs.size + 1)], [(fld, v)]⟩) (W.InitBack (h.objs.size + 1) R)
      ⟨(h.push (W.kdv_tup [])).push (PySem.HandSPX.excO C h.objs.size), g, d, t, os⟩) :
    codeAny (model prog w) A (.call (.ref C) ⟨[], [(fld, v)]⟩) R ⟨h, g, d, t, os⟩ := by
  have f1 := tc_lookup
  have f2 := tc_bind (.ref C)
  have hTy : (⟨h, g, d, t, os⟩ : Shared).TypeIs (.ref C) "type" := ⟨_, hC, rfl⟩
  refine codeAny_of_tree ?_
  show wpAny _ _ (callAny (.ref C) _) _ _ _
  repeat (any_goals (first | assumption | with_reducible refine wpAny_loadPart_at hC ?_ | wp_step))
  refine ⟨rfl, ?_⟩
  refine codeAny_call_builtin_at (Code.quiet_builtin _ (by decide +kernel)) entry_typeCall (check_typeK hC (typeK F hT hC hi hb ?_))
  refine codeAny_mono hq fun r s' z => ?_
  rcases r with e | (v | _ | _ | _) <;> exact z
end
end GK
end PySem
namespace G
open PySem PySem.Spec PyProof.Rows L2 LamX
/-! ## error classes called, the error kept as a value -/
section
variable {P : Program} {w : World} {K : PySem.W.Frag} {mg : Str → Option Value} {base : Heap}
def sExc (C : Addr) : SpG := fun _ vs _ H Q _ => (∃ v, vs = [v]) ∧ ∀ a, H a = none → Q (.ref a) (upd H a (ExT (.ref C) none a))
def sIni (C : Addr) (fld : Str) : SpG := fun _ vs zs H Q _ => ∃ v, vs ++ zs = [v] ∧ ∀ a d, H a = none → H d = none → d ≠ a → Q (.ref a) (upd (upd H d (.xd [(fld, v)])) a (ExT (.ref C) (some d) a))
theorem un_tr {fs : List Addr} {H H1 H2 : Hp} {h h1 h2 : Heap} (u : Un fs [] H H1 h h1) (v : Un fs [] H1 H2 h1 h2) : Un fs [] H H2 h h2 := u.trans v
theorem exc_fn {k : Nat} {C : Addr} (q : PySem.W.excIn K C He.veBase "ValueError.__new__" = true) : FnS P w K mg base k C 1 [] (sExc C) := by
  intro A outer s H us ws vs zs Q E acts hr e0 r rz l1 l2 ha hS
  obtain ⟨⟨v, rfl⟩, hq⟩ := hS
  obtain ⟨u, rfl, ru⟩ := vals1 r
  have zz : zs = [] := List.length_eq_zero_iff.mp l2
  subst zz
  cases rz
  have KX : K.In s.heap := fun b o q => (e0.bs b o (e0.mod.kin b o q)).1
  obtain ⟨bm, N, nm, qn, bs, hdct, sn, sub, ab, col, dd, k0, k1, k2, k3, k5, mN, hC, hN, hni, T⟩ := exc_obj KX q
  have hok := e0.hok
  have bare := e0.bare
  obtain ⟨h, g, d, t, os⟩ := s
  have f1 := tc_lookup
  have f2 := tc_bind (.ref C)
  have hT : (⟨h, g, d, t, os⟩ : Shared).TypeIs (.ref C) "type" := ⟨_, hC, rfl⟩
  have hrest : ([u] : List Value).length ≤ sizeLine := by
    rw [sizeLine_eq]
    exact Nat.le_of_ble_eq_true rfl
  refine codeAny_of_tree ?_
  show wpAny _ _ (callAny (.ref C) _) _ _ _
  repeat (any_goals (first | assumption | with_reducible refine wpAny_loadPart_at hC ?_ | wp_step))
  refine ⟨rfl, ?_⟩
  refine codeAny_call_builtin_at (Code.quiet_builtin _ (by decide +kernel)) entry_typeCall (wpAny_check_type_call_sub hC (wpAny_type_call_exc_subT (hrest := hrest) PySem.F.excBase_ValueError T hC hN hni fun h' e hm => ?_))
  obtain ⟨t1, he, _, _⟩ := hm.there
  have na : H e = none := hok.gone hm.new
  show CR _ _ _ _ _ _ _ _ _ _
  exact ⟨.ref e, _, rfl, bare, Un.laidN hm.keeps hm.new na, hok.laidN hm.keeps na (exT_ok he ⟨rfl, rfl⟩ rfl), rfl, hq e na⟩
/-- what is asked of the __init__ beside IniF: it takes its value by name -/
def IniK (K : PySem.W.Frag) (C : Addr) (fld : Str) : Prop := ∀ fI oc od fd osl, PySem.W.findIn K (.ref C) "__init__" = some (some (.ref fI)) → K.lookup fI = some ⟨oc, od, .func fd, osl⟩ → ∀ u v : Value, bindArgs fd ⟨[u], [(fld, v)]⟩ = pure [(("self" : Str), u), (fld, v)]
theorem ini_end {A : Around} {outer : List Env} {h : Heap} {g : Array GenState} {dr : Drawn} {tk : Nat} {os : OsState} {H : Hp} {C : Addr} {fld : Str} {u : Value} {v : V} {Q : VK} {E : XK} (e0 : Env0 P w K mg base A outer ⟨h, g, dr, tk, os⟩ H) (F : IniF K P C fld) (ru : RelV v u) (l : List Value)
    (hq : ∀ a d, H a = none → H d = none → d ≠ a → Q (.ref a) (upd (upd H d (.xd [(fld, v)])) a (ExT (.ref C) (some d) a))) (args : List Value) (kw : List (Str × Value))
    (hroom : (A.under (.builtin "type.__call__" ⟨.ref C :: args, kw⟩)).depth < recursionLimit) (hba : ∀ fI oc od fd osl, PySem.W.findIn K (.ref C) "__init__" = some (some (.ref fI)) → K.lookup fI = some ⟨oc, od, .func fd, osl⟩ → bindArgs fd ⟨.ref (h.objs.size + 1) :: args, kw⟩ = pure [(("self" : Str), Value.ref (h.objs.size + 1)), (fld, u)]) :
    ∃ fI, PySem.W.findIn K (.ref C) "__init__" = some (some (.ref fI)) ∧ PySem.W.typeIn K (.ref fI) = some (.type "function") ∧
      codeAny (model P w) (A.under (.builtin "type.__call__" ⟨.ref C :: args, kw⟩)) (.call (.ref fI) ⟨.ref (h.objs.size + 1) :: args, kw⟩) (PySem.W.InitBack (h.objs.size + 1) (CR (L2.CX P w) outer P w H ⟨h, g, dr, tk, os⟩ Q E)) ⟨(h.push (PySem.W.kdv_tup l)).push (PySem.HandSPX.excO C h.objs.size), g, dr, tk, os⟩ := by
  have KI : K.In h := fun b o q => (e0.bs b o (e0.mod.kin b o q)).1
  obtain ⟨mb, hmb, hbb⟩ := e0.mod.blt
  have bk : ∀ b o, base.get? b = some o → h.get? b = some o := fun b o q => (e0.bs b o q).1
  have bl := hmb.keeps bk
  have gl := e0.mod.glob.keeps bk
  have nl := e0.mod.nolimit.keeps bk
  have up2 : ∀ b o, h.get? b = some o → ((h.push (PySem.W.kdv_tup l)).push (PySem.HandSPX.excO C h.objs.size)).get? b = some o := fun b o z => Heap.get?_push_of_some _ (Heap.get?_push_of_some _ z)
  have got : ((h.push (PySem.W.kdv_tup l)).push (PySem.HandSPX.excO C h.objs.size)).get? (h.objs.size + 1) = some (PySem.HandSPX.excO C h.objs.size) := by heap_get
  have nK : K.lookup (h.objs.size + 1) = none := by
    cases z : K.lookup (h.objs.size + 1) with
    | none => rfl
    | some o =>
      have y : h.objs.size + 1 < h.objs.size := Heap.lt_size (KI _ _ z)
      exfalso
      omega
  have hok := e0.hok
  have bare := e0.bare
  have nx : h.get? (h.objs.size + 1) = none := by
    cases z : h.get? (h.objs.size + 1) with
    | none => rfl
    | some o =>
      have y : h.objs.size + 1 < h.objs.size := Heap.lt_size z
      exfalso
      omega
  refine ini_runA (P := P) (w := w) (A := A.under (.builtin "type.__call__" ⟨.ref C :: args, kw⟩)) (u := u) (g := g) (d := dr) (t := tk) (os := os) (R := PySem.W.InitBack (h.objs.size + 1) (CR (L2.CX P w) outer P w H ⟨h, g, dr, tk, os⟩ Q E)) F _ hba (fun b o z => up2 _ _ (KI b o z)) (gl.keeps up2) (bl.keeps up2) ((hbb _ (by decide)).trans boot_super') (nl.keeps up2) nK got hroom (fun h2 t2 dx t1 kp hx hn hsz => ?_)
  have kp2 : ∀ b o, h.get? b = some o → h2.get? b = some o := fun b o z => kp b o (fun y => by rw [y, nx] at z; cases z) (up2 b o z)
  have hsz2 : h.objs.size + 2 ≤ dx := by
    rw [Heap.size_push, Heap.size_push] at hsz
    exact hsz
  have nd : h.get? dx = none := by
    cases z : h.get? dx with
    | none => rfl
    | some o =>
      have y : dx < h.objs.size := Heap.lt_size z
      exfalso
      omega
  have Hx : H (h.objs.size + 1) = none := hok.gone nx
  have Hd : H dx = none := hok.gone nd
  have ne : h.objs.size + 1 ≠ dx := by omega
  have od : ObjOk P w (upd H dx (.xd [(fld, v)])) h2 dx (.xd [(fld, v)]) := ⟨_, hn, relO_put (fs := []) ru fun _ => True.intro⟩
  have H1x : (upd H dx (.xd [(fld, v)])) (h.objs.size + 1) = none := by rw [upd_ne ne]; exact Hx
  have k1 := (hok.laidN (o := .xd [(fld, v)]) kp2 Hd od).laidN (o := ExT (.ref C) (some dx) (h.objs.size + 1)) (fun _ _ z => z) H1x (exT_ok hx ⟨rfl, rfl⟩ rfl)
  refine ⟨rfl, .ref (h.objs.size + 1), _, rfl, bare, ?_, k1, rfl, hq _ _ Hx Hd (fun y => ne y.symm)⟩
  refine ⟨fun b o e _ _ _ => kp2 b o e, fun b o e _ _ _ => ⟨o.slots, kp2 b o e⟩, fun b o e n _ => ?_, fun b o e _ => ⟨o, kp2 b o e⟩, fun b xs e => ?_, fun b o u e => ?_, fun b ps e => ⟨#[], ?_⟩⟩
  · rw [upd_ne (fun z => by rw [z, nx] at e; cases e), upd_ne (fun z => by rw [z, nd] at e; cases e)]
    exact n
  · rw [upd_ne (ne_of_none e Hx), upd_ne (ne_of_none e Hd)]
    exact e
  · rw [upd_ne (ne_of_none e Hx), upd_ne (ne_of_none e Hd)]
    exact e
  · rw [upd_ne (ne_of_none e Hx), upd_ne (ne_of_none e Hd), e]
    simp
theorem ini_bind {C : Addr} {fld : Str} (F : IniF K P C fld) {x : Value} {u : Value} : ∀ fI oc od fd osl, PySem.W.findIn K (.ref C) "__init__" = some (some (.ref fI)) → K.lookup fI = some ⟨oc, od, .func fd, osl⟩ → bindArgs fd ⟨[x, u], []⟩ = pure [(("self" : Str), x), (fld, u)] := by
  intro fI2 oc2 od2 fd2 osl2 f12 lk2
  obtain ⟨fI, cda, cc, oc, ccl, cl, od, cdd, cld, osl, ccs, csl, qual, txt, kV, doc, pm, ct, an, a1, a2, scope, p0, p1, p2, p3, p4, p5, p6, p7, p8, p9, j, vs, file, tf, f1, f2, lk, hcd, ha1, ha2, ncell, nco, ngen, hkind, ks1, ks2, ks3, ks4, lcda, hvs, hfile, lcc, hsw, hdb, hns', hline, hbind⟩ := F.fn
  rw [f1] at f12
  cases f12
  rw [lk] at lk2
  cases lk2
  exact hbind _ _
theorem ini_fn {k : Nat} {C : Addr} {fld : Str} (F : IniF K P C fld) : FnS P w K mg base (k + 1) C 1 [] (sIni C fld) := by
  intro A outer s H us ws vs zs Q E acts hr e0 r rz l1 l2 ha hS
  have zz : zs = [] := List.length_eq_zero_iff.mp l2
  subst zz
  cases rz
  obtain ⟨v, ev, hq⟩ := hS
  rw [List.append_nil] at ev
  subst ev
  obtain ⟨u, rfl, ru⟩ := vals1 r
  have KI : K.In s.heap := fun b o q => (e0.bs b o (e0.mod.kin b o q)).1
  obtain ⟨nm, q, N, bs, bm, sn, sub, ab, col, dd, k0, k1, k2, k3, k5, hC, hbm⟩ := F.T.cls
  obtain ⟨h, g, d, t, os⟩ := s
  obtain ⟨fI, f1, f2, run⟩ := ini_end (E := E) e0 F ru [u] hq [u] [] (hr.r.make C [u] []).depth (ini_bind F)
  exact PySem.HandSPX.call_own PySem.F.excBase_ValueError (fun Y => PySem.HandSPX.refsVE_contains Y bm hbm) (KI _ _ hC) (PySem.W.looks_findIn KI f1) (fun self => PySem.W.bind_fn KI self f2) (by rw [sizeLine_eq]; exact Nat.le_of_ble_eq_true rfl) run
theorem ini_fnK {k : Nat} {C : Addr} {fld : Str} (F : IniF K P C fld) (FK : IniK K C fld) : FnS P w K mg base (k + 1) C 0 [fld] (sIni C fld) := by
  intro A outer s H us ws vs zs Q E acts hr e0 r rz l1 l2 ha hS
  have zz : vs = [] := List.length_eq_zero_iff.mp l1
  subst zz
  cases r
  obtain ⟨v, ev, hq⟩ := hS
  rw [List.nil_append] at ev
  subst ev
  obtain ⟨u, rfl, ru⟩ := vals1 rz
  have KI : K.In s.heap := fun b o q => (e0.bs b o (e0.mod.kin b o q)).1
  obtain ⟨nm, q, N, bs, bm, sn, sub, ab, col, dd, k0, k1, k2, k3, k5, hC, hbm⟩ := F.T.cls
  obtain ⟨h, g, d, t, os⟩ := s
  obtain ⟨fI, f1, f2, run⟩ := ini_end (E := E) e0 F ru [] hq [] [(fld, u)] (hr.r.make C [] [(fld, u)]).depth (fun fI oc od fd osl z1 z2 => FK fI oc od fd osl z1 z2 _ _)
  exact PySem.GK.callK PySem.F.excBase_ValueError (fun Y => PySem.HandSPX.refsVE_contains Y bm hbm) (KI _ _ hC) (PySem.W.looks_findIn KI f1) (fun self => PySem.W.bind_fn KI self f2) run
end
end G

set_option Elab.async false
set_option linter.all false
set_option maxRecDepth 100000
set_option maxHeartbeats 8000000
namespace G
open PySem PySem.Spec PyProof.Rows L2 LamX
/-! ## the head over a list of places of one's own (tops with many classes: He.asD's eraseDups costs memory) -/
def obsZ (fa : List He.Fa) (fn : List He.DefD) (ini : List IniD) (ex : PySem.W.Frag → Bool) (g : Addr → Option Obj) : AlY :=
  ((He.obsT fa fn [] (He.frT g (asZ g)), ex (He.frT g (asZ g))), ini.map fun d => iniO (He.frT g (asZ g)) d.x)
theorem saysZ_of {fa : List He.Fa} {fn : List He.DefD} {ini : List IniD} {ex : PySem.W.Frag → Bool} {w : World} {h : Heap} (e : obsZ fa fn ini ex h.get? = valY fn [] ini w) :
    SaysY fa fn [] [] ini ex w h (He.frT h.get? (asZ h.get?)) := by
  have e1 := congrArg (fun z : AlY => z.1.1) e
  have e2 := congrArg (fun z : AlY => z.1.2) e
  have e3 := congrArg (fun z : AlY => z.2) e
  exact ⟨⟨e1, e2, (fun p hp => nomatch hp), (fun p hp => nomatch hp), (fun p hp => nomatch hp)⟩, e3⟩
def hookZ (fa : List He.Fa) (fn : List He.DefD) (ini : List IniD) (ex : PySem.W.Frag → Bool) : PySem.W.Hook where
  α := AlY
  obs := fun s => obsZ fa fn ini ex s.heap.get?
  val := fun w => valY fn [] ini w
  says := fun w h => ∃ K : PySem.W.Frag, K.In h ∧ SaysY fa fn [] [] ini ex w h K
  of := fun _ _ e => ⟨_, frT_as, saysZ_of e⟩
  keeps := fun _ _ _ ⟨K, hK, c⟩ k => ⟨K, fun b o z => k b o (hK b o z), ⟨⟨c.x.t, c.x.more, c.x.hd, c.x.out, fun p hp => k _ _ (c.x.empty p hp)⟩, c.i⟩⟩
theorem obsZ_eq {fa : List He.Fa} {fn : List He.DefD} {ini : List IniD} {ex : PySem.W.Frag → Bool} {g : Addr → Option Obj} {s : Shared} (h : ∀ a, g a = s.heap.get? a) : obsZ fa fn ini ex g = (hookZ fa fn ini ex).obs s := by
  have e : g = s.heap.get? := funext h
  rw [e]
  rfl
/-- three looks at one run, each by itself -/
theorem map3 {α β γ δ : Type} {e : Option α} {f : α → β} {g : α → γ} {k : α → δ} {b : β} {c : γ} {d : δ} (h1 : e.map f = some b) (h2 : e.map g = some c) (h3 : e.map k = some d) : e.map (fun s => (f s, g s, k s)) = some (b, c, d) := by
  cases e with
  | none => cases h1
  | some s =>
    cases h1
    cases h2
    cases h3
    rfl
end G

set_option Elab.async false
set_option linter.all false
set_option maxRecDepth 100000
set_option maxHeartbeats 8000000
namespace Pk
open PySem PySem.Spec PyProof.Rows L2 LamX G
/-! ## values of any kind -/
/-- none, a bool, an int, a text, a list, a tuple, a dict -/
def Kd (H : Hp) : V → Prop
  | .non => True
  | .bl _ => True
  | .int _ => True
  | .str _ => True
  | .ref a => (∃ xs, H a = some (.lst xs)) ∨ (∃ xs, H a = some (.tup xs)) ∨ ∃ kvs, H a = some (.dK kvs)
  | _ => False
def isTy (n : String) : V → Bool
  | .bl _ => n == "bool" || n == "int"
  | .int _ => n == "int"
  | .str _ => n == "str"
  | _ => false
theorem kit_b {K : PySem.W.Frag} : PySem.W.kitOne K (.type "bool") (.type "int") = some true ∧ PySem.W.kitOne K (.type "bool") (.type "bool") = some true ∧ PySem.W.kitOne K (.type "bool") (.type "str") = some false := ⟨rfl, rfl, rfl⟩
theorem isX_kd {K : PySem.W.Frag} {H : Hp} {x : V} {n : String} {Q : VK} (hn : n = "int" ∨ n = "bool" ∨ n = "str") (k : Kd H x) (q : Q (.bl (isTy n x)) H) : G.rIsX K [x, .ty n] H Q := by
  refine .inl ?_
  have go : ∀ (t : String) (b : Bool), TyOf K H x (.type t) → PySem.W.kitOne K (.type t) (.type n) = some b → b = isTy n x → rIsi K [x, .ty n] H Q := fun t b h1 h2 h3 => ⟨x, .ty n, _, .type n, b, rfl, .ty n, .base h1, h2, by rw [h3]; exact q⟩
  cases x with
  | non => rcases hn with rfl | rfl | rfl <;> exact go _ _ .non rfl rfl
  | bl b => rcases hn with rfl | rfl | rfl <;> exact go _ _ (.bl b) rfl rfl
  | int i => rcases hn with rfl | rfl | rfl <;> exact go _ _ (.int i) rfl rfl
  | str y => rcases hn with rfl | rfl | rfl <;> exact go _ _ (.str y) rfl rfl
  | ref a =>
    rcases k with ⟨xs, h⟩ | ⟨xs, h⟩ | ⟨kvs, h⟩
    · rcases hn with rfl | rfl | rfl <;> exact go _ _ (.lst h) rfl rfl
    · rcases hn with rfl | rfl | rfl <;> exact go _ _ (.tup h) rfl rfl
    · rcases hn with rfl | rfl | rfl <;> exact go _ _ (.dK h) rfl rfl
  | _ => exact k.elim
def isNum : V → Bool
  | .int _ => true
  | _ => false
def btw (x : V) (lo hi : Int) : Bool := match x with
  | .int i => decide (lo ≤ i) && decide (i ≤ hi)
  | _ => false
theorem isNum_eq (x : V) : isNum x = (isTy "int" x && !isTy "bool" x) := by cases x <;> rfl
theorem btw_int {x : V} {lo hi : Int} (h : btw x lo hi = true) : ∃ i, x = .int i ∧ lo ≤ i ∧ i ≤ hi := by
  cases x with
  | int i =>
    have z : (decide (lo ≤ i) && decide (i ≤ hi)) = true := h
    rw [Bool.and_eq_true, decide_eq_true_eq, decide_eq_true_eq] at z
    exact ⟨i, rfl, z.1, z.2⟩
  | _ => cases h
theorem btw_of {i lo hi : Int} (h1 : lo ≤ i) (h2 : i ≤ hi) : btw (.int i) lo hi = true := by
  show (decide (lo ≤ i) && decide (i ≤ hi)) = true
  rw [decide_eq_true h1, decide_eq_true h2]
  rfl
def isBits : V → Bool
  | .str a => decide (Txt.stripChars a "01" = "")
  | _ => false
def foldZ (i : Int) : Int := if 0 < i then 2 * i - 1 else -2 * i
def unfoldZ (i : Int) : Int := if i % 2 = 1 then (i + 1) / 2 else -(i / 2)
def many (i : Int) : Nat := (foldZ i + 1).toNat.log2
def longW (i : Int) : Str := ones (many i) ++ "0" ++ tw (many i) (foldZ i + 1) ""
def gradeW (i g : Int) : Str := if foldZ i / 2 ^ g.toNat < 12 then ones (foldZ i / 2 ^ g.toNat).toNat ++ "0" ++ tw g.toNat (foldZ i % 2 ^ g.toNat) "" else ones 12 ++ tw 16 (foldZ i) ""
/-! ## what each def promises -/
abbrev SpD := List V → Hp → VK → XK → Prop
abbrev bad (K : PySem.W.Frag) (x : Str) : Value := .ref (He.ga K x)
def sp_is_number : SpD := fun vs H Q _ => ∃ x, vs = [x] ∧ Kd H x ∧ Q (.bl (isNum x)) H
def sp_is_between : SpD := fun vs H Q _ => ∃ x lo hi, vs = [x, .int lo, .int hi] ∧ Kd H x ∧ Q (.bl (btw x lo hi)) H
def sp_is_told : SpD := fun vs H Q _ => ∃ x, vs = [x] ∧ Kd H x ∧ Q (.bl (btw x (-32767) 32767)) H
def sp_is_bits : SpD := fun vs H Q _ => ∃ x, vs = [x] ∧ Kd H x ∧ (∀ a, x = .str a → a.length ≤ 1000000) ∧ Q (.bl (isBits x)) H
def sp_need (K : PySem.W.Frag) (C : Str) (lo hi : Int) : SpD := fun vs H Q E => ∃ x, vs = [x] ∧ Kd H x ∧ (btw x lo hi = true → Q .non H) ∧ (btw x lo hi = false → E (bad K C) none H)
def sp_fold : SpD := fun vs H Q _ => ∃ i, vs = [.int i] ∧ -1000000000000 < i ∧ i < 1000000000000 ∧ Q (.int (foldZ i)) H
def sp_unfold : SpD := fun vs H Q _ => ∃ i, vs = [.int i] ∧ Q (.int (unfoldZ i)) H
def sp_folded (K : PySem.W.Frag) : SpD := fun vs H Q E => ∃ x, vs = [x] ∧ Kd H x ∧ (∀ i, x = .int i → -32767 ≤ i → i ≤ 32767 → Q (.int (foldZ i)) H) ∧ (btw x (-32767) 32767 = false → E (bad K "BadNumber") none H)
def sp_unfolded (K : PySem.W.Frag) : SpD := fun vs H Q E => ∃ x, vs = [x] ∧ Kd H x ∧ (∀ i, x = .int i → 0 ≤ i → i ≤ 65534 → Q (.int (unfoldZ i)) H) ∧ (btw x 0 65534 = false → E (bad K "BadNumber") none H)
def sp_in_twos : SpD := fun vs H Q _ => ∃ i k, vs = [.int i, .int k] ∧ 0 ≤ k ∧ k ≤ 100 ∧ Q (.str (tw k.toNat i "")) H
def sp_fixed_bits (K : PySem.W.Frag) : SpD := fun vs H Q E => ∃ x y, vs = [x, y] ∧ Kd H x ∧ Kd H y ∧ (∀ i k, x = .int i → y = .int k → 1 ≤ k → k ≤ 16 → 0 ≤ i → i < 2 ^ k.toNat → Q (.str (tw k.toNat i "")) H) ∧ (btw y 1 16 = false → E (bad K "BadMany") none H) ∧
  (∀ k, y = .int k → 1 ≤ k → k ≤ 16 → btw x 0 (2 ^ k.toNat - 1) = false → E (bad K "BadNumber") none H)
def sp_long_word : SpD := fun vs H Q _ => ∃ i, vs = [.int i] ∧ -32768 < i ∧ i < 32768 ∧ Q (.str (longW i)) H
def sp_long_bits (K : PySem.W.Frag) : SpD := fun vs H Q E => ∃ x, vs = [x] ∧ Kd H x ∧ (∀ i, x = .int i → -32767 ≤ i → i ≤ 32767 → Q (.str (longW i)) H) ∧ (btw x (-32767) 32767 = false → E (bad K "BadNumber") none H)
def sp_grade_word : SpD := fun vs H Q _ => ∃ i g, vs = [.int i, .int g] ∧ -32768 < i ∧ i < 32768 ∧ 0 ≤ g ∧ g ≤ 7 ∧ Q (.str (gradeW i g)) H
def sp_grade_bits (K : PySem.W.Frag) : SpD := fun vs H Q E => ∃ x y, vs = [x, y] ∧ Kd H x ∧ Kd H y ∧ (∀ i g, x = .int i → y = .int g → -32767 ≤ i → i ≤ 32767 → 0 ≤ g → g ≤ 7 → Q (.str (gradeW i g)) H) ∧ (btw x (-32767) 32767 = false → E (bad K "BadNumber") none H) ∧
  (btw x (-32767) 32767 = true → btw y 0 7 = false → E (bad K "BadGrade") none H)
abbrev sh (s : SpD) (ix : List Nat) : SpG := fun _ vs zs H Q E => s (pick (vs ++ zs) ix) H Q E
abbrev S_is_number (_ : PySem.W.Frag) : SpG := sh sp_is_number [0]
abbrev S_is_between (_ : PySem.W.Frag) : SpG := sh sp_is_between [0, 1, 2]
abbrev S_is_told (_ : PySem.W.Frag) : SpG := sh sp_is_told [0]
abbrev S_is_bits (_ : PySem.W.Frag) : SpG := sh sp_is_bits [0]
abbrev S_need_told (K : PySem.W.Frag) : SpG := sh (sp_need K "BadNumber" (-32767) 32767) [0]
abbrev S_need_grade (K : PySem.W.Frag) : SpG := sh (sp_need K "BadGrade" 0 7) [0]
abbrev S_need_many (K : PySem.W.Frag) : SpG := sh (sp_need K "BadMany" 1 16) [0]
abbrev S_fold (_ : PySem.W.Frag) : SpG := sh sp_fold [0]
abbrev S_unfold (_ : PySem.W.Frag) : SpG := sh sp_unfold [0]
abbrev S_folded (K : PySem.W.Frag) : SpG := sh (sp_folded K) [0]
abbrev S_unfolded (K : PySem.W.Frag) : SpG := sh (sp_unfolded K) [0]
abbrev S_in_twos (_ : PySem.W.Frag) : SpG := sh sp_in_twos [0, 1]
abbrev S_fixed_bits (K : PySem.W.Frag) : SpG := sh (sp_fixed_bits K) [0, 1]
abbrev S_long_word (_ : PySem.W.Frag) : SpG := sh sp_long_word [0]
abbrev S_long_bits (K : PySem.W.Frag) : SpG := sh (sp_long_bits K) [0]
abbrev S_grade_word (_ : PySem.W.Frag) : SpG := sh sp_grade_word [0, 1]
abbrev S_grade_bits (K : PySem.W.Frag) : SpG := sh (sp_grade_bits K) [0, 1]
abbrev S_folded_k0_number (K : PySem.W.Frag) : SpG := sh (sp_folded K) [0]
abbrev S_unfolded_k0_number (K : PySem.W.Frag) : SpG := sh (sp_unfolded K) [0]
abbrev S_long_bits_k0_number (K : PySem.W.Frag) : SpG := sh (sp_long_bits K) [0]
abbrev S_grade_bits_k0_grade_number (K : PySem.W.Frag) : SpG := sh (sp_grade_bits K) [1, 0]
abbrev S_fixed_bits_k0_many_number (K : PySem.W.Frag) : SpG := sh (sp_fixed_bits K) [1, 0]
abbrev S_is_bits_k0_thing (_ : PySem.W.Frag) : SpG := sh sp_is_bits [0]
/-! ## the readings -/
abbrev act_is_number (acts : Acts) : Acts := fun g tl => false = true ∧ acts g tl
def t_is_number (K : PySem.W.Frag) (cells : List (Str × Addr)) (acts : Acts) (T : List (Addr × Str)) (pt : Option Addr) (W : WX) : TS :=
  (tRet (tAndT K (tCB (G.rIsX K) (tCons (tVar 0) (tCons (tC (.ty "int")) tNil))) (tNotT K (tCB (G.rIsX K) (tCons (tVar 0) (tCons (tC (.ty "bool")) tNil))))))
abbrev act_is_between (acts : Acts) : Acts := fun g tl => false = true ∧ acts g tl
def t_is_between (K : PySem.W.Frag) (cells : List (Str × Addr)) (acts : Acts) (T : List (Addr × Str)) (pt : Option Addr) (W : WX) : TS :=
  (tRet (tAndT K (tFn (S_is_number K) (fun _ _ => act_is_between acts) W (tCons (tVar 0) tNil) tNil 1 0) (tChain (G.rCmp K .LtE) (G.rCmp K .LtE) (tVar 1) (tVar 0) (tVar 2))))
abbrev act_is_told (acts : Acts) : Acts := fun g tl => false = true ∧ acts g tl
def t_is_told (K : PySem.W.Frag) (cells : List (Str × Addr)) (acts : Acts) (T : List (Addr × Str)) (pt : Option Addr) (W : WX) : TS :=
  (tRet (tFn (S_is_between K) (fun _ _ => act_is_told acts) W (tCons (tVar 0) (tCons (tUn (rU fun i => .int (-i)) (tC (.int 32767))) (tCons (tC (.int 32767)) tNil))) tNil 3 0))
abbrev act_is_bits (acts : Acts) : Acts := fun g tl => false = true ∧ acts g tl
def t_is_bits (K : PySem.W.Frag) (cells : List (Str × Addr)) (acts : Acts) (T : List (Addr × Str)) (pt : Option Addr) (W : WX) : TS :=
  (tRet (tAndT K (tCB (G.rIsX K) (tCons (tVar 0) (tCons (tC (.ty "str")) tNil))) (tOp (G.rCmp K .Eq) (tBM K "str" G.rStripC (tVar 0) (tCons (tC (.str "01")) tNil)) (tC (.str "")))))
abbrev act_need_told (acts : Acts) : Acts := fun g tl => false = true ∧ acts g tl
def t_need_told (K : PySem.W.Frag) (cells : List (Str × Addr)) (acts : Acts) (T : List (Addr × Str)) (pt : Option Addr) (W : WX) : TS :=
  (tIfS (tNot (tTru K (tFn (S_is_told K) (fun _ _ => act_need_told acts) W (tCons (tVar 0) tNil) tNil 1 0)))
  (tRaise0 (He.ga K "BadNumber") W)
  tNext)
abbrev act_need_grade (acts : Acts) : Acts := fun g tl => false = true ∧ acts g tl
def t_need_grade (K : PySem.W.Frag) (cells : List (Str × Addr)) (acts : Acts) (T : List (Addr × Str)) (pt : Option Addr) (W : WX) : TS :=
  (tIfS (tNot (tTru K (tFn (S_is_between K) (fun _ _ => act_need_grade acts) W (tCons (tVar 0) (tCons (tC (.int 0)) (tCons (tC (.int 7)) tNil))) tNil 3 0)))
  (tRaise0 (He.ga K "BadGrade") W)
  tNext)
abbrev act_need_many (acts : Acts) : Acts := fun g tl => false = true ∧ acts g tl
def t_need_many (K : PySem.W.Frag) (cells : List (Str × Addr)) (acts : Acts) (T : List (Addr × Str)) (pt : Option Addr) (W : WX) : TS :=
  (tIfS (tNot (tTru K (tFn (S_is_between K) (fun _ _ => act_need_many acts) W (tCons (tVar 0) (tCons (tC (.int 1)) (tCons (tC (.int 16)) tNil))) tNil 3 0)))
  (tRaise0 (He.ga K "BadMany") W)
  tNext)
abbrev act_fold (acts : Acts) : Acts := fun g tl => false = true ∧ acts g tl
def t_fold (K : PySem.W.Frag) (cells : List (Str × Addr)) (acts : Acts) (T : List (Addr × Str)) (pt : Option Addr) (W : WX) : TS :=
  (tRet (tIf (tTest (tOp (G.rCmp K .Gt) (tVar 0) (tC (.int 0)))) (tOp (G.rBin K .Sub) (tOp (G.rBin K .Mult) (tC (.int 2)) (tVar 0)) (tC (.int 1))) (tOp (G.rBin K .Mult) (tUn (rU fun i => .int (-i)) (tC (.int 2))) (tVar 0))))
abbrev act_unfold (acts : Acts) : Acts := fun g tl => false = true ∧ acts g tl
def t_unfold (K : PySem.W.Frag) (cells : List (Str × Addr)) (acts : Acts) (T : List (Addr × Str)) (pt : Option Addr) (W : WX) : TS :=
  (tRet (tIf (tTest (tOp (G.rCmp K .Eq) (tOp (G.rBin K .Mod) (tVar 0) (tC (.int 2))) (tC (.int 1)))) (tOp (G.rBin K .FloorDiv) (tOp (G.rBin K .Add) (tVar 0) (tC (.int 1))) (tC (.int 2))) (tUn (rU fun i => .int (-i)) (tOp (G.rBin K .FloorDiv) (tVar 0) (tC (.int 2))))))
abbrev act_folded (acts : Acts) : Acts := fun g tl => false = true ∧ acts g tl
def t_folded (K : PySem.W.Frag) (cells : List (Str × Addr)) (acts : Acts) (T : List (Addr × Str)) (pt : Option Addr) (W : WX) : TS :=
  (tSeq (tDrop (tFn (S_need_told K) (fun _ _ => act_folded acts) W (tCons (tVar 0) tNil) tNil 1 0))
  (tRet (tFn (S_fold K) (fun _ _ => act_folded acts) W (tCons (tVar 0) tNil) tNil 1 0)))
abbrev act_unfolded (acts : Acts) : Acts := fun g tl => false = true ∧ acts g tl
def t_unfolded (K : PySem.W.Frag) (cells : List (Str × Addr)) (acts : Acts) (T : List (Addr × Str)) (pt : Option Addr) (W : WX) : TS :=
  (tSeq (tIfS (tNot (tTru K (tFn (S_is_between K) (fun _ _ => act_unfolded acts) W (tCons (tVar 0) (tCons (tC (.int 0)) (tCons (tC (.int 65534)) tNil))) tNil 3 0)))
  (tRaise0 (He.ga K "BadNumber") W)
  tNext)
  (tRet (tFn (S_unfold K) (fun _ _ => act_unfolded acts) W (tCons (tVar 0) tNil) tNil 1 0)))
abbrev act_in_twos (acts : Acts) : Acts := fun g tl => false = true ∧ acts g tl
def t_in_twos (K : PySem.W.Frag) (cells : List (Str × Addr)) (acts : Acts) (T : List (Addr × Str)) (pt : Option Addr) (W : WX) : TS :=
  (tSeq (tAsg (tC (.str "")) (gName 2))
  (tSeq (tFor (iRng1 (tCons (tVar 1) tNil)) (gName 3)
  (tSeq (tAsg (tOp (G.rBin K .Add) (tCB G.rStr1 (tCons (tOp (G.rBin K .Mod) (tVar 0) (tC (.int 2))) tNil)) (tVar 2)) (gName 2))
  (tAug 0 (tC (.int 2)) (G.rAug K .FloorDiv))))
  (tRet (tVar 2))))
abbrev act_fixed_bits (acts : Acts) : Acts := fun g tl => false = true ∧ acts g tl
def t_fixed_bits (K : PySem.W.Frag) (cells : List (Str × Addr)) (acts : Acts) (T : List (Addr × Str)) (pt : Option Addr) (W : WX) : TS :=
  (tSeq (tDrop (tFn (S_need_many K) (fun _ _ => act_fixed_bits acts) W (tCons (tVar 1) tNil) tNil 1 0))
  (tSeq (tIfS (tNot (tTru K (tFn (S_is_between K) (fun _ _ => act_fixed_bits acts) W (tCons (tVar 0) (tCons (tC (.int 0)) (tCons (tOp (G.rBin K .Sub) (tOp (G.rBin K .LShift) (tC (.int 1)) (tVar 1)) (tC (.int 1))) tNil))) tNil 3 0)))
  (tRaise0 (He.ga K "BadNumber") W)
  tNext)
  (tRet (tFn (S_in_twos K) (fun _ _ => act_fixed_bits acts) W (tCons (tVar 0) (tCons (tVar 1) tNil)) tNil 2 0))))
abbrev act_long_word (acts : Acts) : Acts := fun g tl => false = true ∧ acts g tl
def t_long_word (K : PySem.W.Frag) (cells : List (Str × Addr)) (acts : Acts) (T : List (Addr × Str)) (pt : Option Addr) (W : WX) : TS :=
  (tSeq (tPar 1 2 (tCons (tOp (G.rBin K .Add) (tFn (S_fold K) (fun _ _ => act_long_word acts) W (tCons (tVar 0) tNil) tNil 1 0) (tC (.int 1))) (tCons (tC (.int 0)) tNil)))
  (tSeq (tWhile (tTest (tOp (G.rCmp K .GtE) (tVar 1) (tOp (G.rBin K .LShift) (tC (.int 1)) (tOp (G.rBin K .Add) (tVar 2) (tC (.int 1))))))
  (tAug 2 (tC (.int 1)) (G.rAug K .Add)))
  (tRet (tOp (G.rBin K .Add) (tOp (G.rBin K .Add) (tOp (G.rBin K .Mult) (tC (.str "1")) (tVar 2)) (tC (.str "0"))) (tFn (S_in_twos K) (fun _ _ => act_long_word acts) W (tCons (tOp (G.rBin K .Sub) (tVar 1) (tOp (G.rBin K .LShift) (tC (.int 1)) (tVar 2))) (tCons (tVar 2) tNil)) tNil 2 0)))))
abbrev act_long_bits (acts : Acts) : Acts := fun g tl => false = true ∧ acts g tl
def t_long_bits (K : PySem.W.Frag) (cells : List (Str × Addr)) (acts : Acts) (T : List (Addr × Str)) (pt : Option Addr) (W : WX) : TS :=
  (tSeq (tDrop (tFn (S_need_told K) (fun _ _ => act_long_bits acts) W (tCons (tVar 0) tNil) tNil 1 0))
  (tRet (tFn (S_long_word K) (fun _ _ => act_long_bits acts) W (tCons (tVar 0) tNil) tNil 1 0)))
abbrev act_grade_word (acts : Acts) : Acts := fun g tl => false = true ∧ acts g tl
def t_grade_word (K : PySem.W.Frag) (cells : List (Str × Addr)) (acts : Acts) (T : List (Addr × Str)) (pt : Option Addr) (W : WX) : TS :=
  (tSeq (tAsg (tFn (S_fold K) (fun _ _ => act_grade_word acts) W (tCons (tVar 0) tNil) tNil 1 0) (gName 2))
  (tSeq (tAsg (tOp (G.rBin K .RShift) (tVar 2) (tVar 1)) (gName 3))
  (tSeq (tIfS (tTest (tOp (G.rCmp K .Lt) (tVar 3) (tC (.int 12))))
  (tRet (tOp (G.rBin K .Add) (tOp (G.rBin K .Add) (tOp (G.rBin K .Mult) (tC (.str "1")) (tVar 3)) (tC (.str "0"))) (tFn (S_in_twos K) (fun _ _ => act_grade_word acts) W (tCons (tOp (G.rBin K .Mod) (tVar 2) (tOp (G.rBin K .LShift) (tC (.int 1)) (tVar 1))) (tCons (tVar 1) tNil)) tNil 2 0)))
  tNext)
  (tRet (tOp (G.rBin K .Add) (tOp (G.rBin K .Mult) (tC (.str "1")) (tC (.int 12))) (tFn (S_in_twos K) (fun _ _ => act_grade_word acts) W (tCons (tVar 2) (tCons (tC (.int 16)) tNil)) tNil 2 0))))))
abbrev act_grade_bits (acts : Acts) : Acts := fun g tl => false = true ∧ acts g tl
def t_grade_bits (K : PySem.W.Frag) (cells : List (Str × Addr)) (acts : Acts) (T : List (Addr × Str)) (pt : Option Addr) (W : WX) : TS :=
  (tSeq (tDrop (tFn (S_need_told K) (fun _ _ => act_grade_bits acts) W (tCons (tVar 0) tNil) tNil 1 0))
  (tSeq (tDrop (tFn (S_need_grade K) (fun _ _ => act_grade_bits acts) W (tCons (tVar 1) tNil) tNil 1 0))
  (tRet (tFn (S_grade_word K) (fun _ _ => act_grade_bits acts) W (tCons (tVar 0) (tCons (tVar 1) tNil)) tNil 2 0))))

/-! ## each promise holds -/
abbrev Dd (Q : VK) : Ends := ⟨fun _ H' => Q .non H', Q, fun _ _ => False, fun _ _ => False⟩
abbrev Ww (E : XK) : WX := fun cls d _ H' => E cls d H'
section
variable {K : PySem.W.Frag} {cells : List (Str × Addr)} {acts : Acts} {T : List (Addr × Str)} {pt : Option Addr} {vs : List V} {H : Hp} {Q : VK} {E : XK}
theorem le_int {K : PySem.W.Frag} {H : Hp} {i j : Int} {Q : VK} (q : Q (.bl (decide (i ≤ j))) H) : G.rCmp K .LtE (.int i) (.int j) H Q := q
theorem ok_is_number (h : sp_is_number vs H Q E) : vs.length = 1 ∧ t_is_number K cells acts T pt (Ww E) (Dd Q) (L2.start ["thing"] vs) H := by
  obtain ⟨x, rfl, hk, q⟩ := h
  refine ⟨rfl, ?_⟩
  rw [show L2.start ["thing"] [x] = [some x] from rfl]
  unfold t_is_number
  simp only [tSeq, tWhile, tAnd, tOr, tNot, tTest, tTru, tOp, tUn, tVar, tC, tLst, tTup, tNil, tAsg, tBM, tBM0, tCons, gSub, tIfS, tCB, gName, tRet, tRetN, tNext, tIf, tFn, tDrop, tRaise0, tAndT, tOrT, tNotT, tChain, tAug, tPar, tPar3, for_go, lc_go, iRng1, iRng2, iSeq, List.getElem?_cons_zero, List.getElem?_cons_succ, List.set_cons_zero, List.set_cons_succ, Option.some.injEq, exists_eq_left']
  refine isX_kd (.inl rfl) hk ⟨_, rfl, ?_⟩
  rw [isNum_eq] at q
  by_cases c : isTy "int" x = true
  · rw [if_pos c]
    rw [c] at q
    exact isX_kd (.inr (.inl rfl)) hk ⟨_, rfl, q⟩
  · rw [if_neg c]
    rw [Bool.eq_false_iff.mpr c] at q ⊢
    exact q
theorem ok_is_between (h : sp_is_between vs H Q E) : vs.length = 3 ∧ t_is_between K cells acts T pt (Ww E) (Dd Q) (L2.start ["thing", "low", "high"] vs) H := by
  obtain ⟨x, lo, hi, rfl, hk, q⟩ := h
  refine ⟨rfl, ?_⟩
  rw [show L2.start ["thing", "low", "high"] [x, .int lo, .int hi] = [some x, some (.int lo), some (.int hi)] from rfl]
  unfold t_is_between
  simp only [tSeq, tWhile, tAnd, tOr, tNot, tTest, tTru, tOp, tUn, tVar, tC, tLst, tTup, tNil, tAsg, tBM, tBM0, tCons, gSub, tIfS, tCB, gName, tRet, tRetN, tNext, tIf, tFn, tDrop, tRaise0, tAndT, tOrT, tNotT, tChain, tAug, tPar, tPar3, for_go, lc_go, iRng1, iRng2, iSeq, List.getElem?_cons_zero, List.getElem?_cons_succ, List.set_cons_zero, List.set_cons_succ, Option.some.injEq, exists_eq_left']
  refine ⟨rfl, rfl, x, rfl, hk, _, rfl, ?_⟩
  cases x with
  | int i =>
    rw [if_pos (show isNum (.int i) = true from rfl)]
    refine le_int ⟨_, rfl, ?_⟩
    by_cases c : lo ≤ i
    · rw [if_pos (decide_eq_true c)]
      refine le_int ?_
      have e : btw (.int i) lo hi = decide (i ≤ hi) := by
        show (decide (lo ≤ i) && decide (i ≤ hi)) = _
        rw [decide_eq_true c, Bool.true_and]
      rw [e] at q
      exact q
    · rw [if_neg (by simpa using c)]
      have e : btw (.int i) lo hi = false := by
        show (decide (lo ≤ i) && decide (i ≤ hi)) = _
        rw [decide_eq_false c, Bool.false_and]
      rw [e] at q
      exact q
  | _ => exact q
theorem ok_is_told (h : sp_is_told vs H Q E) : vs.length = 1 ∧ t_is_told K cells acts T pt (Ww E) (Dd Q) (L2.start ["thing"] vs) H := by
  obtain ⟨x, rfl, hk, q⟩ := h
  refine ⟨rfl, ?_⟩
  rw [show L2.start ["thing"] [x] = [some x] from rfl]
  unfold t_is_told
  simp only [tSeq, tWhile, tAnd, tOr, tNot, tTest, tTru, tOp, tUn, tVar, tC, tLst, tTup, tNil, tAsg, tBM, tBM0, tCons, gSub, tIfS, tCB, gName, tRet, tRetN, tNext, tIf, tFn, tDrop, tRaise0, tAndT, tOrT, tNotT, tChain, tAug, tPar, tPar3, for_go, lc_go, iRng1, iRng2, iSeq, List.getElem?_cons_zero, List.getElem?_cons_succ, List.set_cons_zero, List.set_cons_succ, Option.some.injEq, exists_eq_left']
  exact ⟨32767, rfl, rfl, rfl, x, -32767, 32767, rfl, hk, q⟩
theorem ok_is_bits (h : sp_is_bits vs H Q E) : vs.length = 1 ∧ t_is_bits K cells acts T pt (Ww E) (Dd Q) (L2.start ["thing"] vs) H := by
  obtain ⟨x, rfl, hk, hl, q⟩ := h
  refine ⟨rfl, ?_⟩
  rw [show L2.start ["thing"] [x] = [some x] from rfl]
  unfold t_is_bits
  simp only [tSeq, tWhile, tAnd, tOr, tNot, tTest, tTru, tOp, tUn, tVar, tC, tLst, tTup, tNil, tAsg, tBM, tBM0, tCons, gSub, tIfS, tCB, gName, tRet, tRetN, tNext, tIf, tFn, tDrop, tRaise0, tAndT, tOrT, tNotT, tChain, tAug, tPar, tPar3, for_go, lc_go, iRng1, iRng2, iSeq, List.getElem?_cons_zero, List.getElem?_cons_succ, List.set_cons_zero, List.set_cons_succ, Option.some.injEq, exists_eq_left']
  refine isX_kd (.inr (.inr rfl)) hk ⟨_, rfl, ?_⟩
  cases x with
  | str a =>
    rw [if_pos (show isTy "str" (.str a) = true from rfl)]
    have l := hl a rfl
    have sl : sizeLine = 16777216 := sizeLine_eq
    exact ⟨rfl, a, "01", rfl, rfl, by omega, eq_str q⟩
  | _ => exact q
theorem need_ok {C : Str} {lo hi : Int} {x : V} {D : Ends} {σ : L2.St} (hk : Kd H x) (h1 : btw x lo hi = true → D.nx σ H) (h2 : btw x lo hi = false → E (bad K C) none H) :
    tIfS (fun _ H Q => ∃ k, TruV K (.bl (btw x lo hi)) H k ∧ Q (!k) H) (tRaise0 (He.ga K C) (Ww E)) tNext D σ H := by
  unfold tIfS
  refine ⟨_, rfl, ?_⟩
  cases c : btw x lo hi with
  | true => exact h1 c
  | false => exact h2 c
theorem ok_need_told (h : sp_need K "BadNumber" (-32767) 32767 vs H Q E) : vs.length = 1 ∧ t_need_told K cells acts T pt (Ww E) (Dd Q) (L2.start ["number"] vs) H := by
  obtain ⟨x, rfl, hk, h1, h2⟩ := h
  refine ⟨rfl, ?_⟩
  rw [show L2.start ["number"] [x] = [some x] from rfl]
  unfold t_need_told
  simp only [tSeq, tWhile, tAnd, tOr, tNot, tTest, tTru, tOp, tUn, tVar, tC, tLst, tTup, tNil, tAsg, tBM, tBM0, tCons, gSub, tIfS, tCB, gName, tRet, tRetN, tNext, tIf, tFn, tDrop, tRaise0, tAndT, tOrT, tNotT, tChain, tAug, tPar, tPar3, for_go, lc_go, iRng1, iRng2, iSeq, List.getElem?_cons_zero, List.getElem?_cons_succ, List.set_cons_zero, List.set_cons_succ, Option.some.injEq, exists_eq_left']
  refine ⟨rfl, rfl, x, rfl, hk, _, rfl, ?_⟩
  cases c : btw x (-32767) 32767 with
  | true => exact h1 c
  | false => exact h2 c
theorem ok_need_grade (h : sp_need K "BadGrade" 0 7 vs H Q E) : vs.length = 1 ∧ t_need_grade K cells acts T pt (Ww E) (Dd Q) (L2.start ["grade"] vs) H := by
  obtain ⟨x, rfl, hk, h1, h2⟩ := h
  refine ⟨rfl, ?_⟩
  rw [show L2.start ["grade"] [x] = [some x] from rfl]
  unfold t_need_grade
  simp only [tSeq, tWhile, tAnd, tOr, tNot, tTest, tTru, tOp, tUn, tVar, tC, tLst, tTup, tNil, tAsg, tBM, tBM0, tCons, gSub, tIfS, tCB, gName, tRet, tRetN, tNext, tIf, tFn, tDrop, tRaise0, tAndT, tOrT, tNotT, tChain, tAug, tPar, tPar3, for_go, lc_go, iRng1, iRng2, iSeq, List.getElem?_cons_zero, List.getElem?_cons_succ, List.set_cons_zero, List.set_cons_succ, Option.some.injEq, exists_eq_left']
  refine ⟨rfl, rfl, x, 0, 7, rfl, hk, _, rfl, ?_⟩
  cases c : btw x 0 7 with
  | true => exact h1 c
  | false => exact h2 c
theorem ok_need_many (h : sp_need K "BadMany" 1 16 vs H Q E) : vs.length = 1 ∧ t_need_many K cells acts T pt (Ww E) (Dd Q) (L2.start ["many"] vs) H := by
  obtain ⟨x, rfl, hk, h1, h2⟩ := h
  refine ⟨rfl, ?_⟩
  rw [show L2.start ["many"] [x] = [some x] from rfl]
  unfold t_need_many
  simp only [tSeq, tWhile, tAnd, tOr, tNot, tTest, tTru, tOp, tUn, tVar, tC, tLst, tTup, tNil, tAsg, tBM, tBM0, tCons, gSub, tIfS, tCB, gName, tRet, tRetN, tNext, tIf, tFn, tDrop, tRaise0, tAndT, tOrT, tNotT, tChain, tAug, tPar, tPar3, for_go, lc_go, iRng1, iRng2, iSeq, List.getElem?_cons_zero, List.getElem?_cons_succ, List.set_cons_zero, List.set_cons_succ, Option.some.injEq, exists_eq_left']
  refine ⟨rfl, rfl, x, 1, 16, rfl, hk, _, rfl, ?_⟩
  cases c : btw x 1 16 with
  | true => exact h1 c
  | false => exact h2 c
theorem fold_read {i : Int} {σ : L2.St} (h1 : -1000000000000 < i) (h2 : i < 1000000000000) (q : Q (.int (foldZ i)) H) (e : σ[0]? = some (some (.int i))) :
    (tIf (tTest (tOp (G.rCmp K .Gt) (tVar 0) (tC (.int 0)))) (tOp (G.rBin K .Sub) (tOp (G.rBin K .Mult) (tC (.int 2)) (tVar 0)) (tC (.int 1))) (tOp (G.rBin K .Mult) (tUn (rU fun i => .int (-i)) (tC (.int 2))) (tVar 0))) σ H Q := by
  simp only [tIf, tTest, tOp, tUn, tVar, tC, e, Option.some.injEq, exists_eq_left']
  refine gt_int ⟨_, rfl, ?_⟩
  unfold foldZ at q
  by_cases c : 0 < i
  · rw [if_pos (decide_eq_true c)]
    rw [if_pos c] at q
    exact mul_int (by decide) (by decide) (sub_int q)
  · rw [if_neg (by simpa using c)]
    rw [if_neg c] at q
    exact ⟨2, rfl, mul_int (by decide) (by decide) q⟩
theorem ok_fold (h : sp_fold vs H Q E) : vs.length = 1 ∧ t_fold K cells acts T pt (Ww E) (Dd Q) (L2.start ["number"] vs) H := by
  obtain ⟨i, rfl, h1, h2, q⟩ := h
  refine ⟨rfl, ?_⟩
  exact fold_read (K := K) h1 h2 q rfl
theorem ok_unfold (h : sp_unfold vs H Q E) : vs.length = 1 ∧ t_unfold K cells acts T pt (Ww E) (Dd Q) (L2.start ["number"] vs) H := by
  obtain ⟨i, rfl, q⟩ := h
  refine ⟨rfl, ?_⟩
  rw [show L2.start ["number"] [V.int i] = [some (.int i)] from rfl]
  unfold t_unfold
  simp only [tSeq, tWhile, tAnd, tOr, tNot, tTest, tTru, tOp, tUn, tVar, tC, tLst, tTup, tNil, tAsg, tBM, tBM0, tCons, gSub, tIfS, tCB, gName, tRet, tRetN, tNext, tIf, tFn, tDrop, tRaise0, tAndT, tOrT, tNotT, tChain, tAug, tPar, tPar3, for_go, lc_go, iRng1, iRng2, iSeq, List.getElem?_cons_zero, List.getElem?_cons_succ, List.set_cons_zero, List.set_cons_succ, Option.some.injEq, exists_eq_left']
  refine mod_int (by decide) (eq_int ⟨_, rfl, ?_⟩)
  unfold unfoldZ at q
  by_cases c : i % 2 = 1
  · rw [if_pos (decide_eq_true c)]
    rw [if_pos c] at q
    exact div_int (K := K) (by decide) (by decide) q
  · rw [if_neg (by simpa using c)]
    rw [if_neg c] at q
    exact div_int (K := K) (by decide) (by decide) ⟨_, rfl, q⟩
theorem ok_folded (h : sp_folded K vs H Q E) : vs.length = 1 ∧ t_folded K cells acts T pt (Ww E) (Dd Q) (L2.start ["number"] vs) H := by
  obtain ⟨x, rfl, hk, h1, h2⟩ := h
  refine ⟨rfl, ?_⟩
  rw [show L2.start ["number"] [x] = [some x] from rfl]
  unfold t_folded
  simp only [tSeq, tWhile, tAnd, tOr, tNot, tTest, tTru, tOp, tUn, tVar, tC, tLst, tTup, tNil, tAsg, tBM, tBM0, tCons, gSub, tIfS, tCB, gName, tRet, tRetN, tNext, tIf, tFn, tDrop, tRaise0, tAndT, tOrT, tNotT, tChain, tAug, tPar, tPar3, for_go, lc_go, iRng1, iRng2, iSeq, List.getElem?_cons_zero, List.getElem?_cons_succ, List.set_cons_zero, List.set_cons_succ, Option.some.injEq, exists_eq_left']
  refine ⟨rfl, rfl, x, rfl, hk, fun c => ?_, h2⟩
  obtain ⟨i, rfl, c1, c2⟩ := btw_int c
  exact ⟨rfl, rfl, i, rfl, by omega, by omega, h1 i rfl c1 c2⟩
theorem ok_unfolded (h : sp_unfolded K vs H Q E) : vs.length = 1 ∧ t_unfolded K cells acts T pt (Ww E) (Dd Q) (L2.start ["number"] vs) H := by
  obtain ⟨x, rfl, hk, h1, h2⟩ := h
  refine ⟨rfl, ?_⟩
  rw [show L2.start ["number"] [x] = [some x] from rfl]
  unfold t_unfolded
  simp only [tSeq, tWhile, tAnd, tOr, tNot, tTest, tTru, tOp, tUn, tVar, tC, tLst, tTup, tNil, tAsg, tBM, tBM0, tCons, gSub, tIfS, tCB, gName, tRet, tRetN, tNext, tIf, tFn, tDrop, tRaise0, tAndT, tOrT, tNotT, tChain, tAug, tPar, tPar3, for_go, lc_go, iRng1, iRng2, iSeq, List.getElem?_cons_zero, List.getElem?_cons_succ, List.set_cons_zero, List.set_cons_succ, Option.some.injEq, exists_eq_left']
  refine ⟨rfl, rfl, x, 0, 65534, rfl, hk, _, rfl, ?_⟩
  cases c : btw x 0 65534 with
  | true =>
    obtain ⟨i, rfl, c1, c2⟩ := btw_int c
    exact ⟨rfl, rfl, i, rfl, h1 i rfl c1 c2⟩
  | false => exact h2 c
theorem foldZ_bounds {i : Int} (h1 : -32768 < i) (h2 : i < 32768) : 0 ≤ foldZ i ∧ foldZ i ≤ 65534 := by
  unfold foldZ
  split <;> omega
theorem str_dig {H : Hp} {i : Int} {Q : VK} (q : Q (.str (dig i)) H) : G.rStr1 [.int (i % 2)] H Q := by
  refine ⟨?_, q⟩
  rcases Int.emod_two_eq i with h | h <;> rw [h] <;> decide
theorem add_str {K : PySem.W.Frag} {H : Hp} {a b : Str} {Q : VK} (h : a.length + b.length ≤ 100000) (q : Q (.str (a ++ b)) H) : G.rBin K .Add (.str a) (.str b) H Q :=
  ⟨Nat.le_trans h (by rw [sizeLine_eq]; decide), q⟩
theorem mul_ones {K : PySem.W.Frag} {H : Hp} {n : Nat} {Q : VK} (h : n ≤ 1000000) (q : Q (.str (ones n)) H) : G.rBin K .Mult (.str "1") (.int n) H Q := ⟨mul_ok1 h, q⟩
theorem shl_one {K : PySem.W.Frag} {H : Hp} {n : Nat} {j : Int} {Q : VK} (e : j = n) (h : n ≤ 1000000) (q : Q (.int (2 ^ n)) H) : G.rBin K .LShift (.int 1) (.int j) H Q := by
  subst e
  refine ⟨⟨by omega, by omega, by decide⟩, ?_⟩
  show Q (.int (1 * 2 ^ (n : Int).toNat)) H
  rw [Int.one_mul, Int.toNat_natCast]
  exact q
theorem log_le {t : Int} {j : Nat} (h : 0 < t) : j ≤ t.toNat.log2 ↔ (2 : Int) ^ j ≤ t := by
  rw [Nat.le_log2 (by omega)]
  have e : ((2 ^ j : Nat) : Int) = (2 : Int) ^ j := by rw [Int.natCast_pow]; rfl
  constructor
  · intro z
    rw [← e]
    omega
  · intro z
    rw [← e] at z
    omega
theorem log_small {t : Int} {k : Nat} (h : 0 < t) (h2 : t < 2 ^ (k + 1)) : t.toNat.log2 ≤ k := by
  have : ¬ (k + 1 ≤ t.toNat.log2) := fun z => by
    rw [log_le h] at z
    omega
  omega
theorem ok_in_twos (h : sp_in_twos vs H Q E) : vs.length = 2 ∧ t_in_twos K cells acts T pt (Ww E) (Dd Q) (L2.start ["number", "many", "found", "turn"] vs) H := by
  obtain ⟨i, k, rfl, h0, h1, q⟩ := h
  refine ⟨rfl, ?_⟩
  rw [show L2.start ["number", "many", "found", "turn"] [V.int i, V.int k] = [some (.int i), some (.int k), none, none] from rfl]
  unfold t_in_twos
  simp only [tSeq, tWhile, tAnd, tOr, tNot, tTest, tTru, tOp, tUn, tVar, tC, tLst, tTup, tNil, tAsg, tBM, tBM0, tCons, gSub, tIfS, tCB, gName, tRet, tRetN, tNext, tIf, tFn, tDrop, tRaise0, tAndT, tOrT, tNotT, tChain, tAug, tPar, tPar3, for_go, lc_go, iRng1, iRng2, iSeq, List.getElem?_cons_zero, List.getElem?_cons_succ, List.set_cons_zero, List.set_cons_succ, Option.some.injEq, exists_eq_left']
  refine ⟨k, rfl, by omega, by omega, ?_⟩
  refine go_rng (fun m σ H' => H' = H ∧ ∃ (a : Int) (acc : Str) (tn : Option V), σ = [some (.int a), some (.int k), some (.str acc), tn] ∧ acc.length = m ∧ tw (k.toNat - m) a acc = tw k.toNat i "") ⟨rfl, i, "", none, rfl, len_e, rfl⟩ ?_ ?_
  · rintro m σ H' hm ⟨rfl, a, acc, tn, rfl, hl, ht⟩
    simp only [tSeq, tWhile, tAnd, tOr, tNot, tTest, tTru, tOp, tUn, tVar, tC, tLst, tTup, tNil, tAsg, tBM, tBM0, tCons, gSub, tIfS, tCB, gName, tRet, tRetN, tNext, tIf, tFn, tDrop, tRaise0, tAndT, tOrT, tNotT, tChain, tAug, tPar, tPar3, for_go, lc_go, iRng1, iRng2, iSeq, List.getElem?_cons_zero, List.getElem?_cons_succ, List.set_cons_zero, List.set_cons_succ, Option.some.injEq, exists_eq_left']
    refine mod_int (by decide) (str_dig (add_str (by rw [dig_len]; omega) ⟨⟨by decide, by decide⟩, rfl, a / 2, dig a ++ acc, _, rfl, by rw [strLen_append, dig_len]; omega, ?_⟩))
    rw [← ht]
    have e : k.toNat - m = (k.toNat - (m + 1)) + 1 := by omega
    rw [e]
    rfl
  · rintro σ H' ⟨rfl, a, acc, tn, rfl, hl, ht⟩
    simp only [tSeq, tWhile, tAnd, tOr, tNot, tTest, tTru, tOp, tUn, tVar, tC, tLst, tTup, tNil, tAsg, tBM, tBM0, tCons, gSub, tIfS, tCB, gName, tRet, tRetN, tNext, tIf, tFn, tDrop, tRaise0, tAndT, tOrT, tNotT, tChain, tAug, tPar, tPar3, for_go, lc_go, iRng1, iRng2, iSeq, List.getElem?_cons_zero, List.getElem?_cons_succ, List.set_cons_zero, List.set_cons_succ, Option.some.injEq, exists_eq_left']
    rw [Nat.sub_self] at ht
    rw [← ht] at q
    exact q
theorem ok_long_word (h : sp_long_word vs H Q E) : vs.length = 1 ∧ t_long_word K cells acts T pt (Ww E) (Dd Q) (L2.start ["number", "told", "many"] vs) H := by
  obtain ⟨i, rfl, h1, h2, q⟩ := h
  refine ⟨rfl, ?_⟩
  rw [show L2.start ["number", "told", "many"] [V.int i] = [some (.int i), none, none] from rfl]
  unfold t_long_word
  simp only [tSeq, tWhile, tAnd, tOr, tNot, tTest, tTru, tOp, tUn, tVar, tC, tLst, tTup, tNil, tAsg, tBM, tBM0, tCons, gSub, tIfS, tCB, gName, tRet, tRetN, tNext, tIf, tFn, tDrop, tRaise0, tAndT, tOrT, tNotT, tChain, tAug, tPar, tPar3, for_go, lc_go, iRng1, iRng2, iSeq, List.getElem?_cons_zero, List.getElem?_cons_succ, List.set_cons_zero, List.set_cons_succ, Option.some.injEq, exists_eq_left']
  obtain ⟨b1, b2⟩ := foldZ_bounds h1 h2
  refine ⟨rfl, rfl, i, rfl, by omega, by omega, add_int ⟨_, _, rfl, ?_⟩⟩
  have tp : 0 < foldZ i + 1 := by omega
  have L : (foldZ i + 1).toNat.log2 ≤ 16 := log_small tp (by omega)
  refine ⟨fun m σ H' => H' = H ∧ ∃ j : Nat, σ = [some (.int i), some (.int (foldZ i + 1)), some (.int j)] ∧ j + m = many i, ⟨many i, rfl, 0, rfl, by omega⟩, ?_⟩
  rintro m σ H' ⟨rfl, j, rfl, hj⟩
  have L2' : j ≤ 16 := by unfold many at hj; omega
  simp only [tSeq, tWhile, tAnd, tOr, tNot, tTest, tTru, tOp, tUn, tVar, tC, tLst, tTup, tNil, tAsg, tBM, tBM0, tCons, gSub, tIfS, tCB, gName, tRet, tRetN, tNext, tIf, tFn, tDrop, tRaise0, tAndT, tOrT, tNotT, tChain, tAug, tPar, tPar3, for_go, lc_go, iRng1, iRng2, iSeq, List.getElem?_cons_zero, List.getElem?_cons_succ, List.set_cons_zero, List.set_cons_succ, Option.some.injEq, exists_eq_left']
  refine add_int (shl_one (n := j + 1) (by omega) (by omega) (ge_int ⟨_, rfl, ?_⟩))
  by_cases c : (2 : Int) ^ (j + 1) ≤ foldZ i + 1
  · rw [if_pos (decide_eq_true c)]
    have c2 := (log_le tp).mpr c
    refine ⟨fun σ H' => H' = _ ∧ σ = [some (.int i), some (.int (foldZ i + 1)), some (.int (j + 1 : Nat))], fun σ' H2 ⟨e1, e2⟩ => ⟨m - 1, by unfold many at hj; omega, e1, j + 1, e2, by unfold many at hj ⊢; omega⟩, ?_⟩
    exact ⟨rfl, rfl⟩
  · rw [if_neg (by simpa using c)]
    have ej : j = many i := by
      have z : ¬ (j + 1 ≤ many i) := fun z => c ((log_le tp).mp z)
      omega
    subst ej
    refine mul_ones (by omega) (add_str (by rw [ones_len, len_0]; omega) ?_)
    refine shl_one rfl (by omega) (sub_int ⟨rfl, rfl, _, _, rfl, by omega, by omega, ?_⟩)
    have et : tw (many i : Int).toNat (foldZ i + 1 - 2 ^ many i) "" = tw (many i) (foldZ i + 1) "" := by
      rw [Int.toNat_natCast]
      have z := tw_low (many i) (foldZ i + 1) (-1) ""
      rw [Int.mul_neg, Int.mul_one] at z
      exact z
    rw [et]
    refine add_str ?_ q
    rw [strLen_append, ones_len, len_0, tw_len, len_e]
    omega
theorem ok_long_bits (h : sp_long_bits K vs H Q E) : vs.length = 1 ∧ t_long_bits K cells acts T pt (Ww E) (Dd Q) (L2.start ["number"] vs) H := by
  obtain ⟨x, rfl, hk, h1, h2⟩ := h
  refine ⟨rfl, ?_⟩
  rw [show L2.start ["number"] [x] = [some x] from rfl]
  unfold t_long_bits
  simp only [tSeq, tWhile, tAnd, tOr, tNot, tTest, tTru, tOp, tUn, tVar, tC, tLst, tTup, tNil, tAsg, tBM, tBM0, tCons, gSub, tIfS, tCB, gName, tRet, tRetN, tNext, tIf, tFn, tDrop, tRaise0, tAndT, tOrT, tNotT, tChain, tAug, tPar, tPar3, for_go, lc_go, iRng1, iRng2, iSeq, List.getElem?_cons_zero, List.getElem?_cons_succ, List.set_cons_zero, List.set_cons_succ, Option.some.injEq, exists_eq_left']
  refine ⟨rfl, rfl, x, rfl, hk, fun c => ?_, h2⟩
  obtain ⟨i, rfl, c1, c2⟩ := btw_int c
  exact ⟨rfl, rfl, i, rfl, by omega, by omega, h1 i rfl c1 c2⟩
theorem ok_fixed_bits (h : sp_fixed_bits K vs H Q E) : vs.length = 2 ∧ t_fixed_bits K cells acts T pt (Ww E) (Dd Q) (L2.start ["number", "many"] vs) H := by
  obtain ⟨x, y, rfl, hk, hy, h1, h2, h3⟩ := h
  refine ⟨rfl, ?_⟩
  rw [show L2.start ["number", "many"] [x, y] = [some x, some y] from rfl]
  unfold t_fixed_bits
  simp only [tSeq, tWhile, tAnd, tOr, tNot, tTest, tTru, tOp, tUn, tVar, tC, tLst, tTup, tNil, tAsg, tBM, tBM0, tCons, gSub, tIfS, tCB, gName, tRet, tRetN, tNext, tIf, tFn, tDrop, tRaise0, tAndT, tOrT, tNotT, tChain, tAug, tPar, tPar3, for_go, lc_go, iRng1, iRng2, iSeq, List.getElem?_cons_zero, List.getElem?_cons_succ, List.set_cons_zero, List.set_cons_succ, Option.some.injEq, exists_eq_left']
  refine ⟨rfl, rfl, y, rfl, hy, fun c => ?_, h2⟩
  obtain ⟨k, rfl, c1, c2⟩ := btw_int c
  refine shl_one (n := k.toNat) (by omega) (by omega) (sub_int ⟨rfl, rfl, x, 0, _, rfl, hk, _, rfl, ?_⟩)
  cases c3 : btw x 0 (2 ^ k.toNat - 1) with
  | true =>
    obtain ⟨i, rfl, d1, d2⟩ := btw_int c3
    exact ⟨rfl, rfl, i, k, rfl, by omega, by omega, h1 i k rfl rfl c1 c2 d1 (by omega)⟩
  | false => exact h3 k rfl c1 c2 c3
theorem lt_int {K : PySem.W.Frag} {H : Hp} {i j : Int} {Q : VK} (q : Q (.bl (decide (i < j))) H) : G.rCmp K .Lt (.int i) (.int j) H Q := q
theorem ok_grade_word (h : sp_grade_word vs H Q E) : vs.length = 2 ∧ t_grade_word K cells acts T pt (Ww E) (Dd Q) (L2.start ["number", "grade", "told", "ones"] vs) H := by
  obtain ⟨i, g, rfl, h1, h2, g0, g1, q⟩ := h
  refine ⟨rfl, ?_⟩
  rw [show L2.start ["number", "grade", "told", "ones"] [V.int i, V.int g] = [some (.int i), some (.int g), none, none] from rfl]
  unfold t_grade_word
  simp only [tSeq, tWhile, tAnd, tOr, tNot, tTest, tTru, tOp, tUn, tVar, tC, tLst, tTup, tNil, tAsg, tBM, tBM0, tCons, gSub, tIfS, tCB, gName, tRet, tRetN, tNext, tIf, tFn, tDrop, tRaise0, tAndT, tOrT, tNotT, tChain, tAug, tPar, tPar3, for_go, lc_go, iRng1, iRng2, iSeq, List.getElem?_cons_zero, List.getElem?_cons_succ, List.set_cons_zero, List.set_cons_succ, Option.some.injEq, exists_eq_left']
  obtain ⟨b1, b2⟩ := foldZ_bounds h1 h2
  refine ⟨rfl, rfl, i, rfl, by omega, by omega, ⟨g0, lt_int ⟨_, rfl, ?_⟩⟩⟩
  have p0 : (0 : Int) < 2 ^ g.toNat := Int.pow_pos (by decide)
  have o0 : 0 ≤ foldZ i / 2 ^ g.toNat := Int.ediv_nonneg b1 (Int.le_of_lt p0)
  unfold gradeW at q
  by_cases c : foldZ i / 2 ^ g.toNat < 12
  · rw [if_pos (decide_eq_true c)]
    rw [if_pos c] at q
    obtain ⟨n, hn⟩ : ∃ n : Nat, foldZ i / 2 ^ g.toNat = n := ⟨_, (Int.toNat_of_nonneg o0).symm⟩
    rw [hn] at q c ⊢
    refine mul_ones (by omega) (add_str (by rw [ones_len, len_0]; omega) ?_)
    refine shl_one (n := g.toNat) (by omega) (by omega) (mod_int p0 ⟨rfl, rfl, _, _, rfl, by omega, by omega, ?_⟩)
    rw [Int.toNat_natCast] at q
    refine add_str ?_ q
    rw [strLen_append, ones_len, len_0, tw_len, len_e]
    omega
  · rw [if_neg (by simpa using c)]
    rw [if_neg c] at q
    refine mul_ones (n := 12) (by omega) ⟨rfl, rfl, _, 16, rfl, by omega, by omega, ?_⟩
    refine add_str ?_ q
    rw [ones_len, tw_len, len_e]
    show 12 + (16 + 0) ≤ _
    decide
theorem ok_grade_bits (h : sp_grade_bits K vs H Q E) : vs.length = 2 ∧ t_grade_bits K cells acts T pt (Ww E) (Dd Q) (L2.start ["number", "grade"] vs) H := by
  obtain ⟨x, y, rfl, hk, hy, h1, h2, h3⟩ := h
  refine ⟨rfl, ?_⟩
  rw [show L2.start ["number", "grade"] [x, y] = [some x, some y] from rfl]
  unfold t_grade_bits
  simp only [tSeq, tWhile, tAnd, tOr, tNot, tTest, tTru, tOp, tUn, tVar, tC, tLst, tTup, tNil, tAsg, tBM, tBM0, tCons, gSub, tIfS, tCB, gName, tRet, tRetN, tNext, tIf, tFn, tDrop, tRaise0, tAndT, tOrT, tNotT, tChain, tAug, tPar, tPar3, for_go, lc_go, iRng1, iRng2, iSeq, List.getElem?_cons_zero, List.getElem?_cons_succ, List.set_cons_zero, List.set_cons_succ, Option.some.injEq, exists_eq_left']
  refine ⟨rfl, rfl, x, rfl, hk, fun c => ?_, h2⟩
  refine ⟨rfl, rfl, y, rfl, hy, fun d => ?_, h3 c⟩
  obtain ⟨i, rfl, c1, c2⟩ := btw_int c
  obtain ⟨g, rfl, d1, d2⟩ := btw_int d
  exact ⟨rfl, rfl, i, g, rfl, by omega, by omega, d1, d2, h1 i g rfl rfl c1 c2 d1 d2⟩
end
end Pk

set_option Elab.async false
set_option linter.all false
set_option maxRecDepth 100000
set_option maxHeartbeats 8000000
namespace Pk
open PySem PySem.Spec PyProof.Rows L2 LamX G
/-! ## signs in a row -/
def onesL (l : List Nat) (p : Nat) : Nat := ((l.drop p).takeWhile (fun c => c == 49)).length
def valL (l : List Nat) : Int := l.foldl (fun n c => 2 * n + (if c = 49 then 1 else 0)) 0
theorem whl_get {f : Nat → Bool} : ∀ {l : List Nat} {j : Nat}, j < (l.takeWhile f).length → ∃ c, l[j]? = some c ∧ f c = true
  | [], j, h => by simp at h
  | c :: r, j, h => by
    rw [List.takeWhile_cons] at h
    by_cases q : f c = true
    · rw [if_pos q] at h
      cases j with
      | zero => exact ⟨c, rfl, q⟩
      | succ j => exact whl_get (l := r) (by simpa using h)
    · rw [if_neg q] at h
      simp at h
theorem whl_stop {f : Nat → Bool} : ∀ {l : List Nat} {c : Nat}, l[(l.takeWhile f).length]? = some c → f c = false
  | [], c, h => by simp at h
  | d :: r, c, h => by
    rw [List.takeWhile_cons] at h
    by_cases q : f d = true
    · rw [if_pos q, List.length_cons, List.getElem?_cons_succ] at h
      exact whl_stop h
    · rw [if_neg q] at h
      have e : d = c := by simpa using h
      rw [← e]
      exact Bool.eq_false_iff.mpr q
theorem ones_in {l : List Nat} {p j : Nat} (h : j < onesL l p) : l[p + j]? = some 49 := by
  obtain ⟨c, e, q⟩ := whl_get h
  rw [List.getElem?_drop] at e
  rw [e, beq_iff_eq.mp q]
theorem ones_end {l : List Nat} {p : Nat} : l[p + onesL l p]? ≠ some 49 := fun e => by
  have e2 : (l.drop p)[((l.drop p).takeWhile (fun c => c == 49)).length]? = some 49 := by
    rw [List.getElem?_drop]
    exact e
  have z := whl_stop e2
  cases z
theorem ones_le {l : List Nat} {p : Nat} (h : p ≤ l.length) : p + onesL l p ≤ l.length := by
  by_cases c : onesL l p = 0
  · omega
  · have z := ones_in (l := l) (p := p) (j := onesL l p - 1) (by omega)
    have z2 := (List.getElem?_eq_some_iff.mp z).1
    omega
theorem val_snoc (l : List Nat) (c : Nat) : valL (l ++ [c]) = 2 * valL l + (if c = 49 then 1 else 0) := by
  unfold valL
  rw [List.foldl_append]
  rfl
theorem val_take {l : List Nat} {i c : Nat} (h : l[i]? = some c) : valL (l.take (i + 1)) = 2 * valL (l.take i) + (if c = 49 then 1 else 0) := by
  rw [List.take_succ, h]
  exact val_snoc _ _
theorem cps_one : (("1" : Str)) = ⟨#[49]⟩ := by decide +kernel
theorem cps_zero : (("0" : Str)) = ⟨#[48]⟩ := by decide +kernel
theorem sign_one {c d : Nat} : ((⟨#[c]⟩ : Str) = ⟨#[d]⟩) ↔ c = d := by
  constructor
  · intro h
    have z := congrArg (fun s : Str => s.cps.toList) h
    simpa using z
  · intro h
    rw [h]
theorem cut_nat {z : Str} {p q : Nat} (h : q ≤ z.length) : (cutS z (some (p : Int)) (some (q : Int))).cps.toList = (z.cps.toList.drop p).take (q - p) := by
  have ll : z.cps.toList.length = z.length := len_cps z
  unfold cutS
  rw [HT.sIx_nat, HT.sIx_nat]
  show (z.cps.toList.drop (min p z.length)).take (min q z.length - min p z.length) = _
  by_cases c : p ≤ z.length
  · rw [Nat.min_eq_left c, Nat.min_eq_left h]
  · rw [Nat.min_eq_right (a := p) (b := z.length) (by omega), Nat.min_eq_left h, List.drop_eq_nil_of_le (i := z.length) (by omega), List.drop_eq_nil_of_le (i := p) (by omega)]
    simp
theorem cut_sign {z : Str} {p c : Nat} : cutS z (some (p : Int)) (some ((p : Int) + 1)) = ⟨#[c]⟩ ↔ z.cps.toList[p]? = some c := by
  have ll : z.cps.toList.length = z.length := len_cps z
  have e1 : ((p : Int) + 1) = ((p + 1 : Nat) : Int) := rfl
  rw [e1]
  by_cases h : p < z.length
  · have z1 : cutS z (some (p : Int)) (some ((p + 1 : Nat) : Int)) = ⟨#[z.cps.toList[p]'(by omega)]⟩ := by
      have z2 := cut_nat (z := z) (p := p) (q := p + 1) (by omega)
      rw [show p + 1 - p = 1 from by omega, List.drop_eq_getElem_cons (by omega)] at z2
      have z3 : (cutS z (some (p : Int)) (some ((p + 1 : Nat) : Int))).cps = #[z.cps.toList[p]'(by omega)] := by
        apply Array.toList_inj.mp
        rw [z2]
        rfl
      cases hh : cutS z (some (p : Int)) (some ((p + 1 : Nat) : Int)) with
      | mk a =>
        rw [hh] at z3
        rw [← z3]
    rw [z1, sign_one, List.getElem?_eq_getElem (by omega)]
    simp
  · constructor
    · intro e
      have z2 := congrArg (fun s : Str => s.cps.toList.length) e
      have z3 : (cutS z (some (p : Int)) (some ((p + 1 : Nat) : Int))).cps.toList.length = 0 := by
        unfold cutS
        rw [HT.sIx_nat, HT.sIx_nat, Nat.min_eq_right (by omega), Nat.min_eq_right (by omega)]
        simp
      have z4 : (cutS z (some (p : Int)) (some ((p + 1 : Nat) : Int))).cps.toList.length = 1 := z2
      omega
    · intro e
      have := (List.getElem?_eq_some_iff.mp e).1
      omega
def fixedR (l : List Nat) (p m : Nat) : Option (Int × Int) := if p + m ≤ l.length then some (valL ((l.drop p).take m), (p : Int) + m) else none
def longR (l : List Nat) (p : Nat) : Option (Int × Int) := if onesL l p ≤ 15 ∧ p + 2 * onesL l p + 1 ≤ l.length then
  some (unfoldZ (2 ^ onesL l p + valL ((l.drop (p + onesL l p + 1)).take (onesL l p)) - 1), (p : Int) + 2 * (onesL l p : Int) + 1) else none
def gradeR (l : List Nat) (p g : Nat) : Option (Int × Int) := if 12 ≤ onesL l p then
    (if p + 28 ≤ l.length ∧ 12 * 2 ^ g ≤ valL ((l.drop (p + 12)).take 16) ∧ valL ((l.drop (p + 12)).take 16) ≤ 65534 then some (unfoldZ (valL ((l.drop (p + 12)).take 16)), (p : Int) + 28) else none)
  else if p + onesL l p + 1 + g ≤ l.length then some (unfoldZ ((onesL l p : Int) * 2 ^ g + valL ((l.drop (p + onesL l p + 1)).take g)), (p : Int) + (onesL l p : Int) + 1 + g) else none
def OutR (K : PySem.W.Frag) (r : Option (Int × Int)) (p : Nat) (H : Hp) (Q : VK) (E : XK) : Prop := match r with
  | some (v, b) => ∀ t, H t = none → Q (.ref t) (upd H t (.tup [.int v, .int b]))
  | none => ∀ d, H d = none → E (bad K "BadStream") (some d) (upd H d (.xd [("at", .int p)]))
/-! ## promises -/
def sp_need_bits (K : PySem.W.Frag) : SpD := fun vs H Q E => ∃ x, vs = [x] ∧ Kd H x ∧ (∀ a, x = .str a → a.length ≤ 1000000) ∧ (isBits x = true → Q .non H) ∧ (isBits x = false → E (bad K "BadBits") none H)
def sp_need_at (K : PySem.W.Frag) : SpD := fun vs H Q E => ∃ a y, vs = [.str a, y] ∧ a.length ≤ 100000 ∧ Kd H y ∧ (btw y 0 a.length = true → Q .non H) ∧ (btw y 0 a.length = false → E (bad K "BadAt") none H)
def sp_from_twos : SpD := fun vs H Q _ => ∃ a, vs = [.str a] ∧ a.length ≤ 100000 ∧ Q (.int (valL a.cps.toList)) H
def sp_ones_at : SpD := fun vs H Q _ => ∃ (a : Str) (p m : Nat), vs = [.str a, .int p, .int m] ∧ a.length ≤ 100000 ∧ Q (.int (min m (onesL a.cps.toList p) : Nat)) H
def sp_take_bits (K : PySem.W.Frag) : SpD := fun vs H Q E => ∃ (a : Str) (p m : Nat) (y : V), vs = [.str a, .int p, .int m, y] ∧ a.length ≤ 100000 ∧ (p + m ≤ a.length → Q (.int (valL ((a.cps.toList.drop p).take m))) H) ∧
  (a.length < p + m → ∀ d, H d = none → E (bad K "BadStream") (some d) (upd H d (.xd [("at", y)])))
def sp_take_fixed (K : PySem.W.Frag) : SpD := fun vs H Q E => ∃ (a : Str) (p m : Nat), vs = [.str a, .int p, .int m] ∧ a.length ≤ 100000 ∧ OutR K (fixedR a.cps.toList p m) p H Q E
def sp_take_long (K : PySem.W.Frag) : SpD := fun vs H Q E => ∃ (a : Str) (p : Nat), vs = [.str a, .int p] ∧ a.length ≤ 100000 ∧ BitS a ∧ OutR K (longR a.cps.toList p) p H Q E
def sp_take_grade (K : PySem.W.Frag) : SpD := fun vs H Q E => ∃ (a : Str) (p g : Nat), vs = [.str a, .int p, .int g] ∧ a.length ≤ 100000 ∧ BitS a ∧ g ≤ 7 ∧ OutR K (gradeR a.cps.toList p g) p H Q E
def sp_read_long (K : PySem.W.Frag) : SpD := fun vs H Q E => ∃ x y, vs = [x, y] ∧ Kd H x ∧ Kd H y ∧ (∀ a, x = .str a → a.length ≤ 100000) ∧ (isBits x = false → E (bad K "BadBits") none H) ∧
  ∀ a, x = .str a → BitS a → (btw y 0 a.length = false → E (bad K "BadAt") none H) ∧ ∀ p : Nat, y = .int p → p ≤ a.length → OutR K (longR a.cps.toList p) p H Q E
def sp_read3 (K : PySem.W.Frag) (C : Str) (lo hi : Nat) (R : List Nat → Nat → Nat → Option (Int × Int)) : SpD := fun vs H Q E => ∃ x y z, vs = [x, y, z] ∧ Kd H x ∧ Kd H y ∧ Kd H z ∧ (∀ a, x = .str a → a.length ≤ 100000) ∧ (isBits x = false → E (bad K "BadBits") none H) ∧
  ∀ a, x = .str a → BitS a → (btw y 0 a.length = false → E (bad K "BadAt") none H) ∧ ∀ p : Nat, y = .int p → p ≤ a.length → (btw z lo hi = false → E (bad K C) none H) ∧ ∀ m : Nat, z = .int m → lo ≤ m → m ≤ hi → OutR K (R a.cps.toList p m) p H Q E
abbrev S_need_bits (K : PySem.W.Frag) : SpG := sh (sp_need_bits K) [0]
abbrev S_need_at (K : PySem.W.Frag) : SpG := sh (sp_need_at K) [0, 1]
abbrev S_from_twos (_ : PySem.W.Frag) : SpG := sh sp_from_twos [0]
abbrev S_ones_at (_ : PySem.W.Frag) : SpG := sh sp_ones_at [0, 1, 2]
abbrev S_take_bits (K : PySem.W.Frag) : SpG := sh (sp_take_bits K) [0, 1, 2, 3]
abbrev S_take_fixed (K : PySem.W.Frag) : SpG := sh (sp_take_fixed K) [0, 1, 2]
abbrev S_take_long (K : PySem.W.Frag) : SpG := sh (sp_take_long K) [0, 1]
abbrev S_take_grade (K : PySem.W.Frag) : SpG := sh (sp_take_grade K) [0, 1, 2]
abbrev S_read_long (K : PySem.W.Frag) : SpG := sh (sp_read_long K) [0, 1]
abbrev S_read_long_k0_at_bits (K : PySem.W.Frag) : SpG := sh (sp_read_long K) [1, 0]
abbrev S_read_grade (K : PySem.W.Frag) : SpG := sh (sp_read3 K "BadGrade" 0 7 gradeR) [0, 1, 2]
abbrev S_read_grade_k0_grade_at_bits (K : PySem.W.Frag) : SpG := sh (sp_read3 K "BadGrade" 0 7 gradeR) [2, 1, 0]
abbrev S_read_fixed (K : PySem.W.Frag) : SpG := sh (sp_read3 K "BadMany" 1 16 fixedR) [0, 1, 2]
abbrev S_read_fixed_k0_bits_many_at (K : PySem.W.Frag) : SpG := sh (sp_read3 K "BadMany" 1 16 fixedR) [0, 2, 1]
/-! ## the readings -/
abbrev act_need_bits (acts : Acts) : Acts := fun g tl => false = true ∧ acts g tl
def t_need_bits (K : PySem.W.Frag) (cells : List (Str × Addr)) (acts : Acts) (T : List (Addr × Str)) (pt : Option Addr) (W : WX) : TS :=
  (tIfS (tNot (tTru K (tFn (S_is_bits K) (fun _ _ => act_need_bits acts) W (tCons (tVar 0) tNil) tNil 1 0)))
  (tRaise0 (He.ga K "BadBits") W)
  tNext)
abbrev act_need_at (acts : Acts) : Acts := fun g tl => false = true ∧ acts g tl
def t_need_at (K : PySem.W.Frag) (cells : List (Str × Addr)) (acts : Acts) (T : List (Addr × Str)) (pt : Option Addr) (W : WX) : TS :=
  (tIfS (tNot (tTru K (tFn (S_is_between K) (fun _ _ => act_need_at acts) W (tCons (tVar 1) (tCons (tC (.int 0)) (tCons (tCB (G.rLen K) (tCons (tVar 0) tNil)) tNil))) tNil 3 0)))
  (tRaise0 (He.ga K "BadAt") W)
  tNext)
abbrev act_from_twos (acts : Acts) : Acts := fun g tl => false = true ∧ acts g tl
def t_from_twos (K : PySem.W.Frag) (cells : List (Str × Addr)) (acts : Acts) (T : List (Addr × Str)) (pt : Option Addr) (W : WX) : TS :=
  (tSeq (tAsg (tC (.int 0)) (gName 1))
  (tSeq (tFor (iSeq K (tVar 0)) (gName 2)
  (tAsg (tOp (G.rBin K .Add) (tOp (G.rBin K .Mult) (tC (.int 2)) (tVar 1)) (tCB G.rInt1 (tCons (tOp (G.rCmp K .Eq) (tVar 2) (tC (.str "1"))) tNil))) (gName 1)))
  (tRet (tVar 1))))
abbrev act_ones_at (acts : Acts) : Acts := fun g tl => false = true ∧ acts g tl
def t_ones_at (K : PySem.W.Frag) (cells : List (Str × Addr)) (acts : Acts) (T : List (Addr × Str)) (pt : Option Addr) (W : WX) : TS :=
  (tSeq (tAsg (tC (.int 0)) (gName 3))
  (tSeq (tWhile (tAnd (tTest (tOp (G.rCmp K .Lt) (tVar 3) (tVar 2))) (tTest (tOp (G.rCmp K .Eq) (tSl (G.rSlG K) (tVar 0) (tPart (tOp (G.rBin K .Add) (tVar 1) (tVar 3))) (tPart (tOp (G.rBin K .Add) (tOp (G.rBin K .Add) (tVar 1) (tVar 3)) (tC (.int 1))))) (tC (.str "1")))))
  (tAug 3 (tC (.int 1)) (G.rAug K .Add)))
  (tRet (tVar 3))))
abbrev act_take_bits (acts : Acts) : Acts := fun g tl => false = true ∧ acts g tl
def t_take_bits (K : PySem.W.Frag) (cells : List (Str × Addr)) (acts : Acts) (T : List (Addr × Str)) (pt : Option Addr) (W : WX) : TS :=
  (tSeq (tIfS (tTest (tOp (G.rCmp K .Gt) (tOp (G.rBin K .Add) (tVar 1) (tVar 2)) (tCB (G.rLen K) (tCons (tVar 0) tNil))))
  (tRaiseA (He.ga K "BadStream") "at" W (tCons (tVar 3) tNil))
  tNext)
  (tRet (tFn (S_from_twos K) (fun _ _ => act_take_bits acts) W (tCons (tSl (G.rSlG K) (tVar 0) (tPart (tVar 1)) (tPart (tOp (G.rBin K .Add) (tVar 1) (tVar 2)))) tNil) tNil 1 0)))
abbrev act_take_fixed (acts : Acts) : Acts := fun g tl => false = true ∧ acts g tl
def t_take_fixed (K : PySem.W.Frag) (cells : List (Str × Addr)) (acts : Acts) (T : List (Addr × Str)) (pt : Option Addr) (W : WX) : TS :=
  (tRet (tTup (tCons (tFn (S_take_bits K) (fun _ _ => act_take_fixed acts) W (tCons (tVar 0) (tCons (tVar 1) (tCons (tVar 2) (tCons (tVar 1) tNil)))) tNil 4 0) (tCons (tOp (G.rBin K .Add) (tVar 1) (tVar 2)) tNil))))
abbrev act_take_long (acts : Acts) : Acts := fun g tl => false = true ∧ acts g tl
def t_take_long (K : PySem.W.Frag) (cells : List (Str × Addr)) (acts : Acts) (T : List (Addr × Str)) (pt : Option Addr) (W : WX) : TS :=
  (tSeq (tAsg (tFn (S_ones_at K) (fun _ _ => act_take_long acts) W (tCons (tVar 0) (tCons (tVar 1) (tCons (tOp (G.rBin K .Add) (tC (.int 15)) (tC (.int 1))) tNil))) tNil 3 0) (gName 2))
  (tSeq (tIfS (tOr (tTest (tOp (G.rCmp K .Gt) (tVar 2) (tC (.int 15)))) (tTest (tOp (G.rCmp K .NotEq) (tSl (G.rSlG K) (tVar 0) (tPart (tOp (G.rBin K .Add) (tVar 1) (tVar 2))) (tPart (tOp (G.rBin K .Add) (tOp (G.rBin K .Add) (tVar 1) (tVar 2)) (tC (.int 1))))) (tC (.str "0")))))
  (tRaiseA (He.ga K "BadStream") "at" W (tCons (tVar 1) tNil))
  tNext)
  (tSeq (tAsg (tFn (S_take_bits K) (fun _ _ => act_take_long acts) W (tCons (tVar 0) (tCons (tOp (G.rBin K .Add) (tOp (G.rBin K .Add) (tVar 1) (tVar 2)) (tC (.int 1))) (tCons (tVar 2) (tCons (tVar 1) tNil)))) tNil 4 0) (gName 3))
  (tRet (tTup (tCons (tFn (S_unfold K) (fun _ _ => act_take_long acts) W (tCons (tOp (G.rBin K .Sub) (tOp (G.rBin K .Add) (tOp (G.rBin K .LShift) (tC (.int 1)) (tVar 2)) (tVar 3)) (tC (.int 1))) tNil) tNil 1 0) (tCons (tOp (G.rBin K .Add) (tOp (G.rBin K .Add) (tVar 1) (tOp (G.rBin K .Mult) (tC (.int 2)) (tVar 2))) (tC (.int 1))) tNil)))))))
abbrev act_take_grade (acts : Acts) : Acts := fun g tl => false = true ∧ acts g tl
def t_take_grade (K : PySem.W.Frag) (cells : List (Str × Addr)) (acts : Acts) (T : List (Addr × Str)) (pt : Option Addr) (W : WX) : TS :=
  (tSeq (tAsg (tFn (S_ones_at K) (fun _ _ => act_take_grade acts) W (tCons (tVar 0) (tCons (tVar 1) (tCons (tC (.int 12)) tNil))) tNil 3 0) (gName 3))
  (tSeq (tIfS (tTest (tOp (G.rCmp K .Eq) (tVar 3) (tC (.int 12))))
  (tSeq (tAsg (tFn (S_take_bits K) (fun _ _ => act_take_grade acts) W (tCons (tVar 0) (tCons (tOp (G.rBin K .Add) (tVar 1) (tVar 3)) (tCons (tC (.int 16)) (tCons (tVar 1) tNil)))) tNil 4 0) (gName 4))
  (tSeq (tIfS (tOr (tTest (tOp (G.rCmp K .Lt) (tVar 4) (tOp (G.rBin K .LShift) (tC (.int 12)) (tVar 2)))) (tTest (tOp (G.rCmp K .Gt) (tVar 4) (tC (.int 65534)))))
  (tRaiseA (He.ga K "BadStream") "at" W (tCons (tVar 1) tNil))
  tNext)
  (tRet (tTup (tCons (tFn (S_unfold K) (fun _ _ => act_take_grade acts) W (tCons (tVar 4) tNil) tNil 1 0) (tCons (tOp (G.rBin K .Add) (tOp (G.rBin K .Add) (tVar 1) (tVar 3)) (tC (.int 16))) tNil))))))
  tNext)
  (tSeq (tIfS (tTest (tOp (G.rCmp K .NotEq) (tSl (G.rSlG K) (tVar 0) (tPart (tOp (G.rBin K .Add) (tVar 1) (tVar 3))) (tPart (tOp (G.rBin K .Add) (tOp (G.rBin K .Add) (tVar 1) (tVar 3)) (tC (.int 1))))) (tC (.str "0"))))
  (tRaiseA (He.ga K "BadStream") "at" W (tCons (tVar 1) tNil))
  tNext)
  (tSeq (tAsg (tFn (S_take_bits K) (fun _ _ => act_take_grade acts) W (tCons (tVar 0) (tCons (tOp (G.rBin K .Add) (tOp (G.rBin K .Add) (tVar 1) (tVar 3)) (tC (.int 1))) (tCons (tVar 2) (tCons (tVar 1) tNil)))) tNil 4 0) (gName 5))
  (tRet (tTup (tCons (tFn (S_unfold K) (fun _ _ => act_take_grade acts) W (tCons (tOp (G.rBin K .Add) (tOp (G.rBin K .LShift) (tVar 3) (tVar 2)) (tVar 5)) tNil) tNil 1 0) (tCons (tOp (G.rBin K .Add) (tOp (G.rBin K .Add) (tOp (G.rBin K .Add) (tVar 1) (tVar 3)) (tC (.int 1))) (tVar 2)) tNil))))))))
abbrev act_read_fixed (acts : Acts) : Acts := fun g tl => false = true ∧ acts g tl
def t_read_fixed (K : PySem.W.Frag) (cells : List (Str × Addr)) (acts : Acts) (T : List (Addr × Str)) (pt : Option Addr) (W : WX) : TS :=
  (tSeq (tDrop (tFn (S_need_bits K) (fun _ _ => act_read_fixed acts) W (tCons (tVar 0) tNil) tNil 1 0))
  (tSeq (tDrop (tFn (S_need_at K) (fun _ _ => act_read_fixed acts) W (tCons (tVar 0) (tCons (tVar 1) tNil)) tNil 2 0))
  (tSeq (tDrop (tFn (S_need_many K) (fun _ _ => act_read_fixed acts) W (tCons (tVar 2) tNil) tNil 1 0))
  (tRet (tFn (S_take_fixed K) (fun _ _ => act_read_fixed acts) W (tCons (tVar 0) (tCons (tVar 1) (tCons (tVar 2) tNil))) tNil 3 0)))))
abbrev act_read_long (acts : Acts) : Acts := fun g tl => false = true ∧ acts g tl
def t_read_long (K : PySem.W.Frag) (cells : List (Str × Addr)) (acts : Acts) (T : List (Addr × Str)) (pt : Option Addr) (W : WX) : TS :=
  (tSeq (tDrop (tFn (S_need_bits K) (fun _ _ => act_read_long acts) W (tCons (tVar 0) tNil) tNil 1 0))
  (tSeq (tDrop (tFn (S_need_at K) (fun _ _ => act_read_long acts) W (tCons (tVar 0) (tCons (tVar 1) tNil)) tNil 2 0))
  (tRet (tFn (S_take_long K) (fun _ _ => act_read_long acts) W (tCons (tVar 0) (tCons (tVar 1) tNil)) tNil 2 0))))
abbrev act_read_grade (acts : Acts) : Acts := fun g tl => false = true ∧ acts g tl
def t_read_grade (K : PySem.W.Frag) (cells : List (Str × Addr)) (acts : Acts) (T : List (Addr × Str)) (pt : Option Addr) (W : WX) : TS :=
  (tSeq (tDrop (tFn (S_need_bits K) (fun _ _ => act_read_grade acts) W (tCons (tVar 0) tNil) tNil 1 0))
  (tSeq (tDrop (tFn (S_need_at K) (fun _ _ => act_read_grade acts) W (tCons (tVar 0) (tCons (tVar 1) tNil)) tNil 2 0))
  (tSeq (tDrop (tFn (S_need_grade K) (fun _ _ => act_read_grade acts) W (tCons (tVar 2) tNil) tNil 1 0))
  (tRet (tFn (S_take_grade K) (fun _ _ => act_read_grade acts) W (tCons (tVar 0) (tCons (tVar 1) (tCons (tVar 2) tNil))) tNil 3 0)))))

/-! ## each promise holds -/
section
variable {K : PySem.W.Frag} {cells : List (Str × Addr)} {acts : Acts} {T : List (Addr × Str)} {pt : Option Addr} {vs : List V} {H : Hp} {Q : VK} {E : XK}
theorem len_txt {K : PySem.W.Frag} {H : Hp} {x : Str} {Q : VK} (h : x.length ≤ 100000) (q : Q (.int x.length) H) : G.rLen K [.str x] H Q := .inl ⟨_, x.length, rfl, ⟨Nat.le_trans h (by rw [sizeLine_eq]; decide), rfl⟩, q⟩
theorem sl_s {K : PySem.W.Frag} {H : Hp} {x : Str} {i j : Int} {p q : Nat} {Q : VK} (h : x.length ≤ 100000) (e : i = p) (e2 : j = q) (hq : Q (.str (cutS x (some (p : Int)) (some (q : Int)))) H) : G.rSlG K (.str x) (some i) (some j) H Q := by
  subst e e2
  exact .inr (.inr ⟨x, rfl, Nat.le_trans h (by rw [sizeLine_eq]; decide), hq⟩)
theorem isBits_in {x : V} (h : isBits x = true) : ∃ a, x = .str a ∧ BitS a := by
  cases x with
  | str a =>
    refine ⟨a, rfl, fun c hc => ?_⟩
    have z : decide (Txt.stripChars a "01" = "") = true := h
    have z1 := of_decide_eq_true z
    refine Classical.byContradiction fun n => ?_
    refine strip_some (y := "01") hc ?_ z1
    have e : (("01" : Str)).cps = #[48, 49] := by decide +kernel
    rw [e]
    simpa using n
  | _ => cases h
theorem ok_need_bits (h : sp_need_bits K vs H Q E) : vs.length = 1 ∧ t_need_bits K cells acts T pt (Ww E) (Dd Q) (L2.start ["bits"] vs) H := by
  obtain ⟨x, rfl, hk, hl, h1, h2⟩ := h
  refine ⟨rfl, ?_⟩
  rw [show L2.start ["bits"] [x] = [some x] from rfl]
  unfold t_need_bits
  simp only [tSeq, tWhile, tAnd, tOr, tNot, tTest, tTru, tOp, tUn, tVar, tC, tLst, tTup, tNil, tAsg, tBM, tBM0, tCons, gSub, tIfS, tCB, gName, tRet, tRetN, tNext, tIf, tFn, tDrop, tRaise0, tAndT, tOrT, tNotT, tChain, tAug, tPar, tPar3, for_go, lc_go, iRng1, iRng2, iSeq, tSl, tPart, tNoPart, tRaiseA, tAttr, List.getElem?_cons_zero, List.getElem?_cons_succ, List.set_cons_zero, List.set_cons_succ, Option.some.injEq, exists_eq_left']
  refine ⟨rfl, rfl, x, rfl, hk, hl, _, rfl, ?_⟩
  cases c : isBits x with
  | true => exact h1 c
  | false => exact h2 c
theorem ok_need_at (h : sp_need_at K vs H Q E) : vs.length = 2 ∧ t_need_at K cells acts T pt (Ww E) (Dd Q) (L2.start ["bits", "at"] vs) H := by
  obtain ⟨a, y, rfl, hl, hk, h1, h2⟩ := h
  refine ⟨rfl, ?_⟩
  rw [show L2.start ["bits", "at"] [.str a, y] = [some (.str a), some y] from rfl]
  unfold t_need_at
  simp only [tSeq, tWhile, tAnd, tOr, tNot, tTest, tTru, tOp, tUn, tVar, tC, tLst, tTup, tNil, tAsg, tBM, tBM0, tCons, gSub, tIfS, tCB, gName, tRet, tRetN, tNext, tIf, tFn, tDrop, tRaise0, tAndT, tOrT, tNotT, tChain, tAug, tPar, tPar3, for_go, lc_go, iRng1, iRng2, iSeq, tSl, tPart, tNoPart, tRaiseA, tAttr, List.getElem?_cons_zero, List.getElem?_cons_succ, List.set_cons_zero, List.set_cons_succ, Option.some.injEq, exists_eq_left']
  refine len_txt hl ⟨rfl, rfl, y, 0, _, rfl, hk, _, rfl, ?_⟩
  cases c : btw y 0 a.length with
  | true => exact h1 c
  | false => exact h2 c
theorem int_bl {b : Bool} {Q : VK} (q : Q (.int (if b then 1 else 0)) H) : G.rInt1 [.bl b] H Q := q
theorem twos_loop {a : Str} {n ix : Nat} {σ0 : L2.St} {D : Ends} (hl : a.length ≤ 100000) (h0 : σ0[n]? = some (some (.int 0))) (hn : n ≠ ix) (hi : ix < σ0.length) (P : L2.St → Prop) (hP : P σ0)
    (keep : ∀ σ v w, P σ → P ((σ.set ix (some v)).set n (some w))) (q : ∀ σ, P σ → σ[n]? = some (some (.int (valL a.cps.toList))) → D.nx σ H) :
    ForGo (Its a) (gName ix) (tAsg (tOp (G.rBin K .Add) (tOp (G.rBin K .Mult) (tC (.int 2)) (tVar n)) (tCB G.rInt1 (tCons (tOp (G.rCmp K .Eq) (tVar ix) (tC (.str "1"))) tNil))) (gName n)) D σ0 H := by
  have ll : a.cps.toList.length = a.length := len_cps a
  refine go_its (x := a) (fun i σ H' => H' = H ∧ P σ ∧ σ.length = σ0.length ∧ σ[n]? = some (some (.int (valL (a.cps.toList.take i))))) ⟨rfl, hP, rfl, by rw [List.take_zero]; exact h0⟩ ?_ ?_
  · rintro i c σ H' hc ⟨rfl, hp, hz, hv⟩
    have hn2 : n < σ.length := (List.getElem?_eq_some_iff.mp hv).1
    simp only [tAsg, tOp, tC, tVar, tCB, tCons, tNil, gName]
    refine ⟨_, by rw [List.getElem?_set_ne (Ne.symm hn)]; exact hv, mul_int (by decide) (by decide) ⟨_, by rw [List.getElem?_set_self (by omega)], ?_⟩⟩
    rw [cps_one]
    refine eq_str (int_bl (G.add_int ⟨rfl, keep _ _ _ hp, by rw [List.length_set, List.length_set]; exact hz, ?_⟩))
    rw [List.getElem?_set_self (by rw [List.length_set]; omega), val_take hc]
    have e : ((⟨#[c]⟩ : Str) = ⟨#[49]⟩) = (c = 49) := propext sign_one
    by_cases cc : c = 49
    · subst cc
      rfl
    · rw [if_neg cc, decide_eq_false (fun z => cc (sign_one.mp z))]
      rfl
  · rintro σ H' ⟨rfl, hp, hz, hv⟩
    refine q σ hp ?_
    rw [hv, ← ll, List.take_length]
theorem ok_from_twos (h : sp_from_twos vs H Q E) : vs.length = 1 ∧ t_from_twos K cells acts T pt (Ww E) (Dd Q) (L2.start ["bits", "number", "sign"] vs) H := by
  obtain ⟨a, rfl, hl, q⟩ := h
  refine ⟨rfl, ?_⟩
  rw [show L2.start ["bits", "number", "sign"] [.str a] = [some (.str a), none, none] from rfl]
  unfold t_from_twos
  simp only [tSeq, tAsg, tC, gName, for_go, iSeq, iStr, List.set_cons_succ, List.set_cons_zero]
  refine .inr (.inr ⟨_, rfl, a, rfl, ?_⟩)
  refine twos_loop (n := 1) (ix := 2) hl rfl (by decide) (Nat.le_refl 3) (fun _ => True) trivial (fun _ _ _ _ => trivial) fun σ _ hv => ?_
  simp only [tRet, tVar]
  exact ⟨_, hv, q⟩
theorem ones_step {K : PySem.W.Frag} {a : Str} {p j : Nat} {R : VK} (hl : a.length ≤ 100000) (h1 : j < onesL a.cps.toList p → R (.bl true) H) (h2 : j = onesL a.cps.toList p → R (.bl false) H) (hj : j ≤ onesL a.cps.toList p) :
    G.rSlG K (.str a) (some ((p : Int) + j)) (some ((p : Int) + j + 1)) H fun x H' => G.rCmp K .Eq x (.str "1") H' R := by
  refine sl_s (p := p + j) (q := p + j + 1) hl (by omega) (by omega) (eq_str ?_)
  have e := cut_sign (z := a) (p := p + j) (c := 49)
  rw [← cps_one] at e
  have e2 : ((p + j : Nat) : Int) + 1 = ((p + j + 1 : Nat) : Int) := rfl
  rw [e2] at e
  by_cases c : j < onesL a.cps.toList p
  · rw [decide_eq_true (e.mpr (ones_in c))]
    exact h1 c
  · have c2 : j = onesL a.cps.toList p := by omega
    rw [decide_eq_false (fun z => ones_end (by rw [← c2]; exact e.mp z))]
    exact h2 c2
theorem ok_ones_at (h : sp_ones_at vs H Q E) : vs.length = 3 ∧ t_ones_at K cells acts T pt (Ww E) (Dd Q) (L2.start ["bits", "at", "most", "many"] vs) H := by
  obtain ⟨a, p, mo, rfl, hl, q⟩ := h
  refine ⟨rfl, ?_⟩
  rw [show L2.start ["bits", "at", "most", "many"] [.str a, .int p, .int mo] = [some (.str a), some (.int p), some (.int mo), none] from rfl]
  unfold t_ones_at
  simp only [tSeq, tWhile, tAnd, tOr, tNot, tTest, tTru, tOp, tUn, tVar, tC, tLst, tTup, tNil, tAsg, tBM, tBM0, tCons, gSub, tIfS, tCB, gName, tRet, tRetN, tNext, tIf, tFn, tDrop, tRaise0, tAndT, tOrT, tNotT, tChain, tAug, tPar, tPar3, for_go, lc_go, iRng1, iRng2, iSeq, tSl, tPart, tNoPart, tRaiseA, tAttr, List.getElem?_cons_zero, List.getElem?_cons_succ, List.set_cons_zero, List.set_cons_succ, Option.some.injEq, exists_eq_left']
  refine ⟨fun m σ H' => H' = H ∧ ∃ j : Nat, σ = [some (.str a), some (.int p), some (.int mo), some (.int j)] ∧ j ≤ mo ∧ j ≤ onesL a.cps.toList p ∧ j + m = mo, ⟨mo, rfl, 0, rfl, by omega, by omega, by omega⟩, ?_⟩
  rintro m σ H' ⟨rfl, j, rfl, hj1, hj2, hm⟩
  simp only [tSeq, tWhile, tAnd, tOr, tNot, tTest, tTru, tOp, tUn, tVar, tC, tLst, tTup, tNil, tAsg, tBM, tBM0, tCons, gSub, tIfS, tCB, gName, tRet, tRetN, tNext, tIf, tFn, tDrop, tRaise0, tAndT, tOrT, tNotT, tChain, tAug, tPar, tPar3, for_go, lc_go, iRng1, iRng2, iSeq, tSl, tPart, tNoPart, tRaiseA, tAttr, List.getElem?_cons_zero, List.getElem?_cons_succ, List.set_cons_zero, List.set_cons_succ, Option.some.injEq, exists_eq_left']
  refine lt_int ⟨_, rfl, ?_⟩
  by_cases c : j < mo
  · rw [if_pos (decide_eq_true (by omega))]
    refine add_int ⟨_, rfl, add_int (add_int ⟨_, rfl, ?_⟩)⟩
    refine ones_step (p := p) (j := j) hl (fun c2 => ⟨_, rfl, ?_⟩) (fun c2 => ⟨_, rfl, ?_⟩) hj2
    · rw [if_pos rfl]
      refine ⟨fun σ H' => H' = _ ∧ σ = [some (.str a), some (.int p), some (.int mo), some (.int (j + 1 : Nat))], fun σ' H2 ⟨e1, e2⟩ => ⟨m - 1, by omega, e1, j + 1, e2, by omega, by omega, by omega⟩, ?_⟩
      exact ⟨rfl, rfl⟩
    · rw [if_neg (by simp)]
      have e : min mo (onesL a.cps.toList p) = j := by omega
      rw [e] at q
      exact q
  · rw [if_neg (by rw [decide_eq_true_eq]; omega)]
    have e : min mo (onesL a.cps.toList p) = j := by omega
    rw [e] at q
    rw [if_neg (by simp)]
    exact q
theorem ok_take_bits (h : sp_take_bits K vs H Q E) : vs.length = 4 ∧ t_take_bits K cells acts T pt (Ww E) (Dd Q) (L2.start ["bits", "index", "many", "at"] vs) H := by
  obtain ⟨a, p, m, y, rfl, hl, h1, h2⟩ := h
  refine ⟨rfl, ?_⟩
  rw [show L2.start ["bits", "index", "many", "at"] [.str a, .int p, .int m, y] = [some (.str a), some (.int p), some (.int m), some y] from rfl]
  unfold t_take_bits
  simp only [tSeq, tWhile, tAnd, tOr, tNot, tTest, tTru, tOp, tUn, tVar, tC, tLst, tTup, tNil, tAsg, tBM, tBM0, tCons, gSub, tIfS, tCB, gName, tRet, tRetN, tNext, tIf, tFn, tDrop, tRaise0, tAndT, tOrT, tNotT, tChain, tAug, tPar, tPar3, for_go, lc_go, iRng1, iRng2, iSeq, tSl, tPart, tNoPart, tRaiseA, tAttr, List.getElem?_cons_zero, List.getElem?_cons_succ, List.set_cons_zero, List.set_cons_succ, Option.some.injEq, exists_eq_left']
  refine add_int (len_txt hl (gt_int ⟨_, rfl, ?_⟩))
  by_cases c : p + m ≤ a.length
  · rw [if_neg (by rw [decide_eq_true_eq]; omega)]
    refine ⟨_, rfl, add_int ⟨_, rfl, sl_s (p := p) (q := p + m) hl rfl rfl ⟨rfl, rfl, _, rfl, Nat.le_trans (cutS_length _ _ _) hl, ?_⟩⟩⟩
    rw [cut_nat c, show p + m - p = m from by omega]
    exact h1 c
  · rw [if_pos (by rw [decide_eq_true_eq]; omega)]
    exact ⟨_, rfl, fun d hd => h2 (by omega) d hd⟩
theorem small2 {n : Nat} (h : Nat.ble n 100 = true) : n ≤ sizeLine := by
  have z := Nat.le_of_ble_eq_true h
  rw [sizeLine_eq]
  omega
theorem ok_take_fixed (h : sp_take_fixed K vs H Q E) : vs.length = 3 ∧ t_take_fixed K cells acts T pt (Ww E) (Dd Q) (L2.start ["bits", "at", "many"] vs) H := by
  obtain ⟨a, p, m, rfl, hl, h1⟩ := h
  refine ⟨rfl, ?_⟩
  rw [show L2.start ["bits", "at", "many"] [.str a, .int p, .int m] = [some (.str a), some (.int p), some (.int m)] from rfl]
  unfold t_take_fixed
  simp only [tSeq, tWhile, tAnd, tOr, tNot, tTest, tTru, tOp, tUn, tVar, tC, tLst, tTup, tNil, tAsg, tBM, tBM0, tCons, gSub, tIfS, tCB, gName, tRet, tRetN, tNext, tIf, tFn, tDrop, tRaise0, tAndT, tOrT, tNotT, tChain, tAug, tPar, tPar3, for_go, lc_go, iRng1, iRng2, iSeq, tSl, tPart, tNoPart, tRaiseA, tAttr, List.getElem?_cons_zero, List.getElem?_cons_succ, List.set_cons_zero, List.set_cons_succ, Option.some.injEq, exists_eq_left']
  have ll : a.cps.toList.length = a.length := len_cps a
  unfold fixedR at h1
  refine ⟨rfl, rfl, a, p, m, .int p, rfl, hl, fun c => add_int ⟨small2 rfl, fun t ht => ?_⟩, fun c d hd => ?_⟩
  · rw [if_pos (by omega)] at h1
    exact h1 t ht
  · rw [if_neg (by omega)] at h1
    exact h1 d hd
theorem at_zero {a : Str} (hb : BitS a) {p : Nat} (h : p + onesL a.cps.toList p < a.length) : a.cps.toList[p + onesL a.cps.toList p]? = some 48 := by
  have ll : a.cps.toList.length = a.length := len_cps a
  have e := List.getElem?_eq_getElem (l := a.cps.toList) (i := p + onesL a.cps.toList p) (by omega)
  rcases hb _ (List.mem_of_getElem? e) with z | z
  · rw [e, z]
  · exact absurd (by rw [e, z]) (ones_end (l := a.cps.toList) (p := p))
theorem zero_step {K : PySem.W.Frag} {a : Str} {p j : Nat} {R : VK} (hb : BitS a) (hl : a.length ≤ 100000) (hj : j = onesL a.cps.toList p) (h1 : p + j < a.length → R (.bl false) H) (h2 : a.length ≤ p + j → R (.bl true) H) :
    G.rSlG K (.str a) (some ((p : Int) + j)) (some ((p : Int) + j + 1)) H fun x H' => G.rCmp K .NotEq x (.str "0") H' R := by
  have ll : a.cps.toList.length = a.length := len_cps a
  refine sl_s (p := p + j) (q := p + j + 1) hl (by omega) (by omega) (ne_str ?_)
  have e := cut_sign (z := a) (p := p + j) (c := 48)
  rw [← cps_zero] at e
  have e2 : ((p + j : Nat) : Int) + 1 = ((p + j + 1 : Nat) : Int) := rfl
  rw [e2] at e
  by_cases c : p + j < a.length
  · rw [decide_eq_true (e.mpr (by rw [hj]; exact at_zero hb (by rw [← hj]; exact c)))]
    exact h1 c
  · rw [decide_eq_false (fun z => by
      have := (List.getElem?_eq_some_iff.mp (e.mp z)).1
      omega)]
    exact h2 (by omega)
theorem ok_take_long (h : sp_take_long K vs H Q E) : vs.length = 2 ∧ t_take_long K cells acts T pt (Ww E) (Dd Q) (L2.start ["bits", "at", "ones", "tail"] vs) H := by
  obtain ⟨a, p, rfl, hl, hb, h1⟩ := h
  refine ⟨rfl, ?_⟩
  rw [show L2.start ["bits", "at", "ones", "tail"] [.str a, .int p] = [some (.str a), some (.int p), none, none] from rfl]
  unfold t_take_long
  simp only [tSeq, tWhile, tAnd, tOr, tNot, tTest, tTru, tOp, tUn, tVar, tC, tLst, tTup, tNil, tAsg, tBM, tBM0, tCons, gSub, tIfS, tCB, gName, tRet, tRetN, tNext, tIf, tFn, tDrop, tRaise0, tAndT, tOrT, tNotT, tChain, tAug, tPar, tPar3, for_go, lc_go, iRng1, iRng2, iSeq, tSl, tPart, tNoPart, tRaiseA, tAttr, List.getElem?_cons_zero, List.getElem?_cons_succ, List.set_cons_zero, List.set_cons_succ, Option.some.injEq, exists_eq_left']
  have ll : a.cps.toList.length = a.length := len_cps a
  unfold longR at h1
  refine add_int ⟨rfl, rfl, a, p, 16, rfl, hl, gt_int ⟨_, rfl, ?_⟩⟩
  by_cases c : onesL a.cps.toList p ≤ 15
  · rw [show min 16 (onesL a.cps.toList p) = onesL a.cps.toList p from by omega]
    rw [if_neg (by rw [decide_eq_true_eq]; omega)]
    refine add_int ⟨_, rfl, add_int (add_int ⟨_, rfl, zero_step hb hl rfl (fun c2 => ⟨_, rfl, ?_⟩) (fun c2 => ⟨_, rfl, ?_⟩)⟩)⟩
    · rw [if_neg (by simp)]
      refine add_int (add_int ⟨rfl, rfl, a, p + onesL a.cps.toList p + 1, onesL a.cps.toList p, .int p, rfl, hl, fun c3 => ?_, fun c3 d hd => ?_⟩)
      · rw [if_pos ⟨c, by omega⟩] at h1
        refine shl_one (n := onesL a.cps.toList p) rfl (by omega) (add_int (G.sub_int ⟨rfl, rfl, _, rfl, mul_int (by decide) (by decide) (add_int (add_int ⟨small2 rfl, fun t ht => h1 t ht⟩))⟩))
      · rw [if_neg (by omega)] at h1
        exact h1 d hd
    · rw [if_pos rfl]
      rw [if_neg (by omega)] at h1
      exact ⟨_, rfl, fun d hd => h1 d hd⟩
  · rw [if_pos (by rw [decide_eq_true_eq]; omega), if_pos trivial]
    rw [if_neg (by omega)] at h1
    exact ⟨_, rfl, fun d hd => h1 d hd⟩
theorem shl_any {K : PySem.W.Frag} {H : Hp} {i j : Int} {n : Nat} {Q : VK} (e : j = n) (hn : n ≤ 1000000) (hi : i.natAbs < 18446744073709551616) (q : Q (.int (i * 2 ^ n)) H) : G.rBin K .LShift (.int i) (.int j) H Q := by
  subst e
  refine ⟨⟨by omega, by omega, hi⟩, ?_⟩
  show Q (.int (i * 2 ^ (n : Int).toNat)) H
  rw [Int.toNat_natCast]
  exact q
theorem ok_take_grade (h : sp_take_grade K vs H Q E) : vs.length = 3 ∧ t_take_grade K cells acts T pt (Ww E) (Dd Q) (L2.start ["bits", "at", "grade", "ones", "told", "tail"] vs) H := by
  obtain ⟨a, p, g, rfl, hl, hb, hg, h1⟩ := h
  refine ⟨rfl, ?_⟩
  rw [show L2.start ["bits", "at", "grade", "ones", "told", "tail"] [.str a, .int p, .int g] = [some (.str a), some (.int p), some (.int g), none, none, none] from rfl]
  unfold t_take_grade
  simp only [tSeq, tWhile, tAnd, tOr, tNot, tTest, tTru, tOp, tUn, tVar, tC, tLst, tTup, tNil, tAsg, tBM, tBM0, tCons, gSub, tIfS, tCB, gName, tRet, tRetN, tNext, tIf, tFn, tDrop, tRaise0, tAndT, tOrT, tNotT, tChain, tAug, tPar, tPar3, for_go, lc_go, iRng1, iRng2, iSeq, tSl, tPart, tNoPart, tRaiseA, tAttr, List.getElem?_cons_zero, List.getElem?_cons_succ, List.set_cons_zero, List.set_cons_succ, Option.some.injEq, exists_eq_left']
  have ll : a.cps.toList.length = a.length := len_cps a
  unfold gradeR at h1
  refine ⟨rfl, rfl, a, p, 12, rfl, hl, eq_int ⟨_, rfl, ?_⟩⟩
  by_cases c : 12 ≤ onesL a.cps.toList p
  · rw [if_pos c] at h1
    rw [show min 12 (onesL a.cps.toList p) = 12 from by omega, if_pos (by decide)]
    refine add_int ⟨rfl, rfl, a, p + 12, 16, .int p, rfl, hl, fun c2 => ?_, fun c2 d hd => ?_⟩
    · revert h1
      generalize valL ((a.cps.toList.drop (p + 12)).take 16) = t
      intro h1
      refine shl_any (n := g) rfl (by omega) (by decide) (lt_int ⟨_, rfl, ?_⟩)
      by_cases c3 : 12 * 2 ^ g ≤ t
      · rw [if_neg (by rw [decide_eq_true_eq]; omega)]
        refine gt_int ⟨_, rfl, ?_⟩
        by_cases c4 : t ≤ 65534
        · rw [if_neg (by rw [decide_eq_true_eq]; omega)]
          rw [if_pos ⟨by omega, c3, c4⟩] at h1
          refine ⟨rfl, rfl, _, rfl, add_int (add_int ⟨small2 rfl, fun r hr => ?_⟩)⟩
          have e : (p : Int) + ((12 : Nat) : Int) + 16 = (p : Int) + 28 := by omega
          rw [e]
          exact h1 r hr
        · rw [if_pos (by rw [decide_eq_true_eq]; omega)]
          rw [if_neg (fun z => c4 z.2.2)] at h1
          exact ⟨_, rfl, fun d hd => h1 d hd⟩
      · rw [if_pos (by rw [decide_eq_true_eq]; omega), if_pos trivial]
        rw [if_neg (fun z => c3 z.2.1)] at h1
        exact ⟨_, rfl, fun d hd => h1 d hd⟩
    · rw [if_neg (fun z => by omega)] at h1
      exact h1 d hd
  · rw [if_neg c] at h1
    rw [show min 12 (onesL a.cps.toList p) = onesL a.cps.toList p from by omega, if_neg (by rw [decide_eq_true_eq]; omega)]
    refine add_int ⟨_, rfl, add_int (add_int ⟨_, rfl, zero_step hb hl rfl (fun c2 => ⟨_, rfl, ?_⟩) (fun c2 => ⟨_, rfl, ?_⟩)⟩)⟩
    · rw [if_neg (by simp)]
      refine add_int (add_int ⟨rfl, rfl, a, p + onesL a.cps.toList p + 1, g, .int p, rfl, hl, fun c3 => ?_, fun c3 d hd => ?_⟩)
      · rw [if_pos (by omega)] at h1
        refine shl_any (n := g) rfl (by omega) (by omega) (add_int ⟨rfl, rfl, _, rfl, add_int (add_int (add_int ⟨small2 rfl, fun t ht => h1 t ht⟩))⟩)
      · rw [if_neg (by omega)] at h1
        exact h1 d hd
    · rw [if_pos rfl]
      rw [if_neg (by omega)] at h1
      exact ⟨_, rfl, fun d hd => h1 d hd⟩
theorem ok_read_long (h : sp_read_long K vs H Q E) : vs.length = 2 ∧ t_read_long K cells acts T pt (Ww E) (Dd Q) (L2.start ["bits", "at"] vs) H := by
  obtain ⟨x, y, rfl, hx, hy, hl, h1, h2⟩ := h
  refine ⟨rfl, ?_⟩
  rw [show L2.start ["bits", "at"] [x, y] = [some x, some y] from rfl]
  unfold t_read_long
  simp only [tSeq, tWhile, tAnd, tOr, tNot, tTest, tTru, tOp, tUn, tVar, tC, tLst, tTup, tNil, tAsg, tBM, tBM0, tCons, gSub, tIfS, tCB, gName, tRet, tRetN, tNext, tIf, tFn, tDrop, tRaise0, tAndT, tOrT, tNotT, tChain, tAug, tPar, tPar3, for_go, lc_go, iRng1, iRng2, iSeq, tSl, tPart, tNoPart, tRaiseA, tAttr, List.getElem?_cons_zero, List.getElem?_cons_succ, List.set_cons_zero, List.set_cons_succ, Option.some.injEq, exists_eq_left']
  refine ⟨rfl, rfl, x, rfl, hx, fun a e => Nat.le_trans (hl a e) (by decide), fun c => ?_, h1⟩
  obtain ⟨a, rfl, hb⟩ := isBits_in c
  obtain ⟨h3, h4⟩ := h2 a rfl hb
  refine ⟨rfl, rfl, a, y, rfl, hl a rfl, hy, fun c2 => ?_, h3⟩
  obtain ⟨i, rfl, b0, b1⟩ := btw_int c2
  have e : i = ((i.toNat : Nat) : Int) := by omega
  refine ⟨rfl, rfl, a, i.toNat, by rw [← e]; rfl, hl a rfl, hb, h4 i.toNat (by rw [← e]) (by omega)⟩
theorem ok_read_fixed (h : sp_read3 K "BadMany" 1 16 fixedR vs H Q E) : vs.length = 3 ∧ t_read_fixed K cells acts T pt (Ww E) (Dd Q) (L2.start ["bits", "at", "many"] vs) H := by
  obtain ⟨x, y, z, rfl, hx, hy, hz, hl, h1, h2⟩ := h
  refine ⟨rfl, ?_⟩
  rw [show L2.start ["bits", "at", "many"] [x, y, z] = [some x, some y, some z] from rfl]
  unfold t_read_fixed
  simp only [tSeq, tWhile, tAnd, tOr, tNot, tTest, tTru, tOp, tUn, tVar, tC, tLst, tTup, tNil, tAsg, tBM, tBM0, tCons, gSub, tIfS, tCB, gName, tRet, tRetN, tNext, tIf, tFn, tDrop, tRaise0, tAndT, tOrT, tNotT, tChain, tAug, tPar, tPar3, for_go, lc_go, iRng1, iRng2, iSeq, tSl, tPart, tNoPart, tRaiseA, tAttr, List.getElem?_cons_zero, List.getElem?_cons_succ, List.set_cons_zero, List.set_cons_succ, Option.some.injEq, exists_eq_left']
  refine ⟨rfl, rfl, x, rfl, hx, fun a e => Nat.le_trans (hl a e) (by decide), fun c => ?_, h1⟩
  obtain ⟨a, rfl, hb⟩ := isBits_in c
  obtain ⟨h3, h4⟩ := h2 a rfl hb
  refine ⟨rfl, rfl, a, y, rfl, hl a rfl, hy, fun c2 => ?_, h3⟩
  obtain ⟨i, rfl, b0, b1⟩ := btw_int c2
  have e : i = ((i.toNat : Nat) : Int) := by omega
  obtain ⟨h5, h6⟩ := h4 i.toNat (by rw [← e]) (by omega)
  refine ⟨rfl, rfl, z, rfl, hz, fun c3 => ?_, h5⟩
  obtain ⟨j, rfl, d0, d1⟩ := btw_int c3
  have e2 : j = ((j.toNat : Nat) : Int) := by omega
  exact ⟨rfl, rfl, a, i.toNat, j.toNat, by rw [← e, ← e2]; rfl, hl a rfl, h6 j.toNat (by rw [← e2]) (by omega) (by omega)⟩
theorem ok_read_grade (h : sp_read3 K "BadGrade" 0 7 gradeR vs H Q E) : vs.length = 3 ∧ t_read_grade K cells acts T pt (Ww E) (Dd Q) (L2.start ["bits", "at", "grade"] vs) H := by
  obtain ⟨x, y, z, rfl, hx, hy, hz, hl, h1, h2⟩ := h
  refine ⟨rfl, ?_⟩
  rw [show L2.start ["bits", "at", "grade"] [x, y, z] = [some x, some y, some z] from rfl]
  unfold t_read_grade
  simp only [tSeq, tWhile, tAnd, tOr, tNot, tTest, tTru, tOp, tUn, tVar, tC, tLst, tTup, tNil, tAsg, tBM, tBM0, tCons, gSub, tIfS, tCB, gName, tRet, tRetN, tNext, tIf, tFn, tDrop, tRaise0, tAndT, tOrT, tNotT, tChain, tAug, tPar, tPar3, for_go, lc_go, iRng1, iRng2, iSeq, tSl, tPart, tNoPart, tRaiseA, tAttr, List.getElem?_cons_zero, List.getElem?_cons_succ, List.set_cons_zero, List.set_cons_succ, Option.some.injEq, exists_eq_left']
  refine ⟨rfl, rfl, x, rfl, hx, fun a e => Nat.le_trans (hl a e) (by decide), fun c => ?_, h1⟩
  obtain ⟨a, rfl, hb⟩ := isBits_in c
  obtain ⟨h3, h4⟩ := h2 a rfl hb
  refine ⟨rfl, rfl, a, y, rfl, hl a rfl, hy, fun c2 => ?_, h3⟩
  obtain ⟨i, rfl, b0, b1⟩ := btw_int c2
  have e : i = ((i.toNat : Nat) : Int) := by omega
  obtain ⟨h5, h6⟩ := h4 i.toNat (by rw [← e]) (by omega)
  refine ⟨rfl, rfl, z, rfl, hz, fun c3 => ?_, h5⟩
  obtain ⟨j, rfl, d0, d1⟩ := btw_int c3
  have e2 : j = ((j.toNat : Nat) : Int) := by omega
  exact ⟨rfl, rfl, a, i.toNat, j.toNat, by rw [← e, ← e2]; rfl, hl a rfl, hb, by omega, h6 j.toNat (by rw [← e2]) (by omega) (by omega)⟩
end
end Pk

set_option Elab.async false
set_option linter.all false
set_option maxRecDepth 100000
set_option maxHeartbeats 8000000
namespace Pk
open PySem PySem.Spec PyProof.Rows L2 LamX G
/-! ### what many laws say: their promises, their readings -/
structure Ck (K : PySem.W.Frag) (C : Str) : Prop where
  exm : PySem.W.exmOne K (bad K C) (.ref (He.ga K "ReelError")) = some true
  ex : ExcC K (He.ga K C)
  one : PySem.W.kitOne K (bad K C) (bad K C) = some true
def sp_two : SpD := fun vs H Q _ => ∃ k, vs = [.int k] ∧ 0 ≤ k ∧ k ≤ 60 ∧ Q (.int (2 ^ k.toNat)) H
def sp_graded : SpD := fun vs H Q _ => ∃ i g, vs = [.int i, .int g] ∧ -32768 < i ∧ i < 32768 ∧ 0 ≤ g ∧ g ≤ 7 ∧ Q (.str (gradeW i g)) H
theorem pow_le {j k : Nat} (h : j ≤ k) : (2 : Int) ^ j ≤ 2 ^ k := by
  have z := Nat.pow_le_pow_right (show 0 < 2 by decide) h
  have e : ∀ n : Nat, ((2 ^ n : Nat) : Int) = (2 : Int) ^ n := fun n => by rw [Int.natCast_pow]; rfl
  rw [← e, ← e]
  exact Int.ofNat_le.mpr z
theorem small {n : Nat} (h : Nat.ble n 100 = true) : n ≤ sizeLine := by
  have z := Nat.le_of_ble_eq_true h
  rw [sizeLine_eq]
  omega
section
variable {K : PySem.W.Frag} {vs : List V} {H : Hp} {Q : VK} {E : XK} {W : WX} {ac : L2.St → Hp → Acts} {n0 n1 n2 n3 n4 : Str}
def rdTwo (K : PySem.W.Frag) : TS :=
  (tSeq (tAsg (tC (.int 1)) (gName 1))
  (tSeq (tFor (iRng1 (tCons (tVar 0) tNil)) (gName 2)
  (tAsg (tOp (G.rBin K .Mult) (tVar 1) (tC (.int 2))) (gName 1)))
  (tRet (tVar 1))))
theorem ok_two (h : sp_two vs H Q E) : vs.length = 1 ∧ rdTwo K (Dd Q) (L2.start [n0, n1, n2] vs) H := by
  obtain ⟨k, rfl, h0, h1, q⟩ := h
  refine ⟨rfl, ?_⟩
  rw [show L2.start [n0, n1, n2] [V.int k] = [some (.int k), none, none] from rfl]
  unfold rdTwo
  simp only [tSeq, tWhile, tAnd, tOr, tNot, tTest, tTru, tOp, tUn, tVar, tC, tLst, tTup, tNil, tAsg, tBM, tBM0, tCons, gSub, tIfS, tCB, gName, tRet, tRetN, tNext, tIf, tFn, tDrop, tRaise0, tAndT, tOrT, tNotT, tChain, tAug, tPar, tPar3, for_go, lc_go, iRng1, iRng2, iSeq, tSl, tPart, tNoPart, tRaiseA, tAttr, List.getElem?_cons_zero, List.getElem?_cons_succ, List.set_cons_zero, List.set_cons_succ, Option.some.injEq, exists_eq_left']
  refine ⟨k, rfl, by omega, by omega, ?_⟩
  refine go_rng (fun m σ H' => H' = H ∧ ∃ tn : Option V, σ = [some (.int k), some (.int (2 ^ m)), tn]) ⟨rfl, none, rfl⟩ ?_ ?_
  · rintro m σ H' hm ⟨rfl, tn, rfl⟩
    simp only [tSeq, tWhile, tAnd, tOr, tNot, tTest, tTru, tOp, tUn, tVar, tC, tLst, tTup, tNil, tAsg, tBM, tBM0, tCons, gSub, tIfS, tCB, gName, tRet, tRetN, tNext, tIf, tFn, tDrop, tRaise0, tAndT, tOrT, tNotT, tChain, tAug, tPar, tPar3, for_go, lc_go, iRng1, iRng2, iSeq, tSl, tPart, tNoPart, tRaiseA, tAttr, List.getElem?_cons_zero, List.getElem?_cons_succ, List.set_cons_zero, List.set_cons_succ, Option.some.injEq, exists_eq_left']
    refine ⟨.inl (.inr ⟨by decide, by decide⟩), rfl, _, by rw [Int.pow_succ]⟩
  · rintro σ H' ⟨rfl, tn, rfl⟩
    simp only [tSeq, tWhile, tAnd, tOr, tNot, tTest, tTru, tOp, tUn, tVar, tC, tLst, tTup, tNil, tAsg, tBM, tBM0, tCons, gSub, tIfS, tCB, gName, tRet, tRetN, tNext, tIf, tFn, tDrop, tRaise0, tAndT, tOrT, tNotT, tChain, tAug, tPar, tPar3, for_go, lc_go, iRng1, iRng2, iSeq, tSl, tPart, tNoPart, tRaiseA, tAttr, List.getElem?_cons_zero, List.getElem?_cons_succ, List.set_cons_zero, List.set_cons_succ, Option.some.injEq, exists_eq_left']
    exact q
def rdFold (K : PySem.W.Frag) : TS :=
  (tRet (tIf (tTest (tOp (G.rCmp K .Gt) (tVar 0) (tC (.int 0)))) (tOp (G.rBin K .Sub) (tOp (G.rBin K .Mult) (tC (.int 2)) (tVar 0)) (tC (.int 1))) (tOp (G.rBin K .Sub) (tC (.int 0)) (tOp (G.rBin K .Mult) (tC (.int 2)) (tVar 0)))))
theorem ok_lfold (h : sp_fold vs H Q E) : vs.length = 1 ∧ rdFold K (Dd Q) (L2.start [n0] vs) H := by
  obtain ⟨i, rfl, h1, h2, q⟩ := h
  refine ⟨rfl, ?_⟩
  rw [show L2.start [n0] [V.int i] = [some (.int i)] from rfl]
  unfold rdFold
  simp only [tSeq, tWhile, tAnd, tOr, tNot, tTest, tTru, tOp, tUn, tVar, tC, tLst, tTup, tNil, tAsg, tBM, tBM0, tCons, gSub, tIfS, tCB, gName, tRet, tRetN, tNext, tIf, tFn, tDrop, tRaise0, tAndT, tOrT, tNotT, tChain, tAug, tPar, tPar3, for_go, lc_go, iRng1, iRng2, iSeq, tSl, tPart, tNoPart, tRaiseA, tAttr, List.getElem?_cons_zero, List.getElem?_cons_succ, List.set_cons_zero, List.set_cons_succ, Option.some.injEq, exists_eq_left']
  refine gt_int ⟨_, rfl, ?_⟩
  unfold foldZ at q
  by_cases c : 0 < i
  · rw [if_pos (decide_eq_true c)]
    rw [if_pos c] at q
    exact mul_int (K := K) (by decide) (by decide) (G.sub_int (K := K) q)
  · rw [if_neg (by simpa using c)]
    rw [if_neg c] at q
    refine mul_int (K := K) (by decide) (by decide) (G.sub_int (K := K) ?_)
    have e : (0 : Int) - 2 * i = -2 * i := by omega
    rw [e]
    exact q
def rdTwos (K : PySem.W.Frag) : TS :=
  (tSeq (tAsg (tC (.str "")) (gName 2))
  (tSeq (tFor (iRng1 (tCons (tVar 1) tNil)) (gName 3)
  (tSeq (tAsg (tOp (G.rBin K .Add) (tCB G.rStr1 (tCons (tOp (G.rBin K .Mod) (tCB G.rInt1 (tCons (tVar 0) tNil)) (tC (.int 2))) tNil)) (tVar 2)) (gName 2))
  (tAsg (tOp (G.rBin K .FloorDiv) (tVar 0) (tC (.int 2))) (gName 0))))
  (tRet (tVar 2))))
theorem ok_ltwos (h : sp_in_twos vs H Q E) : vs.length = 2 ∧ rdTwos K (Dd Q) (L2.start [n0, n1, n2, n3] vs) H := by
  obtain ⟨i, k, rfl, h0, h1, q⟩ := h
  refine ⟨rfl, ?_⟩
  rw [show L2.start [n0, n1, n2, n3] [V.int i, V.int k] = [some (.int i), some (.int k), none, none] from rfl]
  unfold rdTwos
  simp only [tSeq, tWhile, tAnd, tOr, tNot, tTest, tTru, tOp, tUn, tVar, tC, tLst, tTup, tNil, tAsg, tBM, tBM0, tCons, gSub, tIfS, tCB, gName, tRet, tRetN, tNext, tIf, tFn, tDrop, tRaise0, tAndT, tOrT, tNotT, tChain, tAug, tPar, tPar3, for_go, lc_go, iRng1, iRng2, iSeq, tSl, tPart, tNoPart, tRaiseA, tAttr, List.getElem?_cons_zero, List.getElem?_cons_succ, List.set_cons_zero, List.set_cons_succ, Option.some.injEq, exists_eq_left']
  refine ⟨k, rfl, by omega, by omega, ?_⟩
  refine go_rng (fun m σ H' => H' = H ∧ ∃ (a : Int) (acc : Str) (tn : Option V), σ = [some (.int a), some (.int k), some (.str acc), tn] ∧ acc.length = m ∧ tw (k.toNat - m) a acc = tw k.toNat i "") ⟨rfl, i, "", none, rfl, len_e, rfl⟩ ?_ ?_
  · rintro m σ H' hm ⟨rfl, a, acc, tn, rfl, hl, ht⟩
    simp only [tSeq, tWhile, tAnd, tOr, tNot, tTest, tTru, tOp, tUn, tVar, tC, tLst, tTup, tNil, tAsg, tBM, tBM0, tCons, gSub, tIfS, tCB, gName, tRet, tRetN, tNext, tIf, tFn, tDrop, tRaise0, tAndT, tOrT, tNotT, tChain, tAug, tPar, tPar3, for_go, lc_go, iRng1, iRng2, iSeq, tSl, tPart, tNoPart, tRaiseA, tAttr, List.getElem?_cons_zero, List.getElem?_cons_succ, List.set_cons_zero, List.set_cons_succ, Option.some.injEq, exists_eq_left']
    refine int_1 (mod_int (by decide) (str_dig (add_str (by rw [dig_len]; omega) (div_int (by decide) (by decide) ⟨rfl, a / 2, dig a ++ acc, _, rfl, by rw [strLen_append, dig_len]; omega, ?_⟩))))
    rw [← ht]
    have e : k.toNat - m = (k.toNat - (m + 1)) + 1 := by omega
    rw [e]
    rfl
  · rintro σ H' ⟨rfl, a, acc, tn, rfl, hl, ht⟩
    simp only [tSeq, tWhile, tAnd, tOr, tNot, tTest, tTru, tOp, tUn, tVar, tC, tLst, tTup, tNil, tAsg, tBM, tBM0, tCons, gSub, tIfS, tCB, gName, tRet, tRetN, tNext, tIf, tFn, tDrop, tRaise0, tAndT, tOrT, tNotT, tChain, tAug, tPar, tPar3, for_go, lc_go, iRng1, iRng2, iSeq, tSl, tPart, tNoPart, tRaiseA, tAttr, List.getElem?_cons_zero, List.getElem?_cons_succ, List.set_cons_zero, List.set_cons_succ, Option.some.injEq, exists_eq_left']
    rw [Nat.sub_self] at ht
    rw [← ht] at q
    exact q
def rdLong (K : PySem.W.Frag) (ac : L2.St → Hp → Acts) (W : WX) : TS :=
  (tSeq (tPar 1 2 (tCons (tOp (G.rBin K .Add) (tFn (sh sp_fold [0]) ac W (tCons (tVar 0) tNil) tNil 1 0) (tC (.int 1))) (tCons (tC (.str "")) tNil)))
  (tSeq (tWhile (tTest (tOp (G.rCmp K .Gt) (tVar 1) (tC (.int 1))))
  (tSeq (tAsg (tOp (G.rBin K .Add) (tCB G.rStr1 (tCons (tOp (G.rBin K .Mod) (tCB G.rInt1 (tCons (tVar 1) tNil)) (tC (.int 2))) tNil)) (tVar 2)) (gName 2))
  (tAsg (tOp (G.rBin K .FloorDiv) (tVar 1) (tC (.int 2))) (gName 1))))
  (tRet (tOp (G.rBin K .Add) (tOp (G.rBin K .Add) (tOp (G.rBin K .Mult) (tC (.str "1")) (tCB (G.rLen K) (tCons (tVar 2) tNil))) (tC (.str "0"))) (tVar 2)))))
theorem ok_llong (h : sp_long_word vs H Q E) : vs.length = 1 ∧ rdLong K ac W (Dd Q) (L2.start [n0, n1, n2] vs) H := by
  obtain ⟨i, rfl, h1, h2, q⟩ := h
  refine ⟨rfl, ?_⟩
  rw [show L2.start [n0, n1, n2] [V.int i] = [some (.int i), none, none] from rfl]
  unfold rdLong
  simp only [tSeq, tWhile, tAnd, tOr, tNot, tTest, tTru, tOp, tUn, tVar, tC, tLst, tTup, tNil, tAsg, tBM, tBM0, tCons, gSub, tIfS, tCB, gName, tRet, tRetN, tNext, tIf, tFn, tDrop, tRaise0, tAndT, tOrT, tNotT, tChain, tAug, tPar, tPar3, for_go, lc_go, iRng1, iRng2, iSeq, tSl, tPart, tNoPart, tRaiseA, tAttr, List.getElem?_cons_zero, List.getElem?_cons_succ, List.set_cons_zero, List.set_cons_succ, Option.some.injEq, exists_eq_left']
  obtain ⟨b1, b2⟩ := foldZ_bounds h1 h2
  refine ⟨rfl, rfl, i, rfl, by omega, by omega, G.add_int ⟨_, _, rfl, ?_⟩⟩
  have tp : 0 < foldZ i + 1 := by omega
  have L : many i ≤ 16 := log_small tp (by omega)
  refine ⟨fun m σ H' => H' = H ∧ ∃ j : Nat, σ = [some (.int i), some (.int ((foldZ i + 1) / 2 ^ j)), some (.str (tw j (foldZ i + 1) ""))] ∧ j + m = many i, ⟨many i, rfl, 0, by rw [Int.pow_zero, Int.ediv_one]; rfl, by omega⟩, ?_⟩
  rintro m σ H' ⟨rfl, j, rfl, hj⟩
  simp only [tSeq, tWhile, tAnd, tOr, tNot, tTest, tTru, tOp, tUn, tVar, tC, tLst, tTup, tNil, tAsg, tBM, tBM0, tCons, gSub, tIfS, tCB, gName, tRet, tRetN, tNext, tIf, tFn, tDrop, tRaise0, tAndT, tOrT, tNotT, tChain, tAug, tPar, tPar3, for_go, lc_go, iRng1, iRng2, iSeq, tSl, tPart, tNoPart, tRaiseA, tAttr, List.getElem?_cons_zero, List.getElem?_cons_succ, List.set_cons_zero, List.set_cons_succ, Option.some.injEq, exists_eq_left']
  refine gt_int ⟨_, rfl, ?_⟩
  have p0 : (0 : Int) < 2 ^ j := Int.pow_pos (by decide)
  by_cases c : 1 < (foldZ i + 1) / 2 ^ j
  · rw [if_pos (decide_eq_true c)]
    have c2 : (2 : Int) ^ (j + 1) ≤ foldZ i + 1 := by
      have z : 2 * 2 ^ j ≤ foldZ i + 1 := (Int.le_ediv_iff_mul_le p0).mp c
      rw [Int.pow_succ, Int.mul_comm]
      exact z
    have c3 := (log_le tp).mpr c2
    refine ⟨fun σ H' => H' = _ ∧ σ = [some (.int i), some (.int ((foldZ i + 1) / 2 ^ (j + 1))), some (.str (tw (j + 1) (foldZ i + 1) ""))], fun σ' H2 ⟨e1, e2⟩ => ⟨m - 1, by unfold many at hj; omega, e1, j + 1, e2, by unfold many at hj ⊢; omega⟩, ?_⟩
    refine int_1 (mod_int (by decide) (str_dig (add_str (by rw [dig_len, tw_len, len_e]; omega) (div_int (by decide) (by decide) ⟨rfl, ?_⟩))))
    rw [tw_step _ _ _ (by omega), Int.ediv_ediv_of_nonneg (Int.le_of_lt p0), Int.pow_succ]
  · rw [if_neg (by simpa using c)]
    have ej : j = many i := by
      have z : ¬ (j + 1 ≤ many i) := fun z => c (by
        have z2 := (log_le tp).mp z
        rw [Int.pow_succ, Int.mul_comm] at z2
        exact (Int.le_ediv_iff_mul_le p0).mpr z2)
      omega
    subst ej
    have l1 : (tw (many i) (foldZ i + 1) "").length = many i := by rw [tw_len, len_e, Nat.add_zero]
    have sl : sizeLine = 16777216 := sizeLine_eq
    refine .inl ⟨_, many i, rfl, ⟨by omega, l1.symm⟩, mul_ones (by omega) (add_str (by rw [ones_len, len_0]; omega) (add_str ?_ q))⟩
    rw [strLen_append, ones_len, len_0, l1]
    omega
def rdGraded (K : PySem.W.Frag) (ac : L2.St → Hp → Acts) (W : WX) : TS :=
  (tSeq (tAsg (tFn (sh sp_fold [0]) ac W (tCons (tVar 0) tNil) tNil 1 0) (gName 2))
  (tSeq (tAsg (tOp (G.rBin K .FloorDiv) (tVar 2) (tFn (sh sp_two [0]) ac W (tCons (tVar 1) tNil) tNil 1 0)) (gName 3))
  (tSeq (tIfS (tTest (tOp (G.rCmp K .Lt) (tVar 3) (tC (.int 12))))
  (tRet (tOp (G.rBin K .Add) (tOp (G.rBin K .Add) (tOp (G.rBin K .Mult) (tC (.str "1")) (tVar 3)) (tC (.str "0"))) (tFn (sh sp_in_twos [0, 1]) ac W (tCons (tOp (G.rBin K .Mod) (tCB G.rInt1 (tCons (tVar 2) tNil)) (tFn (sh sp_two [0]) ac W (tCons (tVar 1) tNil) tNil 1 0)) (tCons (tVar 1) tNil)) tNil 2 0)))
  tNext)
  (tRet (tOp (G.rBin K .Add) (tOp (G.rBin K .Mult) (tC (.str "1")) (tC (.int 12))) (tFn (sh sp_in_twos [0, 1]) ac W (tCons (tVar 2) (tCons (tC (.int 16)) tNil)) tNil 2 0))))))
theorem ok_lgraded (h : sp_graded vs H Q E) : vs.length = 2 ∧ rdGraded K ac W (Dd Q) (L2.start [n0, n1, n2, n3] vs) H := by
  obtain ⟨i, g, rfl, h1, h2, g0, g1, q⟩ := h
  refine ⟨rfl, ?_⟩
  rw [show L2.start [n0, n1, n2, n3] [V.int i, V.int g] = [some (.int i), some (.int g), none, none] from rfl]
  unfold rdGraded
  simp only [tSeq, tWhile, tAnd, tOr, tNot, tTest, tTru, tOp, tUn, tVar, tC, tLst, tTup, tNil, tAsg, tBM, tBM0, tCons, gSub, tIfS, tCB, gName, tRet, tRetN, tNext, tIf, tFn, tDrop, tRaise0, tAndT, tOrT, tNotT, tChain, tAug, tPar, tPar3, for_go, lc_go, iRng1, iRng2, iSeq, tSl, tPart, tNoPart, tRaiseA, tAttr, List.getElem?_cons_zero, List.getElem?_cons_succ, List.set_cons_zero, List.set_cons_succ, Option.some.injEq, exists_eq_left']
  obtain ⟨b1, b2⟩ := foldZ_bounds h1 h2
  have p0 : (0 : Int) < 2 ^ g.toNat := Int.pow_pos (by decide)
  have p1 : (2 : Int) ^ g.toNat < 1073741824 := by
    have z : (2 : Int) ^ g.toNat ≤ 2 ^ 7 := pow_le (by omega)
    exact Int.lt_of_le_of_lt z (by decide)
  have o0 : 0 ≤ foldZ i / 2 ^ g.toNat := Int.ediv_nonneg b1 (Int.le_of_lt p0)
  refine ⟨rfl, rfl, i, rfl, by omega, by omega, ⟨rfl, rfl, g, rfl, g0, by omega, div_int p0 p1 (lt_int ⟨_, rfl, ?_⟩)⟩⟩
  unfold gradeW at q
  by_cases c : foldZ i / 2 ^ g.toNat < 12
  · rw [if_pos (decide_eq_true c)]
    rw [if_pos c] at q
    obtain ⟨n, hn⟩ : ∃ n : Nat, foldZ i / 2 ^ g.toNat = n := ⟨_, (Int.toNat_of_nonneg o0).symm⟩
    rw [hn] at q c ⊢
    refine mul_ones (by omega) (add_str (by rw [ones_len, len_0]; omega) ?_)
    refine int_1 ⟨rfl, rfl, g, rfl, g0, by omega, mod_int p0 ⟨rfl, rfl, _, _, rfl, by omega, by omega, ?_⟩⟩
    rw [Int.toNat_natCast] at q
    refine add_str ?_ q
    rw [strLen_append, ones_len, len_0, tw_len, len_e]
    omega
  · rw [if_neg (by simpa using c)]
    rw [if_neg c] at q
    refine mul_ones (n := 12) (by omega) ⟨rfl, rfl, _, 16, rfl, by omega, by omega, ?_⟩
    refine add_str ?_ q
    rw [ones_len, tw_len, len_e]
    show 12 + (16 + 0) ≤ _
    decide
end
/-! ### what repr prints of flat values -/
def toV : PyData → V
  | .int i => .int i
  | .str x => .str x
  | .bool b => .bl b
  | _ => .non
def PlD (d : PyData) : Prop := (∃ i : Int, d = .int i ∧ i.natAbs < 10 ^ 15) ∨ (∃ x : Str, d = .str x ∧ BitS x ∧ x.length ≤ 1000) ∨ d = .none ∨ ∃ b, d = .bool b
theorem pl_one {K : PySem.W.Frag} {H : Hp} {d : PyData} (h : PlD d) : Dp K H (toV d) d ∧ d.showable = true ∧ d.hasDict = false ∧ d.depth = 0 ∧ d.shown.length ≤ 10002 := by
  rcases h with ⟨i, rfl, hi⟩ | ⟨x, rfl, hx, hl⟩ | rfl | ⟨b, rfl⟩
  · refine ⟨.int i, ?_, rfl, rfl, ?_⟩
    · show decide (i.natAbs.log2 < 1920) = true
      refine decide_eq_true ?_
      by_cases z : i.natAbs = 0
      · rw [z]
        decide
      · rw [Nat.log2_lt z]
        exact Nat.lt_of_lt_of_le (Nat.lt_trans hi (show 10 ^ 15 < 2 ^ 50 by decide)) (Nat.pow_le_pow_right (by decide) (by decide))
    · have z := int_shown_le (i := i) (by omega)
      show (Str.ofString (toString i)).length ≤ 10002
      omega
  · refine ⟨.str x, rfl, rfl, rfl, ?_⟩
    have z := bit_shown_le hx
    show (reprText x).length ≤ 10002
    omega
  · exact ⟨.non, rfl, rfl, rfl, by decide +kernel⟩
  · exact ⟨.bl b, rfl, rfl, rfl, by cases b <;> decide +kernel⟩
theorem pl_all {K : PySem.W.Frag} {H : Hp} : ∀ {ds : List PyData}, (∀ d ∈ ds, PlD d) → DpAll K H (ds.map toV) ds ∧ PyData.showableAll ds = true ∧ PyData.hasDictAll ds = false ∧ PyData.depthAll ds = 0 ∧ piled (PyData.shownAll ds) ≤ ds.length * 11000
  | [], _ => ⟨.nil, rfl, rfl, rfl, Nat.le_refl _⟩
  | d :: ds, h => by
    obtain ⟨a1, a2, a3, a4, a5⟩ := pl_all (K := K) (H := H) (ds := ds) fun e he => h e (List.mem_cons_of_mem _ he)
    obtain ⟨k1, k2, k3, k4, k5⟩ := pl_one (K := K) (H := H) (h d List.mem_cons_self)
    refine ⟨.cons k1 a1, ?_, ?_, ?_, ?_⟩
    · show (d.showable && PyData.showableAll ds) = true
      rw [k2, a2]
      rfl
    · show (d.hasDict || PyData.hasDictAll ds) = false
      rw [k3, a3]
      rfl
    · show max d.depth (PyData.depthAll ds) = 0
      rw [k4, a4]
      rfl
    · show d.shown.length + 2 + piled (PyData.shownAll ds) ≤ (ds.length + 1) * 11000
      omega
theorem repr_lst {K : PySem.W.Frag} {H : Hp} {p : Addr} {Q : VK} (ds : List PyData) (h : SqL K H p (ds.map toV)) (hp : ∀ d ∈ ds, PlD d) (hl : ds.length ≤ 100) (q : Q (.str (PyData.list ds).shown) H) : G.rRepr K [.ref p] H Q := by
  obtain ⟨a1, a2, a3, a4, a5⟩ := pl_all (K := K) (H := H) hp
  refine .inl ⟨.ref p, .list ds, rfl, .lst h a1, a2, a3, ?_, ?_, ⟨p, rfl⟩, q⟩
  · show PyData.depthAll ds + 1 ≤ 30
    rw [a4]
    decide
  · show (listText (PyData.shownAll ds)).length ≤ sizeLine
    have z := listText_le (PyData.shownAll ds)
    rw [sizeLine_eq]
    omega
theorem tupText_le (ts : List Str) : (PySem.tupleText ts).length ≤ piled ts + 3 := by
  have h := PySem.tupleText_len_le ts
  have e : ∀ ts : List Str, piled ts = (ts.map (·.length)).sum + 2 * ts.length := fun ts => by
    induction ts with
    | nil => rfl
    | cons t r ih =>
      show t.length + 2 + piled r = _
      rw [ih, List.map_cons, List.sum_cons, List.length_cons]
      omega
  rw [e]
  exact h
theorem repr_tup {K : PySem.W.Frag} {H : Hp} {p : Addr} {Q : VK} (ds : List PyData) (h : SqT K H p (ds.map toV)) (hp : ∀ d ∈ ds, PlD d) (hl : ds.length ≤ 100) (q : Q (.str (PyData.tuple ds).shown) H) : G.rRepr K [.ref p] H Q := by
  obtain ⟨a1, a2, a3, a4, a5⟩ := pl_all (K := K) (H := H) hp
  refine .inl ⟨.ref p, .tuple ds, rfl, .tup h a1, a2, a3, ?_, ?_, ⟨p, rfl⟩, q⟩
  · show PyData.depthAll ds + 1 ≤ 30
    rw [a4]
    decide
  · show (PySem.tupleText (PyData.shownAll ds)).length ≤ sizeLine
    have z := tupText_le (PyData.shownAll ds)
    rw [sizeLine_eq]
    omega
theorem pl_int {i : Int} (h0 : -1000000 ≤ i) (h1 : i ≤ 1000000) : PlD (.int i) := .inl ⟨i, rfl, by omega⟩
theorem pl_str {x : Str} (h : BitS x) (l : x.length ≤ 1000) : PlD (.str x) := .inr (.inl ⟨x, rfl, h, l⟩)
/-! ### joined signs -/
theorem glue_cps : ∀ (ys : List Str) (acc : Array Nat), (ys.foldl (fun acc p => acc ++ (("" : Str)).cps ++ p.cps) acc).toList = acc.toList ++ (ys.map fun y => y.cps.toList).flatten
  | [], acc => by simp
  | y :: ys, acc => by
    have e0 : (("" : Str)).cps = #[] := by decide +kernel
    rw [List.foldl_cons, glue_cps ys, List.map_cons, List.flatten_cons, e0]
    simp
theorem join_cps (ys : List Str) : (Txt.join "" ys).cps.toList = (ys.map fun y => y.cps.toList).flatten := by
  unfold Txt.join Builtin.Str.glued
  cases ys with
  | nil => rfl
  | cons y ys =>
    show (ys.foldl (fun acc p => acc ++ (("" : Str)).cps ++ p.cps) y.cps).toList = _
    rw [glue_cps]
    rfl
theorem join_bit {ys : List Str} (h : ∀ y ∈ ys, y = "0" ∨ y = "1") : BitS (Txt.join "" ys) := fun c hc => by
  rw [join_cps] at hc
  obtain ⟨l, hl, hc⟩ := List.mem_flatten.mp hc
  obtain ⟨y, hy, rfl⟩ := List.mem_map.mp hl
  rcases h y hy with rfl | rfl
  · exact bits_0 c hc
  · exact bits_1 c hc
theorem join_len : ∀ {ys : List Str}, (∀ y ∈ ys, y = "0" ∨ y = "1") → (Txt.join "" ys).length = ys.length := fun {ys} h => by
  rw [← len_cps, join_cps]
  induction ys with
  | nil => rfl
  | cons y ys ih =>
    rw [List.map_cons, List.flatten_cons, List.length_append, ih fun z hz => h z (List.mem_cons_of_mem _ hz), len_cps, List.length_cons]
    rcases h y List.mem_cons_self with e | e
    · rw [e, len_0]
      omega
    · rw [e, len_1]
      omega
theorem sum_len : ∀ {ys : List Str}, (∀ y ∈ ys, y = "0" ∨ y = "1") → (ys.map (·.length)).sum = ys.length
  | [], _ => rfl
  | y :: ys, h => by
    rw [List.map_cons, List.sum_cons, sum_len fun z hz => h z (List.mem_cons_of_mem _ hz), List.length_cons]
    rcases h y List.mem_cons_self with e | e
    · rw [e, len_0]
      omega
    · rw [e, len_1]
      omega
theorem isBits_of {x : Str} (h : BitS x) : isBits (.str x) = true := by
  refine decide_eq_true (strip_all fun c hc => ?_)
  rcases h c hc with e | e <;> rw [e] <;> decide +kernel
theorem cut_bit {z : Str} (h : BitS z) (lo hi : Option Int) : BitS (cutS z lo hi) := fun c hc => by
  unfold cutS at hc
  exact h c (List.mem_of_mem_drop (List.mem_of_mem_take hc))
theorem many_le {i : Int} (h1 : -32768 < i) (h2 : i < 32768) : many i ≤ 16 := by
  obtain ⟨b1, b2⟩ := foldZ_bounds h1 h2
  exact log_small (by omega) (by omega)
theorem longW_bit (i : Int) : BitS (longW i) := ((ones_bit _).app bits_0).app (tw_bit _ _ _ bits_e)
theorem longW_len (i : Int) : (longW i).length = 2 * many i + 1 := by
  unfold longW
  rw [strLen_append, strLen_append, ones_len, len_0, tw_len, len_e]
  omega
theorem gradeW_bit (i g : Int) : BitS (gradeW i g) := by
  unfold gradeW
  split
  · exact ((ones_bit _).app bits_0).app (tw_bit _ _ _ bits_e)
  · exact (ones_bit _).app (tw_bit _ _ _ bits_e)
theorem gradeW_len (i g : Int) : (gradeW i g).length = if foldZ i / 2 ^ g.toNat < 12 then (foldZ i / 2 ^ g.toNat).toNat + 1 + g.toNat else 28 := by
  unfold gradeW
  split
  · rw [strLen_append, strLen_append, ones_len, len_0, tw_len, len_e]
    omega
  · rw [strLen_append, ones_len, tw_len, len_e]
theorem grade_28 {i g : Int} (g0 : 0 ≤ g) (g1 : g ≤ 7) (h0 : 0 ≤ foldZ i) : (gradeW i g).length ≤ 28 := by
  rw [gradeW_len]
  have p0 : (0 : Int) < 2 ^ g.toNat := Int.pow_pos (by decide)
  have z0 : 0 ≤ foldZ i / 2 ^ g.toNat := Int.ediv_nonneg h0 (Int.le_of_lt p0)
  split <;> omega
/-! ### the state through a row of steps -/
structure Rf (T : List (Addr × Str)) (st La Ca : Addr) (H0 H : Hp) (t : Int) : Prop where
  d : Drw st La Ca H t
  T : Tabs T H
  n : DrN st La H0 H
structure NewL (st La Ca : Addr) (H0 : Hp) (l : Addr) : Prop where
  n1 : l ≠ st
  n2 : l ≠ La
  n3 : l ≠ Ca
  n0 : ∀ o, H0 l = some o → (∀ ps, o ≠ .tbl ps) → False
section
variable {T : List (Addr × Str)} {st La Ca : Addr} {K : PySem.W.Frag} {H0 H H1 : Hp} {t u : Int} {x : V}
theorem Rf.new {p : Addr} {o : HO} (r : Rf T st La Ca H0 H t) (h : H p = none) : Rf T st La Ca H0 (upd H p o) t := ⟨r.d.new h, tabs_new r.T h, r.n.new h⟩
theorem Rf.dr (r : Rf T st La Ca H0 H t) (d : Drw st La Ca H1 u) (f : Dr st La H H1) : Rf T st La Ca H0 H1 u := ⟨d, tabs_dr r.T r.d f, r.n.trans f.n⟩
theorem Rf.lam (r : Rf T st La Ca H0 H t) (f : ExtN H H1) (T1 : Tabs T H1) : Rf T st La Ca H0 H1 t := ⟨r.d.ext f, T1, r.n.trans (ext_n f)⟩
theorem Rf.mono (r : Rf T st La Ca H0 H t) (h : t ≤ u) : Rf T st La Ca H0 H u := ⟨r.d.mono h, r.T, r.n⟩
theorem Rf.fresh (r : Rf T st La Ca H0 H t) : Rf T st La Ca H H t := ⟨r.d, r.T, DrN.refl _ _ _⟩
theorem Rf.trans (r : Rf T st La Ca H0 H t) (r2 : Rf T st La Ca H H1 u) : Rf T st La Ca H0 H1 u := ⟨r2.d, r2.T, r.n.trans r2.n⟩
theorem Rf.newL {l : Addr} (r : Rf T st La Ca H0 H t) (h : H l = none) : NewL st La Ca H0 l := by
  obtain ⟨cs, ls, u, v, z, _⟩ := r.d
  have n1 : l ≠ st := fun e => by rw [e, z.st] at h; cases h
  have n2 : l ≠ La := fun e => by rw [e, z.la] at h; cases h
  have n3 : l ≠ Ca := fun e => by rw [e, z.ca] at h; cases h
  refine ⟨n1, n2, n3, fun o e k => ?_⟩
  rw [r.n _ _ e n1 n2 k] at h
  cases h
theorem Rf.put {l : Addr} {o o' : HO} (r : Rf T st La Ca H0 H t) (N : NewL st La Ca H0 l) (h : H l = some o) (ht : ∀ ps, o ≠ .tbl ps) (hx : ∀ φ, o ≠ .ext φ) : Rf T st La Ca H0 (upd H l o') t := by
  obtain ⟨cs, ls, u, v, z, hu⟩ := r.d
  refine ⟨⟨cs, ls, u, v, { z with st := by rw [upd_ne (Ne.symm N.n1)]; exact z.st, la := by rw [upd_ne (Ne.symm N.n2)]; exact z.la, ca := by rw [upd_ne (Ne.symm N.n3)]; exact z.ca }, hu⟩, fun q hq => ?_, fun b w e m1 m2 k => ?_⟩
  · obtain ⟨ps, h1, h2, h3⟩ := r.T q hq
    refine ⟨ps, by rw [upd_ne (fun e => by rw [e, h] at h1; exact ht ps (Option.some.inj h1))]; exact h1, h2, fun pos cv hc => ?_⟩
    obtain ⟨c, e1, e2⟩ := h3 pos cv hc
    exact ⟨c, e1, by rw [upd_ne (fun e => by rw [e, h] at e2; exact hx _ (Option.some.inj e2))]; exact e2⟩
  · rw [upd_ne (fun e2 => N.n0 w (by rw [← e2]; exact e) k)]
    exact r.n b w e m1 m2 k
theorem Rf.putl {l : Addr} {xs ys : List V} (r : Rf T st La Ca H0 H t) (N : NewL st La Ca H0 l) (h : H l = some (.lst xs)) : Rf T st La Ca H0 (upd H l (.lst ys)) t := r.put N h (fun _ e => nomatch e) (fun _ e => nomatch e)
/-- a value that stays what it is while the state goes on -/
def Od (st La : Addr) (H : Hp) (x : V) : Prop := Kd H x ∧ ∀ a, x = .ref a → a ≠ st ∧ a ≠ La
theorem Od.keep (h : Od st La H x) (n : DrN st La H H1) : Od st La H1 x := by
  refine ⟨?_, h.2⟩
  cases x with
  | ref a =>
    obtain ⟨n1, n2⟩ := h.2 a rfl
    rcases h.1 with ⟨xs, e⟩ | ⟨xs, e⟩ | ⟨xs, e⟩
    · exact .inl ⟨xs, n _ _ e n1 n2 fun _ z => nomatch z⟩
    · exact .inr (.inl ⟨xs, n _ _ e n1 n2 fun _ z => nomatch z⟩)
    · exact .inr (.inr ⟨xs, n _ _ e n1 n2 fun _ z => nomatch z⟩)
  | _ => exact h.1
theorem od_flat (k : Kd H x) (h : ∀ a, x ≠ .ref a) : Od st La H x := ⟨k, fun a e => absurd e (h a)⟩
theorem drn_lst {a : Addr} {xs : List V} (n : DrN st La H H1) (n1 : a ≠ st) (n2 : a ≠ La) (h : H a = some (.lst xs)) : H1 a = some (.lst xs) := n _ _ h n1 n2 fun _ z => nomatch z
theorem drn_ext {a : Addr} {φ : Heap → Prop} (n : DrN st La H H1) (d : Drw st La Ca H t) (h : H a = some (.ext φ)) : H1 a = some (.ext φ) := d.keepX n h
/-! ### errors that were caught -/
theorem err_go {C : Str} {H2 : Hp} {Q1 : VK} {E : XK} (c : Ck K C) (r : Rf T st La Ca H0 H2 t) (go : ∀ a H3, Rf T st La Ca H0 H3 t → DrN st La H2 H3 → H3 a = some (ExT (bad K C) none a) → Q1 (.ref a) H3) : ErrK K Q1 E (bad K C) none H2 :=
  ⟨true, c.exm, fun _ a ha => go a _ (r.new ha) ((DrN.refl _ _ _).new ha) upd_same, fun z => nomatch z⟩
theorem err_god {C : Str} {H2 : Hp} {Q1 : VK} {E : XK} {d : Addr} {fs : List (Str × V)} (c : Ck K C) (r : Rf T st La Ca H0 H2 t) (hd : H2 d = none) (go : ∀ a H3, Rf T st La Ca H0 H3 t → DrN st La H2 H3 → H3 a = some (ExT (bad K C) (some d) a) → H3 d = some (.xd fs) → Q1 (.ref a) H3) :
    ErrK K Q1 E (bad K C) (some d) (upd H2 d (.xd fs)) :=
  ⟨true, c.exm, fun _ a ha => go a _ ((r.new hd).new ha) (((DrN.refl _ _ _).new hd).new ha) upd_same (by
    rw [upd_ne (fun e => by rw [← e, upd_same] at ha; cases ha), upd_same]), fun z => nomatch z⟩
theorem isx_err {C D : Str} {a : Addr} {Q1 : VK} {b : Bool} (c : Ck K C) (h : H a = some (ExT (bad K C) none a)) (k : PySem.W.kitOne K (bad K C) (bad K D) = some b) (q : Q1 (.bl b) H) : G.rIsX K [.ref a, .ref (He.ga K D)] H Q1 :=
  .inr (.inr ⟨a, _, none, _, _, b, rfl, h, (fun _ z => nomatch z), c.ex, .own _, k, q⟩)
theorem isx_errd {C D : Str} {a d : Addr} {fs : List (Str × V)} {Q1 : VK} {b : Bool} (c : Ck K C) (h : H a = some (ExT (bad K C) (some d) a)) (hd : H d = some (.xd fs)) (k : PySem.W.kitOne K (bad K C) (bad K D) = some b) (q : Q1 (.bl b) H) : G.rIsX K [.ref a, .ref (He.ga K D)] H Q1 :=
  .inr (.inr ⟨a, _, some d, _, _, b, rfl, h, (fun _ z => by cases z; exact ⟨fs, hd⟩), c.ex, .own _, k, q⟩)
/-- errors of one class in a list -/
structure Al (K : PySem.W.Frag) (C : Str) (H : Hp) (l : Addr) (es : List Addr) : Prop where
  lst : H l = some (.lst (es.map V.ref))
  es : ∀ a ∈ es, H a = some (ExT (bad K C) none a)
theorem Al.keep {C : Str} {l : Addr} {es : List Addr} (A : Al K C H l es) (d : Drw st La Ca H t) (n1 : l ≠ st) (n2 : l ≠ La) (n : DrN st La H H1) : Al K C H1 l es := ⟨drn_lst n n1 n2 A.lst, fun a ha => d.keepX n (A.es a ha)⟩
theorem Al.add {C : Str} {l a : Addr} {es : List Addr} (A : Al K C H l es) (h : H a = some (ExT (bad K C) none a)) : Al K C (upd H l (.lst (es.map V.ref ++ [V.ref a]))) l (es ++ [a]) := by
  refine ⟨by rw [upd_same, List.map_append]; rfl, fun b hb => ?_⟩
  have z : H b = some (ExT (bad K C) none b) := (List.mem_append.mp hb).elim (A.es b) fun e => by rw [List.mem_singleton.mp e]; exact h
  rw [upd_ne (fun e => by rw [e, A.lst] at z; cases z)]
  exact z
end
/-! ### small rules -/
theorem len_lst {K : PySem.W.Frag} {H : Hp} {a : Addr} {xs : List V} {Q : VK} (h : SqL K H a xs) (q : Q (.int xs.length) H) : G.rLen K [.ref a] H Q := .inl ⟨_, _, rfl, .inl ⟨xs, h, rfl⟩, q⟩
theorem min_int {K : PySem.W.Frag} {H : Hp} {i j : Int} {Q : VK} (q : Q (.int (if j < i then j else i)) H) : G.rMin2 K [.int i, .int j] H Q := q
theorem isnot_bl {K : PySem.W.Frag} {H : Hp} {a b : Bool} {Q : VK} (q : Q (.bl (!decide (a = b))) H) : G.rCmp K .IsNot (.bl a) (.bl b) H Q := q
theorem keep_new {H : Hp} {b p : Addr} {o u : HO} (h : H b = some o) (n : H p = none) : upd H p u b = some o := by
  rw [upd_ne (ne_of_none h n)]
  exact h
theorem k_bits {x : V} {H : Hp} {Q : VK} {E : XK} (k : Kd H x) (l : ∀ a, x = .str a → a.length ≤ 1000000) {b : Bool} (e : isBits x = b) (q : Q (.bl b) H) : sp_is_bits [x] H Q E := ⟨x, rfl, k, l, by rw [e]; exact q⟩
end Pk

set_option Elab.async false
set_option linter.all false
set_option maxRecDepth 100000
set_option maxHeartbeats 8000000
namespace Pk
open PySem PySem.Spec PyProof.Rows L2 LamX G
/-! ### a list in another order -/
theorem dr_over {st La p : Addr} {H H1 : Hp} {o : HO} (a : Dr st La H H1) (n : H p = none) : Dr st La H (upd H1 p o) := fun c u h n1 m => by
  rw [upd_ne (ne_of_none h n)]
  exact a c u h n1 m
theorem drw_put {st La Ca l : Addr} {H : Hp} {t : Int} {o : HO} (d : Drw st La Ca H t) (n1 : l ≠ st) (n2 : l ≠ La) (n3 : l ≠ Ca) : Drw st La Ca (upd H l o) t := by
  obtain ⟨cs, ls, u, v, z, hu⟩ := d
  exact ⟨cs, ls, u, v, { z with st := by rw [upd_ne (Ne.symm n1)]; exact z.st, la := by rw [upd_ne (Ne.symm n2)]; exact z.la, ca := by rw [upd_ne (Ne.symm n3)]; exact z.ca }, hu⟩
theorem drw_ne {st La Ca l : Addr} {H : Hp} {t : Int} (d : Drw st La Ca H t) (h : H l = none) : l ≠ st ∧ l ≠ La ∧ l ≠ Ca := by
  obtain ⟨cs, ls, u, v, z, _⟩ := d
  exact ⟨fun e => by (rw [e, z.st] at h; cases h), fun e => by (rw [e, z.la] at h; cases h), fun e => by (rw [e, z.ca] at h; cases h)⟩
theorem mem_erase {α : Type} {l : List α} {i : Nat} {x : α} (h : x ∈ l.eraseIdx i) : x ∈ l := List.mem_of_mem_eraseIdx h
theorem map_erase {α β : Type} (f : α → β) : ∀ (l : List α) (i : Nat), (l.map f).eraseIdx i = (l.eraseIdx i).map f
  | [], _ => rfl
  | _ :: _, 0 => rfl
  | x :: l, i + 1 => by
    rw [List.map_cons, List.eraseIdx_cons_succ, List.eraseIdx_cons_succ, map_erase f l i, List.map_cons]
def sp_mixed (K : PySem.W.Frag) : SpD := fun vs H Q _ => ∃ (st La Ca a : Addr) (t : Int) (zs : List Int), vs = [.ref st, .ref a] ∧ t ≤ 2 ^ 39 ∧ Drw st La Ca H t ∧ SqL K H a (zs.map V.int) ∧ zs.length ≤ 100000 ∧
  ∀ (r : Addr) (ys : List Int) (H' : Hp), H r = none → H' r = some (.lst (ys.map V.int)) → (∀ y ∈ ys, y ∈ zs) → ys.length = zs.length → Drw st La Ca H' (t + zs.length) → Dr st La H H' → Q (.ref r) H'
def rdMixed (K : PySem.W.Frag) (ac : L2.St → Hp → Acts) (W : WX) : TS :=
  (tSeq (tPar 2 3 (tCons (tCB (G.rListOf K) (tCons (tVar 1) tNil)) (tCons (tLst tNil) tNil)))
  (tSeq (tWhile (tTest (tOp (G.rCmp K .NotEq) (tVar 2) (tLst tNil)))
  (tDrop (tBM K "list" rAppend (tVar 3) (tCons (tBM K "list" rPopAt (tVar 2) (tCons (tFn spDraw ac W (tCons (tVar 0) (tCons (tCB (G.rLen K) (tCons (tVar 2) tNil)) tNil)) tNil 2 0) tNil)) tNil))))
  (tRet (tVar 3))))
theorem ok_mixed {K : PySem.W.Frag} {vs : List V} {H : Hp} {Q : VK} {E : XK} {W : WX} {ac : L2.St → Hp → Acts} {n0 n1 n2 n3 : Str} (h : sp_mixed K vs H Q E) : vs.length = 2 ∧ rdMixed K ac W (Dd Q) (L2.start [n0, n1, n2, n3] vs) H := by
  obtain ⟨st, La, Ca, a, t, zs, rfl, tl, d, ha, hl, q⟩ := h
  refine ⟨rfl, ?_⟩
  rw [show L2.start [n0, n1, n2, n3] [V.ref st, V.ref a] = [some (.ref st), some (.ref a), none, none] from rfl]
  unfold rdMixed
  simp only [tSeq, tWhile, tAnd, tOr, tNot, tTest, tTru, tOp, tUn, tVar, tC, tLst, tTup, tNil, tAsg, tBM, tBM0, tCons, gSub, tIfS, tCB, gName, tRet, tRetN, tNext, tIf, tFn, tDrop, tRaise0, tAndT, tOrT, tNotT, tChain, tAug, tPar, tPar3, for_go, lc_go, iRng1, iRng2, iSeq, tSl, tPart, tNoPart, tRaiseA, tAttr, List.getElem?_cons_zero, List.getElem?_cons_succ, List.set_cons_zero, List.set_cons_succ, Option.some.injEq, exists_eq_left']
  have sl : sizeLine = 16777216 := sizeLine_eq
  refine ⟨a, _, rfl, .inl ha, fun l hl0 => ⟨by rw [sl]; decide, fun p hp => ⟨_, _, rfl, ?_⟩⟩⟩
  obtain ⟨l1, l2, l3⟩ := drw_ne d hl0
  have nlp : p ≠ l := fun e => by rw [e, upd_same] at hp; cases hp
  have hp0 : H p = none := by rw [upd_ne nlp] at hp; exact hp
  obtain ⟨p1, p2, p3⟩ := drw_ne d hp0
  refine ⟨fun m σ H' => ∃ (ls fs : List Int), σ = [some (.ref st), some (.ref a), some (.ref l), some (.ref p)] ∧ ls.length = m ∧ fs.length + m = zs.length ∧ H' l = some (.lst (ls.map V.int)) ∧ H' p = some (.lst (fs.map V.int)) ∧
    (∀ y ∈ ls, y ∈ zs) ∧ (∀ y ∈ fs, y ∈ zs) ∧ Drw st La Ca H' (t + fs.length) ∧ Dr st La H H', ⟨zs.length, zs, [], rfl, rfl, by simp, by rw [upd_ne (Ne.symm nlp), upd_same], upd_same, fun y h => h, (fun y h => nomatch h), ?_, ?_⟩, ?_⟩
  · exact ((d.new hl0).new hp).mono (by simp)
  · exact ((Dr.refl st La H).new hl0).new hp
  rintro m σ H1 ⟨ls, fs, rfl, rfl, hm, h1, h2, m1, m2, d1, f1⟩
  simp only [tSeq, tWhile, tAnd, tOr, tNot, tTest, tTru, tOp, tUn, tVar, tC, tLst, tTup, tNil, tAsg, tBM, tBM0, tCons, gSub, tIfS, tCB, gName, tRet, tRetN, tNext, tIf, tFn, tDrop, tRaise0, tAndT, tOrT, tNotT, tChain, tAug, tPar, tPar3, for_go, lc_go, iRng1, iRng2, iSeq, tSl, tPart, tNoPart, tRaiseA, tAttr, List.getElem?_cons_zero, List.getElem?_cons_succ, List.set_cons_zero, List.set_cons_succ, Option.some.injEq, exists_eq_left']
  refine ⟨by rw [sl]; decide, fun x hx => ?_⟩
  refine ne_nil (.inl (.inl (keep_new h1 hx))) upd_same ⟨_, rfl, ?_⟩
  have d2 := d1.new (o := .lst []) hx
  have f2 := f1.new (o := .lst []) hx
  have h1' := keep_new (u := .lst []) h1 hx
  have h2' := keep_new (u := .lst []) h2 hx
  revert d2 f2 h1' h2'
  generalize upd H1 x (.lst []) = H2
  intro d2 f2 h1' h2'
  cases ls with
  | nil =>
    rw [if_neg (by simp)]
    refine q p fs H2 hp0 h2' m2 (by simpa using hm) (d2.mono ?_) f2
    rw [List.length_nil] at hm
    omega
  | cons z ls =>
    rw [if_pos (by simp)]
    rw [List.length_cons] at hm
    refine ⟨fun σ H' => ∃ (ls' fs : List Int), σ = [some (.ref st), some (.ref a), some (.ref l), some (.ref p)] ∧ ls'.length = ls.length ∧ fs.length + ls.length = zs.length ∧ H' l = some (.lst (ls'.map V.int)) ∧ H' p = some (.lst (fs.map V.int)) ∧
      (∀ y ∈ ls', y ∈ zs) ∧ (∀ y ∈ fs, y ∈ zs) ∧ Drw st La Ca H' (t + fs.length) ∧ Dr st La H H', fun σ' H' ⟨ls', fs, e1, e2, e3, e4⟩ => ⟨ls.length, Nat.lt_succ_self _, ls', fs, e1, e2, e3, e4⟩, ?_⟩
    refine ⟨.inl ⟨rfl, _, .inl (.inl h2')⟩, .inl ⟨rfl, _, .inl (.inl h1')⟩, ?_⟩
    refine len_lst (.inl (.inl h1')) ⟨rfl, rfl, st, La, Ca, _, _, rfl, by rw [List.length_map, List.length_cons]; omega, by rw [List.length_map, List.length_cons]; omega, by omega, d2, fun r H3 r0 r1 d3 f3 => ?_⟩
    rw [List.length_map] at r1
    have h1'' := f3 _ _ h1' l1 l2
    have h2'' := f3 _ _ h2' p1 p2
    have hr : r.toNat < (z :: ls).length := by omega
    have hcl : (z :: ls).length = ls.length + 1 := rfl
    refine ⟨l, _, r, r.toNat, .int ((z :: ls)[r.toNat]), rfl, rfl, h1'', by omega, by omega, seqIndex_of r0 (by rw [List.length_map]; exact r1), by rw [List.getElem?_map, List.getElem?_eq_getElem hr]; rfl, ?_⟩
    have nlp2 : l ≠ p := Ne.symm nlp
    refine ⟨p, _, _, rfl, rfl, by rw [upd_ne nlp]; exact h2'', by rw [List.length_map, sl]; omega, ?_⟩
    refine ⟨(z :: ls).eraseIdx r.toNat, fs ++ [(z :: ls)[r.toNat]], rfl, ?_, ?_, ?_, ?_, ?_, ?_, ?_, ?_⟩
    · rw [List.length_eraseIdx, if_pos hr, List.length_cons]
      omega
    · rw [List.length_append, List.length_singleton]
      omega
    · rw [upd_ne nlp2, upd_same, map_erase]
    · rw [upd_same, List.map_append]
      rfl
    · intro y hy
      exact m1 y (mem_erase hy)
    · intro y hy
      rcases List.mem_append.mp hy with h | h
      · exact m2 y h
      · rw [List.mem_singleton.mp h]
        exact m1 _ (List.getElem_mem hr)
    · refine (drw_put (drw_put d3 l1 l2 l3) p1 p2 p3).mono ?_
      rw [List.length_append, List.length_singleton]
      omega
    · exact dr_over (dr_over (f2.trans f3) hl0) hp0
end Pk

set_option Elab.async false
set_option linter.all false
set_option maxRecDepth 100000
set_option maxHeartbeats 8000000
namespace Pk
open PySem PySem.Spec PyProof.Rows L2 LamX G
/-! ### loops over a list, lambdas that are caught, lists of errors looked at -/
theorem go_lst {K : PySem.W.Frag} {a : Addr} (xs : List V) {ix : Nat} {tb : TS} {D : Ends} {σ : L2.St} {H : Hp} (P : Nat → L2.St → Hp → Prop) (h0 : P 0 σ H) (hl : ∀ i σ H, P i σ H → SqL K H a xs)
    (hs : ∀ i x σ H, xs[i]? = some x → P i σ H → tb { D with nx := P (i + 1), ct := P (i + 1), bk := D.nx } (σ.set ix (some x)) H) (he : ∀ σ H, P xs.length σ H → D.nx σ H) : ForGo (Itl K a) (gName ix) tb D σ H := by
  refine ⟨fun i m σ H => P i σ H ∧ i + m = xs.length, ⟨xs.length, h0, by omega⟩, fun i m σ H ⟨h, e⟩ => ?_⟩
  by_cases c : i < xs.length
  · refine .inr ⟨⟨xs, xs[i], hl i σ H h, List.getElem?_eq_getElem c⟩, P (i + 1), fun σ' H' q => ⟨m - 1, by omega, q, by omega⟩, fun x H' ⟨e1, e2⟩ => ?_⟩
    subst e1
    exact hs i x σ H' (e2 xs (hl i σ H' h)) h
  · have : i = xs.length := by omega
    subst this
    exact .inl ⟨⟨xs, hl _ σ H h, Nat.le_refl _⟩, he σ H h⟩
section
variable {T : List (Addr × Str)} {st La Ca : Addr} {K : PySem.W.Frag} {H0 H H1 : Hp} {t u : Int} {x : V}
theorem caught_step {n : Nat} {Γ : Gam} {sc scope : Scope} {body : Expr} {σ : L2.St} {Q : VK} {W : WX} {lm : WX → TE} {C : Str} (hP : Γ.P.isSome = true) (L : lamSB sc scope = true) (hq : ∀ W', wE K n Γ.low scope W' body = lm W') (c : Ck K C) (R : Rf Γ.T st La Ca H0 H t)
    (run : ∀ H2 Q2 (E2 : XK), DrN st La H H2 → E2 (bad K C) none H2 → lm (fun cls d _ H' => E2 cls d H') σ H2 Q2)
    (go : ∀ a H3, Rf Γ.T st La Ca H0 H3 t → DrN st La H H3 → H3 a = some (ExT (bad K C) none a) → Q (.ref a) H3) :
    tCaught K (actsAt Γ sc fun s W b => wE K n Γ.low s W b) W (tLamV Γ.qual Γ.cells Γ.T body scope) σ H Q :=
  caught_lam hP L hq R.T fun H2 hE hT => run H2 _ _ (ext_n hE) (err_go c (R.lam hE hT) fun a H3 r3 n3 x3 => go a H3 r3 ((ext_n hE).trans n3) x3)
/-- [1 for e in errors if not isinstance(e, C)] != [] is False -/
theorem chk_go {C : Str} {l : Addr} {es : List Addr} {i ix : Nat} {σ : L2.St} {k : Bool → Hp → Prop} (c : Ck K C) (R : Rf T st La Ca H0 H t) (A : Al K C H l es) (hσ : σ[i]? = some (some (.ref l))) (hi : ix < σ.length) (hl : es.length ≤ 1000)
    (go : ∀ H', Rf T st La Ca H0 H' t → DrN st La H H' → k false H') :
    (tTest (tOp (G.rCmp K .NotEq) (tLc (iSeq K (tVar i)) (gName ix) (tNot (tTru K (tCB (G.rIsX K) (tCons (tVar ix) (tCons (tC (.ref (He.ga K C))) tNil))))) (tC (.int 1)) [ix]) (tLst tNil))) σ H k := by
  simp only [tSeq, tWhile, tAnd, tOr, tNot, tTest, tTru, tOp, tUn, tVar, tC, tLst, tTup, tNil, tAsg, tBM, tBM0, tCons, gSub, tIfS, tCB, gName, tRet, tRetN, tNext, tIf, tFn, tDrop, tRaise0, tAndT, tOrT, tNotT, tChain, tAug, tPar, tPar3, for_go, lc_go, iRng1, iRng2, iSeq, tSl, tPart, tNoPart, tRaiseA, tAttr, List.getElem?_cons_zero, List.getElem?_cons_succ, List.set_cons_zero, List.set_cons_succ, Option.some.injEq, exists_eq_left']
  refine .inl ⟨_, hσ, l, rfl, ⟨_, .inl (.inl A.lst)⟩, lc_list (es.map V.ref) (fun D i acc H' => acc = [] ∧ H D = none ∧ H' = upd H D (.lst [])) (fun D hD => ⟨rfl, hD, rfl⟩) (fun D i acc H' h => ?_) ?_ ?_⟩
  · rw [h.2.2]
    exact .inl (.inl (keep_new A.lst h.2.1))
  · rintro D j acc H' w hw hA hz ⟨rfl, hD, rfl⟩
    rw [List.getElem?_map] at hw
    obtain ⟨a, ha, rfl⟩ := Option.map_eq_some_iff.mp hw
    have xa := A.es a (List.mem_of_getElem? ha)
    have hix : ((wipe σ [ix]).set ix (some (V.ref a)))[ix]? = some (some (V.ref a)) := by
      show ((σ.set ix none).set ix (some (V.ref a)))[ix]? = _
      rw [List.getElem?_set_self (by rw [List.length_set]; exact hi)]
    show tNot (tTru K (tCB (rIsX K) (tCons (tVar ix) (tCons (tC (V.ref (He.ga K C))) tNil)))) _ _ _
    simp only [tSeq, tWhile, tAnd, tOr, tNot, tTest, tTru, tOp, tUn, tVar, tC, tLst, tTup, tNil, tAsg, tBM, tBM0, tCons, gSub, tIfS, tCB, gName, tRet, tRetN, tNext, tIf, tFn, tDrop, tRaise0, tAndT, tOrT, tNotT, tChain, tAug, tPar, tPar3, for_go, lc_go, iRng1, iRng2, iSeq, tSl, tPart, tNoPart, tRaiseA, tAttr, List.getElem?_cons_zero, List.getElem?_cons_succ, List.set_cons_zero, List.set_cons_succ, Option.some.injEq, exists_eq_left']
    refine ⟨_, hix, isx_err c (keep_new xa hD) c.one ⟨_, rfl, ?_⟩⟩
    rw [if_neg (by simp)]
    exact Lp.skip hA hz ⟨rfl, hD, rfl⟩
  · rintro D acc H2 hl2 hA ⟨rfl, hD, rfl⟩
    refine ⟨small rfl, fun p hp => ?_⟩
    refine ne_nil (zs := []) (.inl (.inl (keep_new hA hp))) upd_same ⟨_, rfl, ?_⟩
    exact go _ ((R.new hD).new hp) (((DrN.refl _ _ _).new hD).new hp)
/-- signs that are drawn, joined -/
theorem join_go {cnt : Int} {ix : Nat} {σ : L2.St} {Q' : VK} {i0 : Int} (d : Drw st La Ca H t) (tl : t ≤ 2 ^ 39 + 100000) (hσ : σ[0]? = some (some (.ref st))) (hix : 0 < ix) (c0 : 0 ≤ cnt) (c1 : cnt ≤ 1000)
    (q : ∀ s H', BitS s → s.length ≤ cnt.toNat → Drw st La Ca H' (t + cnt) → Dr st La H H' → Q' (.str s) H') :
    LcGo (Itr 0 cnt.toNat) (gName ix) tYes (tFn spPick noActs noW (tCons (tVar 0) (tCons (tLst (tCons (tC (.str "0")) (tCons (tC (.str "1")) tNil))) tNil)) tNil 2 0) [ix] σ (fun v H2 => G.rJoin K (.str "") [v] H2 Q') H := by
  refine lc_rng (fun D k acc H' => Drw st La Ca H' (t + k) ∧ Dr st La H H' ∧ H D = none ∧ ∃ ys : List Str, acc = ys.map V.str ∧ ∀ y ∈ ys, y = "0" ∨ y = "1") (fun D hD => ⟨(d.new hD).mono (by omega), (Dr.refl _ _ _).new hD, hD, [], rfl, (fun y hy => nomatch hy)⟩) ?_ ?_
  · rintro D k acc H' hk hA hz ⟨dk, fk, hD, ys, rfl, hys⟩
    obtain ⟨n1, n2, n3⟩ := drw_ne d hD
    have h0 : ((wipe σ [ix]).set ix (some (V.int (0 + k))))[0]? = some (some (.ref st)) := by
      show ((σ.set ix none).set ix _)[0]? = _
      rw [List.getElem?_set_ne (by omega), List.getElem?_set_ne (by omega)]
      exact hσ
    simp only [tYes, ↓reduceIte, tSeq, tWhile, tAnd, tOr, tNot, tTest, tTru, tOp, tUn, tVar, tC, tLst, tTup, tNil, tAsg, tBM, tBM0, tCons, gSub, tIfS, tCB, gName, tRet, tRetN, tNext, tIf, tFn, tDrop, tRaise0, tAndT, tOrT, tNotT, tChain, tAug, tPar, tPar3, for_go, lc_go, iRng1, iRng2, iSeq, tSl, tPart, tNoPart, tRaiseA, tAttr, List.getElem?_cons_zero, List.getElem?_cons_succ, List.set_cons_zero, List.set_cons_succ, Option.some.injEq, exists_eq_left']
    refine ⟨_, h0, small rfl, fun p hp => ⟨rfl, rfl, pick_new dk (by omega) hp (Nat.le_of_ble_eq_true rfl) (Nat.le_of_ble_eq_true rfl) fun x H'' hx d' f' => ?_⟩⟩
    have hA' := f' D _ hA n1 n2
    obtain ⟨y, rfl, hy⟩ : ∃ y : Str, x = V.str y ∧ (y = "0" ∨ y = "1") := by
      simp only [List.mem_cons, List.not_mem_nil, or_false] at hx
      rcases hx with rfl | rfl
      · exact ⟨_, rfl, .inl rfl⟩
      · exact ⟨_, rfl, .inr rfl⟩
    refine Lp.put hA' hz (by omega) ⟨(drw_put d' n1 n2 n3).mono (by omega), dr_over (fk.trans f') hD, hD, ys ++ [y], by rw [List.map_append]; rfl, fun v hv => ?_⟩
    rcases List.mem_append.mp hv with h | h
    · exact hys v h
    · rw [List.mem_singleton.mp h]
      exact hy
  · rintro D acc H' hl hA ⟨d', f', hD, ys, rfl, hys⟩
    rw [List.length_map] at hl
    refine ⟨"", D, ys, rfl, rfl, .inl (.inl (.inl hA)), by rw [sum_len hys, len_e]; omega, q _ _ (join_bit hys) (by rw [join_len hys]; exact hl) (d'.mono (by omega)) f'⟩
theorem mul_onesZ {K : PySem.W.Frag} {H : Hp} {i : Int} {Q : VK} (h0 : 0 ≤ i) (h : i ≤ 1000000) (q : Q (.str (ones i.toNat)) H) : G.rBin K .Mult (.str "1") (.int i) H Q := by
  have e : i = ((i.toNat : Nat) : Int) := by omega
  rw [e]
  exact mul_ones (by omega) q
theorem sq_asg2 {e : TE} {i : Nat} {rest : TS} {D : Ends} {σ : L2.St} {H : Hp} (h : e σ H fun v H' => rest D (σ.set i (some v)) H') : tSeq (tAsg e (gName i)) rest D σ H := h
theorem isnot_non {K : PySem.W.Frag} {H : Hp} {x : V} {Q : VK} (q : Q (.bl (!decide (x = .non))) H) : G.rCmp K .IsNot x .non H Q := by
  cases x <;> exact q
end
end Pk

set_option Elab.async false
set_option linter.all false
set_option maxRecDepth 100000
set_option maxHeartbeats 8000000
namespace Pk
open PySem PySem.Spec PyProof.Rows L2 LamX G
/-! ## shapes -/
abbrev shC (K : PySem.W.Frag) : Addr := He.ga K "Shape"
def shF (h w lo hi : Int) (oc : V) : List (Str × V) := [("height", .int h), ("width", .int w), ("low", .int lo), ("high", .int hi), ("middle", .int ((lo + hi) / 2)), ("own_cells", oc)]
def ShAt (K : PySem.W.Frag) (H : Hp) (a : Addr) (h w lo hi : Int) : Prop := (∃ dx oc, H a = some (.ins (shC K) dx (shF h w lo hi oc))) ∧ 1 ≤ h ∧ h ≤ 16 ∧ 1 ≤ w ∧ w ≤ 16 ∧ -512 ≤ lo ∧ lo ≤ hi ∧ hi ≤ 511
def shNames : List Str := ["height", "width", "low", "high", "middle", "own_cells"]
def kdTys : List String := ["NoneType", "bool", "int", "str", "list", "tuple", "dict"]
structure ShC (K : PySem.W.Frag) : Prop where
  ins : InsC K (shC K)
  na : ∀ f ∈ shNames, NoAttr K (shC K) f
  kn : ∀ t ∈ kdTys, PySem.W.kitOne K (.type t) (.ref (shC K)) = some false
  ce : Ck K "BadShape"
  xf : XfC K (He.ga K "BadShape")
  nf : PySem.W.findIn K (.ref (He.ga K "BadShape")) "part" = some none
def shB (K : PySem.W.Frag) : Bool := insB K (shC K) && (shNames.all (fun f => He.eqO (PySem.W.findIn K (.ref (shC K)) f) (some none)) && (kdTys.all (fun t => decide (PySem.W.kitOne K (.type t) (.ref (shC K)) = some false)) &&
  (exB K (He.ga K "BadShape") && (L2.xfB K (He.ga K "BadShape") && He.eqO (PySem.W.findIn K (.ref (He.ga K "BadShape")) "part") (some none)))))
theorem shB_ok {K : PySem.W.Frag} (h : shB K = true) (e : PySem.W.exmOne K (bad K "BadShape") (.ref (He.ga K "ReelError")) = some true) : ShC K := by
  obtain ⟨h1, h⟩ := He.ba h
  obtain ⟨h2, h⟩ := He.ba h
  obtain ⟨h3, h⟩ := He.ba h
  obtain ⟨h4, h⟩ := He.ba h
  obtain ⟨h5, h6⟩ := He.ba h
  exact ⟨insB_ok h1, fun f hf => He.eqO_ok (List.all_eq_true.mp h2 f hf), fun t ht => of_decide_eq_true (List.all_eq_true.mp h3 t ht), ⟨e, (exB_ok h4).1, (exB_ok h4).2⟩, L2.xfB_ok h5, He.eqO_ok h6⟩
section
variable {K : PySem.W.Frag} {H H1 : Hp} {a : Addr} {h w lo hi : Int} {x : V} {Q : VK} {st La Ca : Addr} {t : Int}
theorem Drw.keepI {C dx : Addr} {fs : List (Str × V)} (d : Drw st La Ca H t) (n : DrN st La H H1) (h : H a = some (.ins C dx fs)) : H1 a = some (.ins C dx fs) := by
  obtain ⟨l, v, z⟩ := d.full
  obtain ⟨ys, z2⟩ := d.la
  exact n a _ h (fun e => by rw [e, z] at h; cases h) (fun e => by rw [e, z2] at h; cases h) fun _ e => by cases e
theorem ShAt.keep (s : ShAt K H a h w lo hi) (d : Drw st La Ca H t) (n : DrN st La H H1) : ShAt K H1 a h w lo hi := by
  obtain ⟨⟨dx, oc, e⟩, r⟩ := s
  exact ⟨⟨dx, oc, Drw.keepI d n e⟩, r⟩
theorem ShAt.new {p : Addr} {o : HO} (s : ShAt K H a h w lo hi) (hp : H p = none) : ShAt K (upd H p o) a h w lo hi := by
  obtain ⟨⟨dx, oc, e⟩, r⟩ := s
  exact ⟨⟨dx, oc, keep_new e hp⟩, r⟩
theorem fld_sh (c : ShC K) (s : ShAt K H a h w lo hi) {f : Str} {v : V} (hf : f ∈ shNames) (l : ∀ oc, (shF h w lo hi oc).lookup f = some v) (q : Q v H) : G.rFld K f (.ref a) H Q := by
  obtain ⟨⟨dx, oc, e⟩, r⟩ := s
  exact .inl ⟨a, _, dx, _, v, rfl, e, c.ins.cl, c.na f hf, l oc, q⟩
theorem fld_low (c : ShC K) (s : ShAt K H a h w lo hi) (q : Q (.int lo) H) : G.rFld K "low" (.ref a) H Q := fld_sh c s (by simp [shNames]) (fun _ => rfl) q
theorem fld_high (c : ShC K) (s : ShAt K H a h w lo hi) (q : Q (.int hi) H) : G.rFld K "high" (.ref a) H Q := fld_sh c s (by simp [shNames]) (fun _ => rfl) q
theorem fld_height (c : ShC K) (s : ShAt K H a h w lo hi) (q : Q (.int h) H) : G.rFld K "height" (.ref a) H Q := fld_sh c s (by simp [shNames]) (fun _ => rfl) q
theorem fld_width (c : ShC K) (s : ShAt K H a h w lo hi) (q : Q (.int w) H) : G.rFld K "width" (.ref a) H Q := fld_sh c s (by simp [shNames]) (fun _ => rfl) q
theorem fld_middle (c : ShC K) (s : ShAt K H a h w lo hi) (q : Q (.int ((lo + hi) / 2)) H) : G.rFld K "middle" (.ref a) H Q := fld_sh c s (by simp [shNames]) (fun _ => rfl) q
theorem isx_sh (c : ShC K) (s : ShAt K H a h w lo hi) (q : Q (.bl true) H) : G.rIsX K [.ref a, .ref (shC K)] H Q := by
  obtain ⟨⟨dx, oc, e⟩, r⟩ := s
  exact .inl ⟨.ref a, .ref (shC K), _, _, true, rfl, .own _, .base (.ins e c.ins.cl c.ins.ha c.ins.hn c.ins.ht c.ins.hm), c.ins.one, q⟩
theorem isx_no (c : ShC K) (k : Kd H x) (q : Q (.bl false) H) : G.rIsX K [x, .ref (shC K)] H Q := by
  refine .inl ?_
  have go : ∀ (t : String), t ∈ kdTys → TyOf K H x (.type t) → rIsi K [x, .ref (shC K)] H Q := fun t h1 h2 => ⟨x, .ref (shC K), _, _, false, rfl, .own _, .base h2, c.kn t h1, q⟩
  cases x with
  | non => exact go _ (by simp [kdTys]) .non
  | bl b => exact go _ (by simp [kdTys]) (.bl b)
  | int i => exact go _ (by simp [kdTys]) (.int i)
  | str y => exact go _ (by simp [kdTys]) (.str y)
  | ref a =>
    rcases k with ⟨xs, h⟩ | ⟨xs, h⟩ | ⟨kvs, h⟩
    · exact go _ (by simp [kdTys]) (.lst h)
    · exact go _ (by simp [kdTys]) (.tup h)
    · exact go _ (by simp [kdTys]) (.dK h)
  | _ => exact k.elim
end
/-- an error that keeps v in its part -/
def ErrP (K : PySem.W.Frag) (C f : Str) (v : V) (H : Hp) (E : XK) : Prop := ∀ d, H d = none → E (bad K C) (some d) (upd H d (.xd [(f, v)]))
def sp_shape_init (K : PySem.W.Frag) : SpD := fun vs H Q E => ∃ (a dx : Addr) (x y z u : V), vs = [.ref a, x, y, z, u] ∧ H a = some (.ins (shC K) dx []) ∧ Kd H x ∧ Kd H y ∧ Kd H z ∧ Kd H u ∧
  (btw x 1 16 = false → ErrP K "BadShape" "part" (.str "height") H E) ∧ (btw x 1 16 = true → btw y 1 16 = false → ErrP K "BadShape" "part" (.str "width") H E) ∧
  (btw x 1 16 = true → btw y 1 16 = true → btw z (-512) 511 = false → ErrP K "BadShape" "part" (.str "low") H E) ∧
  ∀ lo, btw x 1 16 = true → btw y 1 16 = true → z = .int lo → -512 ≤ lo → lo ≤ 511 → (btw u lo 511 = false → ErrP K "BadShape" "part" (.str "high") H E) ∧
    ∀ h w hi, x = .int h → y = .int w → u = .int hi → lo ≤ hi → hi ≤ 511 → Q .non (upd H a (.ins (shC K) dx (shF h w lo hi .non)))
def sp_need_shape (K : PySem.W.Frag) : SpD := fun vs H Q E => ∃ x, vs = [x] ∧ ((Kd H x ∧ ErrP K "BadShape" "part" .non H E) ∨ ∃ a h w lo hi, x = .ref a ∧ ShAt K H a h w lo hi ∧ Q .non H)
abbrev S_Shape___init__ (K : PySem.W.Frag) : SpG := sh (sp_shape_init K) [0, 1, 2, 3, 4]
abbrev S_Shape (K : PySem.W.Frag) : SpG := mkS (He.ga K "Shape") (S_Shape___init__ K)
abbrev S_need_shape (K : PySem.W.Frag) : SpG := sh (sp_need_shape K) [0]
abbrev act_need_shape (acts : Acts) : Acts := fun g tl => false = true ∧ acts g tl
def t_need_shape (K : PySem.W.Frag) (cells : List (Str × Addr)) (acts : Acts) (T : List (Addr × Str)) (pt : Option Addr) (W : WX) : TS :=
  (tIfS (tNot (tTru K (tCB (G.rIsX K) (tCons (tVar 0) (tCons (tC (.ref (He.ga K "Shape"))) tNil)))))
  (tRaiseA (He.ga K "BadShape") "part" W (tCons (tC .non) tNil))
  tNext)
abbrev act_Shape___init__ (acts : Acts) : Acts := fun g tl => false = true ∧ acts g tl
def t_Shape___init__ (K : PySem.W.Frag) (cells : List (Str × Addr)) (acts : Acts) (T : List (Addr × Str)) (pt : Option Addr) (W : WX) : TS :=
  (tSeq (tIfS (tNot (tTru K (tFn (S_is_between K) (fun _ _ => act_Shape___init__ acts) W (tCons (tVar 1) (tCons (tC (.int 1)) (tCons (tC (.int 16)) tNil))) tNil 3 0)))
  (tRaiseA (He.ga K "BadShape") "part" W (tCons (tC (.str "height")) tNil))
  tNext)
  (tSeq (tIfS (tNot (tTru K (tFn (S_is_between K) (fun _ _ => act_Shape___init__ acts) W (tCons (tVar 2) (tCons (tC (.int 1)) (tCons (tC (.int 16)) tNil))) tNil 3 0)))
  (tRaiseA (He.ga K "BadShape") "part" W (tCons (tC (.str "width")) tNil))
  tNext)
  (tSeq (tIfS (tNot (tTru K (tFn (S_is_between K) (fun _ _ => act_Shape___init__ acts) W (tCons (tVar 3) (tCons (tC (.int (-512))) (tCons (tC (.int 511)) tNil))) tNil 3 0)))
  (tRaiseA (He.ga K "BadShape") "part" W (tCons (tC (.str "low")) tNil))
  tNext)
  (tSeq (tIfS (tNot (tTru K (tFn (S_is_between K) (fun _ _ => act_Shape___init__ acts) W (tCons (tVar 4) (tCons (tVar 3) (tCons (tC (.int 511)) tNil))) tNil 3 0)))
  (tRaiseA (He.ga K "BadShape") "part" W (tCons (tC (.str "high")) tNil))
  tNext)
  (tSeq (sFld K (tVar 0) (tVar 1) "height")
  (tSeq (sFld K (tVar 0) (tVar 2) "width")
  (tSeq (sFld K (tVar 0) (tVar 3) "low")
  (tSeq (sFld K (tVar 0) (tVar 4) "high")
  (tSeq (sFld K (tVar 0) (tOp (G.rBin K .FloorDiv) (tOp (G.rBin K .Add) (tVar 3) (tVar 4)) (tC (.int 2))) "middle")
  (sFld K (tVar 0) (tC .non) "own_cells"))))))))))

section
variable {K : PySem.W.Frag} {cells : List (Str × Addr)} {acts : Acts} {T : List (Addr × Str)} {pt : Option Addr} {vs : List V} {H : Hp} {Q : VK} {E : XK}
theorem ok_Shape___init__ (c : ShC K) (h : sp_shape_init K vs H Q E) : vs.length = 5 ∧ t_Shape___init__ K cells acts T pt (Ww E) (Dd Q) (L2.start ["self", "height", "width", "low", "high"] vs) H := by
  obtain ⟨a, dx, x, y, z, u, rfl, ha, kx, ky, kz, ku, h1, h2, h3, h4⟩ := h
  refine ⟨rfl, ?_⟩
  rw [show L2.start ["self", "height", "width", "low", "high"] [V.ref a, x, y, z, u] = [some (.ref a), some x, some y, some z, some u] from rfl]
  unfold t_Shape___init__
  simp only [sFld, tSeq, tWhile, tAnd, tOr, tNot, tTest, tTru, tOp, tUn, tVar, tC, tLst, tTup, tNil, tAsg, tBM, tBM0, tCons, gSub, tIfS, tCB, gName, tRet, tRetN, tNext, tIf, tFn, tDrop, tRaise0, tAndT, tOrT, tNotT, tChain, tAug, tPar, tPar3, for_go, lc_go, iRng1, iRng2, iSeq, tSl, tPart, tNoPart, tRaiseA, tAttr, List.getElem?_cons_zero, List.getElem?_cons_succ, List.set_cons_zero, List.set_cons_succ, Option.some.injEq, exists_eq_left']
  refine ⟨rfl, rfl, x, 1, 16, rfl, kx, _, rfl, ?_⟩
  cases bx : btw x 1 16 with
  | false => exact ⟨_, rfl, h1 bx⟩
  | true =>
  rw [if_neg (by simp)]
  refine ⟨rfl, rfl, y, 1, 16, rfl, ky, _, rfl, ?_⟩
  cases b_y : btw y 1 16 with
  | false => exact ⟨_, rfl, h2 bx b_y⟩
  | true =>
  rw [if_neg (by simp)]
  refine ⟨rfl, rfl, z, -512, 511, rfl, kz, _, rfl, ?_⟩
  cases bz : btw z (-512) 511 with
  | false => exact ⟨_, rfl, h3 bx b_y bz⟩
  | true =>
  rw [if_neg (by simp)]
  obtain ⟨lo, rfl, lo0, lo1⟩ := btw_int bz
  obtain ⟨h5, h6⟩ := h4 lo bx b_y rfl lo0 lo1
  refine ⟨rfl, rfl, u, lo, 511, rfl, ku, _, rfl, ?_⟩
  cases bu : btw u lo 511 with
  | false => exact ⟨_, rfl, h5 bu⟩
  | true =>
  rw [if_neg (by simp)]
  obtain ⟨hh, rfl, _, _⟩ := btw_int bx
  obtain ⟨ww, rfl, _, _⟩ := btw_int b_y
  obtain ⟨hi, rfl, hi0, hi1⟩ := btw_int bu
  have h7 := h6 hh ww hi rfl rfl rfl hi0 hi1
  have cl := c.ins.cl
  refine ⟨a, _, dx, _, rfl, ha, cl, c.na _ (by simp [shNames]), by decide, ?_⟩
  refine ⟨a, _, dx, _, rfl, upd_same, cl, c.na _ (by simp [shNames]), Nat.le_of_ble_eq_true rfl, ?_⟩
  refine ⟨a, _, dx, _, rfl, upd_same, cl, c.na _ (by simp [shNames]), Nat.le_of_ble_eq_true rfl, ?_⟩
  refine ⟨a, _, dx, _, rfl, upd_same, cl, c.na _ (by simp [shNames]), Nat.le_of_ble_eq_true rfl, ?_⟩
  refine G.add_int (div_int (by decide) (by decide) ?_)
  refine ⟨a, _, dx, _, rfl, upd_same, cl, c.na _ (by simp [shNames]), Nat.le_of_ble_eq_true rfl, ?_⟩
  refine ⟨a, _, dx, _, rfl, upd_same, cl, c.na _ (by simp [shNames]), Nat.le_of_ble_eq_true rfl, ?_⟩
  rw [upd_upd, upd_upd, upd_upd, upd_upd, upd_upd]
  exact h7
theorem ok_need_shape (c : ShC K) (h : sp_need_shape K vs H Q E) : vs.length = 1 ∧ t_need_shape K cells acts T pt (Ww E) (Dd Q) (L2.start ["shape"] vs) H := by
  obtain ⟨x, rfl, h⟩ := h
  refine ⟨rfl, ?_⟩
  rw [show L2.start ["shape"] [x] = [some x] from rfl]
  unfold t_need_shape
  simp only [tSeq, tWhile, tAnd, tOr, tNot, tTest, tTru, tOp, tUn, tVar, tC, tLst, tTup, tNil, tAsg, tBM, tBM0, tCons, gSub, tIfS, tCB, gName, tRet, tRetN, tNext, tIf, tFn, tDrop, tRaise0, tAndT, tOrT, tNotT, tChain, tAug, tPar, tPar3, for_go, lc_go, iRng1, iRng2, iSeq, tSl, tPart, tNoPart, tRaiseA, tAttr, List.getElem?_cons_zero, List.getElem?_cons_succ, List.set_cons_zero, List.set_cons_succ, Option.some.injEq, exists_eq_left']
  rcases h with ⟨kx, h⟩ | ⟨a, hh, ww, lo, hi, rfl, s, q⟩
  · exact isx_no c kx ⟨_, rfl, _, rfl, h⟩
  · exact isx_sh c s ⟨_, rfl, q⟩
end
end Pk

set_option Elab.async false
set_option linter.all false
set_option maxRecDepth 100000
set_option maxHeartbeats 8000000
namespace Pk
open PySem PySem.Spec PyProof.Rows L2 LamX G
/-! ## levels and losses -/
def absZ (i : Int) : Int := if i < 0 then -i else i
def lvlZ (r s : Int) : Int := if 0 ≤ r then (absZ r + s) / (2 * s + 1) else -((absZ r + s) / (2 * s + 1))
def clipZ (lo hi n : Int) : Int := if hi < (if lo > n then lo else n) then hi else (if lo > n then lo else n)
def spanZ (lo hi g n s : Int) : Option (Int × Int) :=
  let a := if n = lo then -32767 else -(-(n - g) / (2 * s + 1))
  let b := if n = hi then 32767 else (n - g) / (2 * s + 1)
  if a ≤ b then some (a, b) else none
def OutT (r : Option (Int × Int)) (H : Hp) (Q : VK) : Prop := match r with
  | some (v, b) => ∀ t, H t = none → Q (.ref t) (upd H t (.tup [.int v, .int b]))
  | none => Q .non H
def sp_step_of : SpD := fun vs H Q _ => ∃ s, vs = [.int s] ∧ Q (.int (2 * s + 1)) H
def sp_level_from : SpD := fun vs H Q _ => ∃ r s, vs = [.int r, .int s] ∧ 0 ≤ s ∧ s ≤ 7 ∧ Q (.int (lvlZ r s)) H
def sp_level_of (K : PySem.W.Frag) : SpD := fun vs H Q E => ∃ x y, vs = [x, y] ∧ Kd H x ∧ Kd H y ∧ (btw x (-32767) 32767 = false → E (bad K "BadNumber") none H) ∧ (btw x (-32767) 32767 = true → btw y 0 7 = false → E (bad K "BadLoss") none H) ∧
  ∀ r s, x = .int r → y = .int s → -32767 ≤ r → r ≤ 32767 → 0 ≤ s → s ≤ 7 → Q (.int (lvlZ r s)) H
def sp_clip (K : PySem.W.Frag) : SpD := fun vs H Q _ => ∃ a h w lo hi n, vs = [.ref a, .int n] ∧ ShAt K H a h w lo hi ∧ Q (.int (clipZ lo hi n)) H
def sp_need_guess (K : PySem.W.Frag) : SpD := fun vs H Q E => ∃ a h w lo hi y, vs = [.ref a, y] ∧ ShAt K H a h w lo hi ∧ Kd H y ∧ (btw y lo hi = true → Q .non H) ∧ (btw y lo hi = false → E (bad K "BadGuess") none H)
def sp_rebuilt (K : PySem.W.Frag) : SpD := fun vs H Q E => ∃ x y z u, vs = [x, y, z, u] ∧ Kd H y ∧ Kd H z ∧ Kd H u ∧ ((Kd H x ∧ ErrP K "BadShape" "part" .non H E) ∨ ∃ a h w lo hi, x = .ref a ∧ ShAt K H a h w lo hi ∧
  (btw y lo hi = false → E (bad K "BadGuess") none H) ∧ (btw y lo hi = true → btw z (-32767) 32767 = false → E (bad K "BadNumber") none H) ∧ (btw y lo hi = true → btw z (-32767) 32767 = true → btw u 0 7 = false → E (bad K "BadLoss") none H) ∧
  ∀ g l s, y = .int g → z = .int l → u = .int s → lo ≤ g → g ≤ hi → -32767 ≤ l → l ≤ 32767 → 0 ≤ s → s ≤ 7 → Q (.int (clipZ lo hi (g + l * (2 * s + 1)))) H)
def sp_levels_that (K : PySem.W.Frag) : SpD := fun vs H Q E => ∃ x y z u, vs = [x, y, z, u] ∧ Kd H y ∧ Kd H z ∧ Kd H u ∧ ((Kd H x ∧ ErrP K "BadShape" "part" .non H E) ∨ ∃ a h w lo hi, x = .ref a ∧ ShAt K H a h w lo hi ∧
  (btw y lo hi = false → E (bad K "BadGuess") none H) ∧ (btw y lo hi = true → btw z lo hi = false → E (bad K "BadNumber") none H) ∧ (btw y lo hi = true → btw z lo hi = true → btw u 0 7 = false → E (bad K "BadLoss") none H) ∧
  ∀ g n s, y = .int g → z = .int n → u = .int s → lo ≤ g → g ≤ hi → lo ≤ n → n ≤ hi → 0 ≤ s → s ≤ 7 → OutT (spanZ lo hi g n s) H Q)
abbrev S_need_loss (K : PySem.W.Frag) : SpG := sh (sp_need K "BadLoss" 0 7) [0]
abbrev S_need_guess (K : PySem.W.Frag) : SpG := sh (sp_need_guess K) [0, 1]
abbrev S_step_of (_ : PySem.W.Frag) : SpG := sh sp_step_of [0]
abbrev S_level_from (_ : PySem.W.Frag) : SpG := sh sp_level_from [0, 1]
abbrev S_level_of (K : PySem.W.Frag) : SpG := sh (sp_level_of K) [0, 1]
abbrev S_level_of_k0_loss_rest (K : PySem.W.Frag) : SpG := sh (sp_level_of K) [1, 0]
abbrev S_clip (K : PySem.W.Frag) : SpG := sh (sp_clip K) [0, 1]
abbrev S_rebuilt (K : PySem.W.Frag) : SpG := sh (sp_rebuilt K) [0, 1, 2, 3]
abbrev S_rebuilt_k0_loss_level_guess_shape (K : PySem.W.Frag) : SpG := sh (sp_rebuilt K) [3, 2, 1, 0]
abbrev S_levels_that (K : PySem.W.Frag) : SpG := sh (sp_levels_that K) [0, 1, 2, 3]
abbrev S_levels_that_k0_loss_sample_guess_shape (K : PySem.W.Frag) : SpG := sh (sp_levels_that K) [3, 2, 1, 0]
abbrev act_need_loss (acts : Acts) : Acts := fun g tl => false = true ∧ acts g tl
def t_need_loss (K : PySem.W.Frag) (cells : List (Str × Addr)) (acts : Acts) (T : List (Addr × Str)) (pt : Option Addr) (W : WX) : TS :=
  (tIfS (tNot (tTru K (tFn (S_is_between K) (fun _ _ => act_need_loss acts) W (tCons (tVar 0) (tCons (tC (.int 0)) (tCons (tC (.int 7)) tNil))) tNil 3 0)))
  (tRaise0 (He.ga K "BadLoss") W)
  tNext)
abbrev act_need_guess (acts : Acts) : Acts := fun g tl => false = true ∧ acts g tl
def t_need_guess (K : PySem.W.Frag) (cells : List (Str × Addr)) (acts : Acts) (T : List (Addr × Str)) (pt : Option Addr) (W : WX) : TS :=
  (tIfS (tNot (tTru K (tFn (S_is_between K) (fun _ _ => act_need_guess acts) W (tCons (tVar 1) (tCons (tAttr K "low" (tVar 0)) (tCons (tAttr K "high" (tVar 0)) tNil))) tNil 3 0)))
  (tRaise0 (He.ga K "BadGuess") W)
  tNext)
abbrev act_step_of (acts : Acts) : Acts := fun g tl => false = true ∧ acts g tl
def t_step_of (K : PySem.W.Frag) (cells : List (Str × Addr)) (acts : Acts) (T : List (Addr × Str)) (pt : Option Addr) (W : WX) : TS :=
  (tRet (tOp (G.rBin K .Add) (tOp (G.rBin K .Mult) (tC (.int 2)) (tVar 0)) (tC (.int 1))))
abbrev act_level_from (acts : Acts) : Acts := fun g tl => false = true ∧ acts g tl
def t_level_from (K : PySem.W.Frag) (cells : List (Str × Addr)) (acts : Acts) (T : List (Addr × Str)) (pt : Option Addr) (W : WX) : TS :=
  (tSeq (tAsg (tOp (G.rBin K .FloorDiv) (tOp (G.rBin K .Add) (tCB G.rAbs1 (tCons (tVar 0) tNil)) (tVar 1)) (tFn (S_step_of K) (fun _ _ => act_level_from acts) W (tCons (tVar 1) tNil) tNil 1 0)) (gName 2))
  (tRet (tIf (tTest (tOp (G.rCmp K .GtE) (tVar 0) (tC (.int 0)))) (tVar 2) (tUn (rU fun i => .int (-i)) (tVar 2)))))
abbrev act_level_of (acts : Acts) : Acts := fun g tl => false = true ∧ acts g tl
def t_level_of (K : PySem.W.Frag) (cells : List (Str × Addr)) (acts : Acts) (T : List (Addr × Str)) (pt : Option Addr) (W : WX) : TS :=
  (tSeq (tDrop (tFn (S_need_told K) (fun _ _ => act_level_of acts) W (tCons (tVar 0) tNil) tNil 1 0))
  (tSeq (tDrop (tFn (S_need_loss K) (fun _ _ => act_level_of acts) W (tCons (tVar 1) tNil) tNil 1 0))
  (tRet (tFn (S_level_from K) (fun _ _ => act_level_of acts) W (tCons (tVar 0) (tCons (tVar 1) tNil)) tNil 2 0))))
abbrev act_clip (acts : Acts) : Acts := fun g tl => false = true ∧ acts g tl
def t_clip (K : PySem.W.Frag) (cells : List (Str × Addr)) (acts : Acts) (T : List (Addr × Str)) (pt : Option Addr) (W : WX) : TS :=
  (tRet (tCB (G.rMin2 K) (tCons (tCB (G.rMax2 K) (tCons (tVar 1) (tCons (tAttr K "low" (tVar 0)) tNil))) (tCons (tAttr K "high" (tVar 0)) tNil))))
abbrev act_rebuilt (acts : Acts) : Acts := fun g tl => false = true ∧ acts g tl
def t_rebuilt (K : PySem.W.Frag) (cells : List (Str × Addr)) (acts : Acts) (T : List (Addr × Str)) (pt : Option Addr) (W : WX) : TS :=
  (tSeq (tDrop (tFn (S_need_shape K) (fun _ _ => act_rebuilt acts) W (tCons (tVar 0) tNil) tNil 1 0))
  (tSeq (tDrop (tFn (S_need_guess K) (fun _ _ => act_rebuilt acts) W (tCons (tVar 0) (tCons (tVar 1) tNil)) tNil 2 0))
  (tSeq (tDrop (tFn (S_need_told K) (fun _ _ => act_rebuilt acts) W (tCons (tVar 2) tNil) tNil 1 0))
  (tSeq (tDrop (tFn (S_need_loss K) (fun _ _ => act_rebuilt acts) W (tCons (tVar 3) tNil) tNil 1 0))
  (tRet (tFn (S_clip K) (fun _ _ => act_rebuilt acts) W (tCons (tVar 0) (tCons (tOp (G.rBin K .Add) (tVar 1) (tOp (G.rBin K .Mult) (tVar 2) (tFn (S_step_of K) (fun _ _ => act_rebuilt acts) W (tCons (tVar 3) tNil) tNil 1 0))) tNil)) tNil 2 0))))))
abbrev act_levels_that (acts : Acts) : Acts := fun g tl => false = true ∧ acts g tl
def t_levels_that (K : PySem.W.Frag) (cells : List (Str × Addr)) (acts : Acts) (T : List (Addr × Str)) (pt : Option Addr) (W : WX) : TS :=
  (tSeq (tDrop (tFn (S_need_shape K) (fun _ _ => act_levels_that acts) W (tCons (tVar 0) tNil) tNil 1 0))
  (tSeq (tDrop (tFn (S_need_guess K) (fun _ _ => act_levels_that acts) W (tCons (tVar 0) (tCons (tVar 1) tNil)) tNil 2 0))
  (tSeq (tIfS (tNot (tTru K (tFn (S_is_between K) (fun _ _ => act_levels_that acts) W (tCons (tVar 2) (tCons (tAttr K "low" (tVar 0)) (tCons (tAttr K "high" (tVar 0)) tNil))) tNil 3 0)))
  (tRaise0 (He.ga K "BadNumber") W)
  tNext)
  (tSeq (tDrop (tFn (S_need_loss K) (fun _ _ => act_levels_that acts) W (tCons (tVar 3) tNil) tNil 1 0))
  (tSeq (tPar 4 5 (tCons (tFn (S_step_of K) (fun _ _ => act_levels_that acts) W (tCons (tVar 3) tNil) tNil 1 0) (tCons (tOp (G.rBin K .Sub) (tVar 2) (tVar 1)) tNil)))
  (tSeq (tPar 6 7 (tCons (tUn (rU fun i => .int (-i)) (tOp (G.rBin K .FloorDiv) (tUn (rU fun i => .int (-i)) (tVar 5)) (tVar 4))) (tCons (tOp (G.rBin K .FloorDiv) (tVar 5) (tVar 4)) tNil)))
  (tSeq (tIfS (tTest (tOp (G.rCmp K .Eq) (tVar 2) (tAttr K "high" (tVar 0))))
  (tAsg (tC (.int 32767)) (gName 7))
  tNext)
  (tSeq (tIfS (tTest (tOp (G.rCmp K .Eq) (tVar 2) (tAttr K "low" (tVar 0))))
  (tAsg (tUn (rU fun i => .int (-i)) (tC (.int 32767))) (gName 6))
  tNext)
  (tRet (tIf (tTest (tOp (G.rCmp K .LtE) (tVar 6) (tVar 7))) (tTup (tCons (tVar 6) (tCons (tVar 7) tNil))) (tC .non)))))))))))

section
variable {K : PySem.W.Frag} {cells : List (Str × Addr)} {acts : Acts} {T : List (Addr × Str)} {pt : Option Addr} {vs : List V} {H : Hp} {Q : VK} {E : XK}
theorem max_int {K : PySem.W.Frag} {H : Hp} {i j : Int} {Q : VK} (q : Q (.int (if j > i then j else i)) H) : G.rMax2 K [.int i, .int j] H Q := q
theorem abs_int {H : Hp} {i : Int} {Q : VK} (q : Q (.int (absZ i)) H) : G.rAbs1 [.int i] H Q := q
theorem neg_int {H : Hp} {i : Int} {Q : VK} (q : Q (.int (-i)) H) : rU (fun i => .int (-i)) (.int i) H Q := ⟨i, rfl, q⟩
theorem ok_need_loss (h : sp_need K "BadLoss" 0 7 vs H Q E) : vs.length = 1 ∧ t_need_loss K cells acts T pt (Ww E) (Dd Q) (L2.start ["loss"] vs) H := by
  obtain ⟨x, rfl, hk, h1, h2⟩ := h
  refine ⟨rfl, ?_⟩
  rw [show L2.start ["loss"] [x] = [some x] from rfl]
  unfold t_need_loss
  simp only [tSeq, tWhile, tAnd, tOr, tNot, tTest, tTru, tOp, tUn, tVar, tC, tLst, tTup, tNil, tAsg, tBM, tBM0, tCons, gSub, tIfS, tCB, gName, tRet, tRetN, tNext, tIf, tFn, tDrop, tRaise0, tAndT, tOrT, tNotT, tChain, tAug, tPar, tPar3, for_go, lc_go, iRng1, iRng2, iSeq, tSl, tPart, tNoPart, tRaiseA, tAttr, List.getElem?_cons_zero, List.getElem?_cons_succ, List.set_cons_zero, List.set_cons_succ, Option.some.injEq, exists_eq_left']
  refine ⟨rfl, rfl, x, 0, 7, rfl, hk, _, rfl, ?_⟩
  cases c : btw x 0 7 with
  | true => exact h1 c
  | false => exact h2 c
theorem ok_need_guess (c : ShC K) (h : sp_need_guess K vs H Q E) : vs.length = 2 ∧ t_need_guess K cells acts T pt (Ww E) (Dd Q) (L2.start ["shape", "guess"] vs) H := by
  obtain ⟨a, hh, ww, lo, hi, y, rfl, s, ky, h1, h2⟩ := h
  refine ⟨rfl, ?_⟩
  rw [show L2.start ["shape", "guess"] [V.ref a, y] = [some (.ref a), some y] from rfl]
  unfold t_need_guess
  simp only [tSeq, tWhile, tAnd, tOr, tNot, tTest, tTru, tOp, tUn, tVar, tC, tLst, tTup, tNil, tAsg, tBM, tBM0, tCons, gSub, tIfS, tCB, gName, tRet, tRetN, tNext, tIf, tFn, tDrop, tRaise0, tAndT, tOrT, tNotT, tChain, tAug, tPar, tPar3, for_go, lc_go, iRng1, iRng2, iSeq, tSl, tPart, tNoPart, tRaiseA, tAttr, List.getElem?_cons_zero, List.getElem?_cons_succ, List.set_cons_zero, List.set_cons_succ, Option.some.injEq, exists_eq_left']
  refine fld_low c s (fld_high c s ⟨rfl, rfl, y, lo, hi, rfl, ky, _, rfl, ?_⟩)
  cases b : btw y lo hi with
  | true => exact h1 b
  | false => exact h2 b
theorem ok_step_of (h : sp_step_of vs H Q E) : vs.length = 1 ∧ t_step_of K cells acts T pt (Ww E) (Dd Q) (L2.start ["loss"] vs) H := by
  obtain ⟨s, rfl, q⟩ := h
  refine ⟨rfl, ?_⟩
  rw [show L2.start ["loss"] [V.int s] = [some (.int s)] from rfl]
  unfold t_step_of
  simp only [tSeq, tWhile, tAnd, tOr, tNot, tTest, tTru, tOp, tUn, tVar, tC, tLst, tTup, tNil, tAsg, tBM, tBM0, tCons, gSub, tIfS, tCB, gName, tRet, tRetN, tNext, tIf, tFn, tDrop, tRaise0, tAndT, tOrT, tNotT, tChain, tAug, tPar, tPar3, for_go, lc_go, iRng1, iRng2, iSeq, tSl, tPart, tNoPart, tRaiseA, tAttr, List.getElem?_cons_zero, List.getElem?_cons_succ, List.set_cons_zero, List.set_cons_succ, Option.some.injEq, exists_eq_left']
  exact mul_int (K := K) (by decide) (by decide) (G.add_int (K := K) q)
theorem ok_level_from (h : sp_level_from vs H Q E) : vs.length = 2 ∧ t_level_from K cells acts T pt (Ww E) (Dd Q) (L2.start ["rest", "loss", "level"] vs) H := by
  obtain ⟨r, s, rfl, s0, s1, q⟩ := h
  refine ⟨rfl, ?_⟩
  rw [show L2.start ["rest", "loss", "level"] [V.int r, .int s] = [some (.int r), some (.int s), none] from rfl]
  unfold t_level_from
  simp only [tSeq, tWhile, tAnd, tOr, tNot, tTest, tTru, tOp, tUn, tVar, tC, tLst, tTup, tNil, tAsg, tBM, tBM0, tCons, gSub, tIfS, tCB, gName, tRet, tRetN, tNext, tIf, tFn, tDrop, tRaise0, tAndT, tOrT, tNotT, tChain, tAug, tPar, tPar3, for_go, lc_go, iRng1, iRng2, iSeq, tSl, tPart, tNoPart, tRaiseA, tAttr, List.getElem?_cons_zero, List.getElem?_cons_succ, List.set_cons_zero, List.set_cons_succ, Option.some.injEq, exists_eq_left']
  refine abs_int (G.add_int ⟨rfl, rfl, s, rfl, div_int (by omega) (by omega) (ge_int ⟨_, rfl, ?_⟩)⟩)
  unfold lvlZ at q
  by_cases c : 0 ≤ r
  · rw [if_pos (decide_eq_true c)]
    rw [if_pos c] at q
    exact q
  · rw [if_neg (by rw [decide_eq_true_eq]; exact c)]
    rw [if_neg c] at q
    exact neg_int q
theorem ok_level_of (h : sp_level_of K vs H Q E) : vs.length = 2 ∧ t_level_of K cells acts T pt (Ww E) (Dd Q) (L2.start ["rest", "loss"] vs) H := by
  obtain ⟨x, y, rfl, kx, ky, h1, h2, h3⟩ := h
  refine ⟨rfl, ?_⟩
  rw [show L2.start ["rest", "loss"] [x, y] = [some x, some y] from rfl]
  unfold t_level_of
  simp only [tSeq, tWhile, tAnd, tOr, tNot, tTest, tTru, tOp, tUn, tVar, tC, tLst, tTup, tNil, tAsg, tBM, tBM0, tCons, gSub, tIfS, tCB, gName, tRet, tRetN, tNext, tIf, tFn, tDrop, tRaise0, tAndT, tOrT, tNotT, tChain, tAug, tPar, tPar3, for_go, lc_go, iRng1, iRng2, iSeq, tSl, tPart, tNoPart, tRaiseA, tAttr, List.getElem?_cons_zero, List.getElem?_cons_succ, List.set_cons_zero, List.set_cons_succ, Option.some.injEq, exists_eq_left']
  refine ⟨rfl, rfl, x, rfl, kx, fun bx => ⟨rfl, rfl, y, rfl, ky, fun b_y => ?_, h2 bx⟩, h1⟩
  obtain ⟨r, rfl, r0, r1⟩ := btw_int bx
  obtain ⟨s, rfl, s0, s1⟩ := btw_int b_y
  exact ⟨rfl, rfl, r, s, rfl, s0, s1, h3 r s rfl rfl r0 r1 s0 s1⟩
theorem ok_clip (c : ShC K) (h : sp_clip K vs H Q E) : vs.length = 2 ∧ t_clip K cells acts T pt (Ww E) (Dd Q) (L2.start ["shape", "number"] vs) H := by
  obtain ⟨a, hh, ww, lo, hi, n, rfl, s, q⟩ := h
  refine ⟨rfl, ?_⟩
  rw [show L2.start ["shape", "number"] [V.ref a, .int n] = [some (.ref a), some (.int n)] from rfl]
  unfold t_clip
  simp only [tSeq, tWhile, tAnd, tOr, tNot, tTest, tTru, tOp, tUn, tVar, tC, tLst, tTup, tNil, tAsg, tBM, tBM0, tCons, gSub, tIfS, tCB, gName, tRet, tRetN, tNext, tIf, tFn, tDrop, tRaise0, tAndT, tOrT, tNotT, tChain, tAug, tPar, tPar3, for_go, lc_go, iRng1, iRng2, iSeq, tSl, tPart, tNoPart, tRaiseA, tAttr, List.getElem?_cons_zero, List.getElem?_cons_succ, List.set_cons_zero, List.set_cons_succ, Option.some.injEq, exists_eq_left']
  exact fld_low c s (max_int (K := K) (fld_high c s (min_int (K := K) q)))
theorem ok_rebuilt (c : ShC K) (h : sp_rebuilt K vs H Q E) : vs.length = 4 ∧ t_rebuilt K cells acts T pt (Ww E) (Dd Q) (L2.start ["shape", "guess", "level", "loss"] vs) H := by
  obtain ⟨x, y, z, u, rfl, ky, kz, ku, h⟩ := h
  refine ⟨rfl, ?_⟩
  rw [show L2.start ["shape", "guess", "level", "loss"] [x, y, z, u] = [some x, some y, some z, some u] from rfl]
  unfold t_rebuilt
  simp only [tSeq, tWhile, tAnd, tOr, tNot, tTest, tTru, tOp, tUn, tVar, tC, tLst, tTup, tNil, tAsg, tBM, tBM0, tCons, gSub, tIfS, tCB, gName, tRet, tRetN, tNext, tIf, tFn, tDrop, tRaise0, tAndT, tOrT, tNotT, tChain, tAug, tPar, tPar3, for_go, lc_go, iRng1, iRng2, iSeq, tSl, tPart, tNoPart, tRaiseA, tAttr, List.getElem?_cons_zero, List.getElem?_cons_succ, List.set_cons_zero, List.set_cons_succ, Option.some.injEq, exists_eq_left']
  rcases h with ⟨kx, e⟩ | ⟨a, hh, ww, lo, hi, rfl, s, h1, h2, h3, h4⟩
  · exact ⟨rfl, rfl, x, rfl, .inl ⟨kx, e⟩⟩
  refine ⟨rfl, rfl, _, rfl, .inr ⟨a, hh, ww, lo, hi, rfl, s, ⟨rfl, rfl, a, hh, ww, lo, hi, y, rfl, s, ky, fun b_y => ?_, h1⟩⟩⟩
  refine ⟨rfl, rfl, z, rfl, kz, fun bz => ⟨rfl, rfl, u, rfl, ku, fun bu => ?_, h3 b_y bz⟩, h2 b_y⟩
  obtain ⟨g, rfl, g0, g1⟩ := btw_int b_y
  obtain ⟨l, rfl, l0, l1⟩ := btw_int bz
  obtain ⟨s', rfl, s0, s1⟩ := btw_int bu
  exact ⟨rfl, rfl, s', rfl, mul_int (by omega) (by omega) (G.add_int ⟨rfl, rfl, a, hh, ww, lo, hi, _, rfl, s, h4 g l s' rfl rfl rfl g0 g1 l0 l1 s0 s1⟩)⟩
theorem ok_levels_that (c : ShC K) (h : sp_levels_that K vs H Q E) : vs.length = 4 ∧ t_levels_that K cells acts T pt (Ww E) (Dd Q) (L2.start ["shape", "guess", "sample", "loss", "step", "rest", "least", "most"] vs) H := by
  obtain ⟨x, y, z, u, rfl, ky, kz, ku, h⟩ := h
  refine ⟨rfl, ?_⟩
  rw [show L2.start ["shape", "guess", "sample", "loss", "step", "rest", "least", "most"] [x, y, z, u] = [some x, some y, some z, some u, none, none, none, none] from rfl]
  unfold t_levels_that
  simp only [tSeq, tWhile, tAnd, tOr, tNot, tTest, tTru, tOp, tUn, tVar, tC, tLst, tTup, tNil, tAsg, tBM, tBM0, tCons, gSub, tIfS, tCB, gName, tRet, tRetN, tNext, tIf, tFn, tDrop, tRaise0, tAndT, tOrT, tNotT, tChain, tAug, tPar, tPar3, for_go, lc_go, iRng1, iRng2, iSeq, tSl, tPart, tNoPart, tRaiseA, tAttr, List.getElem?_cons_zero, List.getElem?_cons_succ, List.set_cons_zero, List.set_cons_succ, Option.some.injEq, exists_eq_left']
  rcases h with ⟨kx, e⟩ | ⟨a, hh, ww, lo, hi, rfl, s, h1, h2, h3, h4⟩
  · exact ⟨rfl, rfl, x, rfl, .inl ⟨kx, e⟩⟩
  refine ⟨rfl, rfl, _, rfl, .inr ⟨a, hh, ww, lo, hi, rfl, s, ⟨rfl, rfl, a, hh, ww, lo, hi, y, rfl, s, ky, fun b_y => ?_, h1⟩⟩⟩
  refine fld_low c s (fld_high c s ⟨rfl, rfl, z, lo, hi, rfl, kz, _, rfl, ?_⟩)
  cases bz : btw z lo hi with
  | false => exact h2 b_y bz
  | true =>
  rw [if_neg (by simp)]
  refine ⟨rfl, rfl, u, rfl, ku, fun bu => ?_, h3 b_y bz⟩
  obtain ⟨g, rfl, g0, g1⟩ := btw_int b_y
  obtain ⟨n, rfl, l0, l1⟩ := btw_int bz
  obtain ⟨s', rfl, s0, s1⟩ := btw_int bu
  have h5 := h4 g n s' rfl rfl rfl g0 g1 l0 l1 s0 s1
  refine ⟨rfl, rfl, s', rfl, G.sub_int ⟨_, _, rfl, neg_int (div_int (by omega) (by omega) (neg_int (div_int (by omega) (by omega) ⟨_, _, rfl, fld_high c s (eq_int ⟨_, rfl, ?_⟩)⟩)))⟩⟩
  unfold spanZ at h5
  dsimp only at h5
  have fin : ∀ (p q : Int), OutT (if p ≤ q then some (p, q) else none) H Q → G.rCmp K .LtE (.int p) (.int q) H fun x H' => ∃ k, x = V.bl k ∧ if k = true then [V.int p, .int q].length ≤ sizeLine ∧ ∀ (t : Addr), H' t = none → Q (.ref t) (upd H' t (.tup [.int p, .int q])) else Q .non H' := by
    intro p q o
    refine le_int ⟨_, rfl, ?_⟩
    by_cases cc : p ≤ q
    · rw [if_pos cc] at o
      rw [if_pos (decide_eq_true cc)]
      exact ⟨small2 rfl, o⟩
    · rw [if_neg cc] at o
      rw [if_neg (by rw [decide_eq_true_eq]; exact cc)]
      exact o
  by_cases c1 : n = hi
  · rw [if_pos (decide_eq_true c1)]
    rw [if_pos c1] at h5
    refine fld_low c s (eq_int ⟨_, rfl, ?_⟩)
    by_cases c2 : n = lo
    · rw [if_pos (decide_eq_true c2)]
      rw [if_pos c2] at h5
      exact neg_int (fin _ _ h5)
    · rw [if_neg (by rw [decide_eq_true_eq]; exact c2)]
      rw [if_neg c2] at h5
      exact fin _ _ h5
  · rw [if_neg (by rw [decide_eq_true_eq]; exact c1)]
    rw [if_neg c1] at h5
    refine fld_low c s (eq_int ⟨_, rfl, ?_⟩)
    by_cases c2 : n = lo
    · rw [if_pos (decide_eq_true c2)]
      rw [if_pos c2] at h5
      exact neg_int (fin _ _ h5)
    · rw [if_neg (by rw [decide_eq_true_eq]; exact c2)]
      rw [if_neg c2] at h5
      exact fin _ _ h5
end
end Pk

set_option Elab.async false
set_option linter.all false
set_option maxRecDepth 100000
set_option maxHeartbeats 8000000
namespace Pk
open PySem PySem.Spec PyProof.Rows L2 LamX G
/-! ### the laws' scopes: a shape's four numbers in a dict -/
abbrev clampZ (lo hi n : Int) : Int := if hi < (if lo > n then lo else n) then hi else (if lo > n then lo else n)
def scL (h w lo hi : Int) : List (Key × V) := [(kS "tall", .int h), (kS "wide", .int w), (kS "least", .int lo), (kS "most", .int hi)]
def ScAt (st : Addr) (H : Hp) (p : Addr) (h w lo hi : Int) : Prop := H p = some (.dK (scL h w lo hi)) ∧ p ≠ st ∧ 1 ≤ h ∧ h ≤ 16 ∧ 1 ≤ w ∧ w ≤ 16 ∧ -512 ≤ lo ∧ lo ≤ hi ∧ hi ≤ 511
section
variable {K : PySem.W.Frag} {H H1 : Hp} {p st La Ca : Addr} {h w lo hi t : Int} {Q : VK}
theorem sc_tall (s : ScAt st H p h w lo hi) (q : Q (.int h) H) : G.rSub2 K (.ref p) (.str "tall") H Q := sub_k s.1 (by rfl) q
theorem sc_wide (s : ScAt st H p h w lo hi) (q : Q (.int w) H) : G.rSub2 K (.ref p) (.str "wide") H Q := sub_k s.1 (by rfl) q
theorem sc_least (s : ScAt st H p h w lo hi) (q : Q (.int lo) H) : G.rSub2 K (.ref p) (.str "least") H Q := sub_k s.1 (by rfl) q
theorem sc_most (s : ScAt st H p h w lo hi) (q : Q (.int hi) H) : G.rSub2 K (.ref p) (.str "most") H Q := sub_k s.1 (by rfl) q
theorem ScAt.keep (s : ScAt st H p h w lo hi) (d : Drw st La Ca H t) (n : DrN st La H H1) : ScAt st H1 p h w lo hi := by
  obtain ⟨ys, z2⟩ := d.la
  exact ⟨n _ _ s.1 s.2.1 (fun e => by have z := s.1; rw [e, z2] at z; cases z) (fun _ e => nomatch e), s.2⟩
theorem ScAt.new {q : Addr} {o : HO} (s : ScAt st H p h w lo hi) (hq : H q = none) : ScAt st (upd H q o) p h w lo hi := ⟨keep_new s.1 hq, s.2⟩
theorem ScAt.same (s : ScAt st H p h w lo hi) (n : Same H H1) : ScAt st H1 p h w lo hi := ⟨n _ _ s.1, s.2⟩
theorem same_dr (n : Same H H1) : Dr st La H H1 := fun b o e _ _ => n b o e
theorem drw_same (d : Drw st La Ca H t) (n : Same H H1) : Drw st La Ca H1 t := d.ext fun b o e _ => n b o e
theorem same_newS {q : Addr} {o : HO} (e : Same H H1) (n : H1 q = none) : Same H (upd H1 q o) := fun b u h => by
  rw [upd_ne (ne_of_none (e b u h) n)]
  exact e b u h
/-- constant pairs in a list -/
def pairsT : List (Int × Int) → TA
  | [] => tNil
  | p :: r => tCons (tTup (tCons (tC (.int p.1)) (tCons (tC (.int p.2)) tNil))) (pairsT r)
theorem pairs_in : ∀ (ps : List (Int × Int)) {σ : L2.St} {H : Hp} {R : List V → Hp → Prop}, (∀ xs H', Same H H' → xs.length = ps.length → (∀ x ∈ xs, ∃ p ∈ ps, ∃ a, x = .ref a ∧ H' a = some (.tup [.int p.1, .int p.2])) → R xs H') → pairsT ps σ H R
  | [], σ, H, R, q => q [] H (Same.refl H) rfl fun x hx => nomatch hx
  | p :: r, σ, H, R, q => by
    refine ⟨small rfl, fun a ha => ?_⟩
    refine pairs_in r fun xs H' s l hx => q _ H' (fun b o e => s _ _ (keep_new e ha)) (by rw [List.length_cons, List.length_cons, l]) fun x hx2 => ?_
    rcases List.mem_cons.mp hx2 with rfl | h
    · exact ⟨p, List.mem_cons_self, a, rfl, s _ _ upd_same⟩
    · obtain ⟨p', m, r⟩ := hx x h
      exact ⟨p', List.mem_cons_of_mem _ m, r⟩
theorem pairs_go (ps : List (Int × Int)) {σ : L2.St} (hl : ps.length ≤ 100) (q : ∀ l xs H', H l = none → Same H H' → xs.length = ps.length → H' l = some (.lst xs) → (∀ x ∈ xs, ∃ p ∈ ps, ∃ a, x = .ref a ∧ H' a = some (.tup [.int p.1, .int p.2])) → Q (.ref l) H') : tLst (pairsT ps) σ H Q := by
  refine pairs_in ps fun xs H' s l hx => ⟨by rw [sizeLine_eq]; omega, fun a ha => q a xs _ ?_ (same_new s ?_) l upd_same fun x hx2 => ?_⟩
  · cases z : H a with
    | none => rfl
    | some o => rw [s _ _ z] at ha; cases ha
  · cases z : H a with
    | none => rfl
    | some o => rw [s _ _ z] at ha; cases ha
  · obtain ⟨p, m, b, e1, e2⟩ := hx x hx2
    exact ⟨p, m, b, e1, keep_new e2 ha⟩
end
def sp_scope : SpD := fun vs H Q _ => ∃ (st La Ca : Addr) (t : Int), vs = [.ref st] ∧ t ≤ 2 ^ 39 ∧ Drw st La Ca H t ∧ ∀ p H' h w lo hi, H p = none → ScAt st H' p h w lo hi → Drw st La Ca H' (t + 4) → Dr st La H H' → Q (.ref p) H'
def sp_form (K : PySem.W.Frag) : SpD := fun vs H Q _ => ∃ (st p : Addr) (h w lo hi : Int), vs = [.ref p] ∧ ScAt st H p h w lo hi ∧ ∀ a H', H a = none → ShAt K H' a h w lo hi → Same H H' → Q (.ref a) H'
def sp_within : SpD := fun vs H Q _ => ∃ (st p : Addr) (h w lo hi i : Int), vs = [.ref p, .int i] ∧ ScAt st H p h w lo hi ∧ Q (.int (clampZ lo hi i)) H
def sp_grain : SpD := fun vs H Q _ => ∃ (st La Ca p : Addr) (t h w lo hi : Int), vs = [.ref st, .ref p] ∧ t ≤ 2 ^ 39 ∧ Drw st La Ca H t ∧ ScAt st H p h w lo hi ∧ ∀ g H', lo ≤ g → g ≤ hi → Drw st La Ca H' (t + 1) → Dr st La H H' → Q (.int g) H'
section
variable {K : PySem.W.Frag} {vs : List V} {H : Hp} {Q : VK} {E : XK} {W : WX} {ac : L2.St → Hp → Acts} {n0 n1 n2 n3 n4 n5 : Str}
def scA : List (Int × Int) := [(1, 1), (2, 2), (2, 3), (3, 2), (4, 4), (1, 5), (5, 1), (3, 4), (2, 6), (5, 6), (9, 2)]
def scB : List (Int × Int) := [(2, 10), (3, 16), (8, 8), (10, 9)]
def rdScope (K : PySem.W.Frag) (ac : L2.St → Hp → Acts) (W : WX) : TS :=
  (tSeq (tAsg (tLst (pairsT scA)) (gName 1))
  (tSeq (tAsg (tIf (tTest (tOp (G.rCmp K .Gt) (tFn spDraw ac W (tCons (tVar 0) (tCons (tC (.int 6)) tNil)) tNil 2 0) (tC (.int 0)))) (tVar 1) (tLst (pairsT scB))) (gName 1))
  (tSeq (tAsg (tFn spPick ac W (tCons (tVar 0) (tCons (tVar 1) tNil)) tNil 2 0) (gSeq K 2 (gCons (gName 2) (gCons (gName 3) gNil))))
  (tSeq (tAsg (tFn spPick ac W (tCons (tVar 0) (tCons (tLst (tCons (tC (.int 0)) (tCons (tC (.int 0)) (tCons (tC (.int 0)) (tCons (tUn (rU fun i => .int (-i)) (tC (.int 4))) (tCons (tUn (rU fun i => .int (-i)) (tC (.int 512))) (tCons (tC (.int 3)) tNil))))))) tNil)) tNil 2 0) (gName 4))
  (tSeq (tAsg (tCB (G.rMin2 K) (tCons (tC (.int 511)) (tCons (tOp (G.rBin K .Add) (tVar 4) (tFn spPick ac W (tCons (tVar 0) (tCons (tLst (tCons (tC (.int 0)) (tCons (tC (.int 1)) (tCons (tC (.int 3)) (tCons (tC (.int 9)) (tCons (tC (.int 15)) (tCons (tC (.int 255)) (tCons (tC (.int 1023)) tNil)))))))) tNil)) tNil 2 0)) tNil))) (gName 5))
  (tRet (tDisp [((tC (.str "tall")), (tVar 2)), ((tC (.str "wide")), (tVar 3)), ((tC (.str "least")), (tVar 4)), ((tC (.str "most")), (tVar 5))]))))))) 
theorem sc_pairs : ∀ p ∈ scA ++ scB, 1 ≤ p.1 ∧ p.1 ≤ 16 ∧ 1 ≤ p.2 ∧ p.2 ≤ 16 := by decide
theorem ok_scope (h : sp_scope vs H Q E) : vs.length = 1 ∧ rdScope K ac W (Dd Q) (L2.start [n0, n1, n2, n3, n4, n5] vs) H := by
  obtain ⟨st, La, Ca, t, rfl, tl, d, q⟩ := h
  refine ⟨rfl, ?_⟩
  rw [show L2.start [n0, n1, n2, n3, n4, n5] [V.ref st] = [some (.ref st), none, none, none, none, none] from rfl]
  unfold rdScope
  refine sq_asg2 (pairs_go scA (Nat.le_of_ble_eq_true rfl) fun l xs H1 nl s1 lx el hx => ?_)
  refine sq_asg2 ?_
  have d1 := drw_same d s1
  have ml : l ≠ st ∧ l ≠ La ∧ l ≠ Ca := drw_ne d nl
  simp only [tIf, tTest, tOp, tFn, tCons, tVar, tC, tNil, List.getElem?_cons_zero, List.getElem?_cons_succ, List.set_cons_zero, List.set_cons_succ, Option.some.injEq, exists_eq_left']
  refine ⟨rfl, rfl, st, La, Ca, 6, t, rfl, by decide, by decide, by omega, d1, fun r H2 r0 r1 d2 f2 => gt_int ⟨_, rfl, ?_⟩⟩
  have go : ∀ l2 xs2 H3, l2 ≠ La → Drw st La Ca H3 (t + 1) → Dr st La H H3 → 0 < xs2.length → xs2.length ≤ 100 → H3 l2 = some (.lst xs2) → (∀ x ∈ xs2, ∃ p ∈ scA ++ scB, ∃ a, x = .ref a ∧ H3 a = some (.tup [.int p.1, .int p.2])) →
      (tSeq (tAsg (tFn spPick ac W (tCons (tVar 0) (tCons (tVar 1) tNil)) tNil 2 0) (gSeq K 2 (gCons (gName 2) (gCons (gName 3) gNil))))
  (tSeq (tAsg (tFn spPick ac W (tCons (tVar 0) (tCons (tLst (tCons (tC (.int 0)) (tCons (tC (.int 0)) (tCons (tC (.int 0)) (tCons (tUn (rU fun i => .int (-i)) (tC (.int 4))) (tCons (tUn (rU fun i => .int (-i)) (tC (.int 512))) (tCons (tC (.int 3)) tNil))))))) tNil)) tNil 2 0) (gName 4))
  (tSeq (tAsg (tCB (G.rMin2 K) (tCons (tC (.int 511)) (tCons (tOp (G.rBin K .Add) (tVar 4) (tFn spPick ac W (tCons (tVar 0) (tCons (tLst (tCons (tC (.int 0)) (tCons (tC (.int 1)) (tCons (tC (.int 3)) (tCons (tC (.int 9)) (tCons (tC (.int 15)) (tCons (tC (.int 255)) (tCons (tC (.int 1023)) tNil)))))))) tNil)) tNil 2 0)) tNil))) (gName 5))
  (tRet (tDisp [((tC (.str "tall")), (tVar 2)), ((tC (.str "wide")), (tVar 3)), ((tC (.str "least")), (tVar 4)), ((tC (.str "most")), (tVar 5))]))))) (Dd Q) [some (.ref st), some (.ref l2), none, none, none, none] H3 := by
    intro l2 xs2 H3 m2 d3 f3 z0 z1 e3 hx3
    simp only [tSeq, tWhile, tAnd, tOr, tNot, tTest, tTru, tOp, tUn, tVar, tC, tLst, tTup, tNil, tAsg, tBM, tBM0, tCons, gSub, tIfS, tCB, gName, tRet, tRetN, tNext, tIf, tFn, tDrop, tRaise0, tAndT, tOrT, tNotT, tChain, tAug, tPar, tPar3, for_go, lc_go, iRng1, iRng2, iSeq, tSl, tPart, tNoPart, tRaiseA, tAttr, List.getElem?_cons_zero, List.getElem?_cons_succ, List.set_cons_zero, List.set_cons_succ, Option.some.injEq, exists_eq_left']
    refine ⟨rfl, rfl, st, La, Ca, _, l2, xs2, rfl, by omega, d3, m2, e3, z0, by omega, fun x H4 hx4 d4 f4 => ?_⟩
    obtain ⟨p, mp, a, rfl, ea⟩ := hx3 x hx4
    obtain ⟨p1, p2, p3, p4⟩ := sc_pairs p mp
    refine .inl ⟨a, _, rfl, .inl (.inl (d3.keepT f4.n ea)), rfl, _, _, rfl, _, _, rfl, rfl, ?_⟩
    try simp only [tSeq, tWhile, tAnd, tOr, tNot, tTest, tTru, tOp, tUn, tVar, tC, tLst, tTup, tNil, tAsg, tBM, tBM0, tCons, gSub, tIfS, tCB, gName, tRet, tRetN, tNext, tIf, tFn, tDrop, tRaise0, tAndT, tOrT, tNotT, tChain, tAug, tPar, tPar3, for_go, lc_go, iRng1, iRng2, iSeq, tSl, tPart, tNoPart, tRaiseA, tAttr, List.getElem?_cons_zero, List.getElem?_cons_succ, List.set_cons_zero, List.set_cons_succ, Option.some.injEq, exists_eq_left']
    refine ⟨4, rfl, 512, rfl, small rfl, fun q1 hq1 => ⟨rfl, rfl, pick_new d4 (by omega) hq1 (Nat.le_of_ble_eq_true rfl) (Nat.le_of_ble_eq_true rfl) fun y H5 hy d5 f5 => ?_⟩⟩
    obtain ⟨lo, rfl, lo0, lo1⟩ : ∃ lo, y = V.int lo ∧ -512 ≤ lo ∧ lo ≤ 3 := by
      simp only [List.mem_cons, List.not_mem_nil, or_false] at hy
      rcases hy with rfl | rfl | rfl | rfl | rfl | rfl <;> exact ⟨_, rfl, by omega, by omega⟩
    refine ⟨small rfl, fun q2 hq2 => ⟨rfl, rfl, pick_new d5 (by omega) hq2 (Nat.le_of_ble_eq_true rfl) (Nat.le_of_ble_eq_true rfl) fun y H6 hy2 d6 f6 => ?_⟩⟩
    obtain ⟨sp, rfl, sp0⟩ : ∃ sp, y = V.int sp ∧ 0 ≤ sp := by
      simp only [List.mem_cons, List.not_mem_nil, or_false] at hy2
      rcases hy2 with rfl | rfl | rfl | rfl | rfl | rfl | rfl <;> exact ⟨_, rfl, by omega⟩
    refine G.add_int (min_int ?_)
    intro pp hpp
    show tPairs _ _ _ _
    simp only [tPairs, tSeq, tWhile, tAnd, tOr, tNot, tTest, tTru, tOp, tUn, tVar, tC, tLst, tTup, tNil, tAsg, tBM, tBM0, tCons, gSub, tIfS, tCB, gName, tRet, tRetN, tNext, tIf, tFn, tDrop, tRaise0, tAndT, tOrT, tNotT, tChain, tAug, tPar, tPar3, for_go, lc_go, iRng1, iRng2, iSeq, tSl, tPart, tNoPart, tRaiseA, tAttr, List.getElem?_cons_zero, List.getElem?_cons_succ, List.set_cons_zero, List.set_cons_succ, Option.some.injEq, exists_eq_left']
    refine ⟨upd_same, [(kS "tall", .int p.1), (kS "wide", .int p.2), (kS "least", .int lo), (kS "most", .int _)], rfl, Nat.le_of_ble_eq_true rfl, ?_⟩
    rw [upd_upd]
    have f7 := ((f3.trans f4).trans f5).trans f6
    have n7 : H pp = none := by
      cases z : H pp with
      | none => rfl
      | some o =>
        have m := drw_ne d6 hpp
        rw [f7 _ _ z m.1 m.2.1] at hpp
        cases hpp
    refine q pp _ p.1 p.2 lo _ n7 ⟨upd_same, (drw_ne d6 hpp).1, p1, p2, p3, p4, lo0, ?_, ?_⟩ ((d6.new hpp).mono (by omega)) (f7.new hpp)
    · split <;> omega
    · split <;> omega
  by_cases c : 0 < r
  · rw [if_pos (decide_eq_true c)]
    have ek := f2 _ _ el ml.1 ml.2.1
    refine go l xs H2 ml.2.1 d2 ((same_dr s1).trans f2) (by rw [lx]; exact Nat.le_of_ble_eq_true rfl) (by rw [lx]; exact Nat.le_of_ble_eq_true rfl) ek fun x hx2 => ?_
    obtain ⟨p, mp, a, e1, e2⟩ := hx x hx2
    exact ⟨p, List.mem_append.mpr (.inl mp), a, e1, d1.keepT f2.n e2⟩
  · rw [if_neg (by rw [decide_eq_true_eq]; exact c)]
    refine pairs_go scB (Nat.le_of_ble_eq_true rfl) fun l2 xs2 H3 nl2 s3 lx2 el2 hx2 => ?_
    refine go l2 xs2 H3 (drw_ne d2 nl2).2.1 (drw_same d2 s3) (((same_dr s1).trans f2).trans (same_dr s3)) (by rw [lx2]; exact Nat.le_of_ble_eq_true rfl) (by rw [lx2]; exact Nat.le_of_ble_eq_true rfl) el2 fun x hx3 => ?_
    obtain ⟨p, mp, a, e1, e2⟩ := hx2 x hx3
    exact ⟨p, List.mem_append.mpr (.inr mp), a, e1, e2⟩
def rdForm (K : PySem.W.Frag) (ac : L2.St → Hp → Acts) (W : WX) : TS := (tRet (tFn (S_Shape K) ac W (tCons (tOp (G.rSub2 K) (tVar 0) (tC (.str "tall"))) (tCons (tOp (G.rSub2 K) (tVar 0) (tC (.str "wide"))) (tCons (tOp (G.rSub2 K) (tVar 0) (tC (.str "least"))) (tCons (tOp (G.rSub2 K) (tVar 0) (tC (.str "most"))) tNil)))) tNil 4 0))
theorem ok_form (h : sp_form K vs H Q E) : vs.length = 1 ∧ rdForm K ac W (Dd Q) (L2.start [n0] vs) H := by
  obtain ⟨st, p, hh, w, lo, hi, rfl, s, q⟩ := h
  refine ⟨rfl, ?_⟩
  rw [show L2.start [n0] [V.ref p] = [some (.ref p)] from rfl]
  unfold rdForm
  simp only [tSeq, tWhile, tAnd, tOr, tNot, tTest, tTru, tOp, tUn, tVar, tC, tLst, tTup, tNil, tAsg, tBM, tBM0, tCons, gSub, tIfS, tCB, gName, tRet, tRetN, tNext, tIf, tFn, tDrop, tRaise0, tAndT, tOrT, tNotT, tChain, tAug, tPar, tPar3, for_go, lc_go, iRng1, iRng2, iSeq, tSl, tPart, tNoPart, tRaiseA, tAttr, List.getElem?_cons_zero, List.getElem?_cons_succ, List.set_cons_zero, List.set_cons_succ, Option.some.injEq, exists_eq_left']
  refine sc_tall s (sc_wide s (sc_least s (sc_most s ⟨rfl, rfl, fun x dx hx hdx nx => ?_⟩)))
  obtain ⟨e, _, b1, b2, b3, b4, b5, b6, b7⟩ := s
  refine ⟨x, dx, .int hh, .int w, .int lo, .int hi, rfl, upd_same, trivial, trivial, trivial, trivial, fun c => ?_, fun _ c => ?_, fun _ _ c => ?_, fun lo' _ _ el _ _ => ⟨fun c => ?_, fun h' w' hi' e1 e2 e3 _ _ => ⟨rfl, ?_⟩⟩⟩
  · rw [btw_of b1 b2] at c; cases c
  · rw [btw_of b3 b4] at c; cases c
  · rw [btw_of b5 (by omega)] at c; cases c
  · cases el; rw [btw_of b6 b7] at c; cases c
  · cases el; cases e1; cases e2; cases e3
    refine q x _ hx ⟨⟨dx, .non, upd_same⟩, b1, b2, b3, b4, b5, b6, b7⟩ fun b o eb => ?_
    rw [upd_upd, upd_ne (ne_of_none eb hx), upd_ne (ne_of_none eb hdx)]
    exact eb
def rdWithin (K : PySem.W.Frag) : TS := (tRet (tCB (G.rMin2 K) (tCons (tCB (G.rMax2 K) (tCons (tVar 1) (tCons (tOp (G.rSub2 K) (tVar 0) (tC (.str "least"))) tNil))) (tCons (tOp (G.rSub2 K) (tVar 0) (tC (.str "most"))) tNil))))
theorem ok_within (h : sp_within vs H Q E) : vs.length = 2 ∧ rdWithin K (Dd Q) (L2.start [n0, n1] vs) H := by
  obtain ⟨st, p, hh, w, lo, hi, i, rfl, s, q⟩ := h
  refine ⟨rfl, ?_⟩
  rw [show L2.start [n0, n1] [V.ref p, .int i] = [some (.ref p), some (.int i)] from rfl]
  unfold rdWithin
  simp only [tSeq, tWhile, tAnd, tOr, tNot, tTest, tTru, tOp, tUn, tVar, tC, tLst, tTup, tNil, tAsg, tBM, tBM0, tCons, gSub, tIfS, tCB, gName, tRet, tRetN, tNext, tIf, tFn, tDrop, tRaise0, tAndT, tOrT, tNotT, tChain, tAug, tPar, tPar3, for_go, lc_go, iRng1, iRng2, iSeq, tSl, tPart, tNoPart, tRaiseA, tAttr, List.getElem?_cons_zero, List.getElem?_cons_succ, List.set_cons_zero, List.set_cons_succ, Option.some.injEq, exists_eq_left']
  exact sc_least s (show G.rMax2 K [.int i, .int lo] H _ from sc_most s (min_int (K := K) q))
def rdGrain (K : PySem.W.Frag) (ac : L2.St → Hp → Acts) (W : WX) : TS := (tRet (tOp (G.rBin K .Add) (tOp (G.rSub2 K) (tVar 1) (tC (.str "least"))) (tFn spDraw ac W (tCons (tVar 0) (tCons (tOp (G.rBin K .Add) (tOp (G.rBin K .Sub) (tOp (G.rSub2 K) (tVar 1) (tC (.str "most"))) (tOp (G.rSub2 K) (tVar 1) (tC (.str "least")))) (tC (.int 1))) tNil)) tNil 2 0)))
theorem ok_grain (h : sp_grain vs H Q E) : vs.length = 2 ∧ rdGrain K ac W (Dd Q) (L2.start [n0, n1] vs) H := by
  obtain ⟨st, La, Ca, p, t, hh, w, lo, hi, rfl, tl, d, s, q⟩ := h
  refine ⟨rfl, ?_⟩
  rw [show L2.start [n0, n1] [V.ref st, .ref p] = [some (.ref st), some (.ref p)] from rfl]
  unfold rdGrain
  simp only [tSeq, tWhile, tAnd, tOr, tNot, tTest, tTru, tOp, tUn, tVar, tC, tLst, tTup, tNil, tAsg, tBM, tBM0, tCons, gSub, tIfS, tCB, gName, tRet, tRetN, tNext, tIf, tFn, tDrop, tRaise0, tAndT, tOrT, tNotT, tChain, tAug, tPar, tPar3, for_go, lc_go, iRng1, iRng2, iSeq, tSl, tPart, tNoPart, tRaiseA, tAttr, List.getElem?_cons_zero, List.getElem?_cons_succ, List.set_cons_zero, List.set_cons_succ, Option.some.injEq, exists_eq_left']
  obtain ⟨e, _, b1, b2, b3, b4, b5, b6, b7⟩ := id s
  exact sc_least s (sc_most s (sc_least s (G.sub_int (K := K) (G.add_int (K := K) ⟨rfl, rfl, st, La, Ca, _, t, rfl, by omega, by omega, by omega, d, fun r H' r0 r1 d' f' => G.add_int (K := K) (q _ H' (by omega) (by omega) d' f')⟩))))
end
end Pk

set_option Elab.async false
set_option linter.all false
set_option maxRecDepth 100000
set_option maxHeartbeats 8000000
namespace Pk
open PySem PySem.Spec PyProof.Rows L2 LamX G
/-! ### lambdas that are kept in lists -/
def LmV (Γ : Gam) (scope : Scope) (body : Expr) (H : Hp) (f : Addr) : Prop := ∃ (o : Obj) (c' : Addr), H f = some (frzO o) ∧ LamObj Γ.qual Γ.cells o body scope c' ∧ H c' = some (CodeO c' (Γ.qual ++ "<lambda>"))
section
variable {st La Ca : Addr} {K : PySem.W.Frag} {H0 H H1 : Hp} {t u : Int} {Γ : Gam} {sc scope : Scope} {body : Expr} {σ : L2.St} {Q : VK} {W : WX} {f : Addr} {n : Nat}
theorem LmV.keep (h : LmV Γ scope body H f) (d : Drw st La Ca H t) (m : DrN st La H H1) : LmV Γ scope body H1 f := by
  obtain ⟨o, c', h1, h2, h3⟩ := h
  obtain ⟨l, v, z⟩ := d.full
  obtain ⟨ys, z2⟩ := d.la
  exact ⟨o, c', m f _ h1 (fun e => by rw [e, z] at h1; cases h1) (fun e => by rw [e, z2] at h1; cases h1) (fun _ e => by cases e), h2, d.keepX m h3⟩
theorem lam_new (R : Rf Γ.T st La Ca H0 H t) (go : ∀ f H', Rf Γ.T st La Ca H0 H' t → DrN st La H H' → LmV Γ scope body H' f → Q (.ref f) H') : tLamV Γ.qual Γ.cells Γ.T body scope σ H Q :=
  ⟨R.T, fun f c' o H1 hE hT nf hL hc => go f _ ((R.lam hE hT).new nf) ((ext_n hE).new nf) ⟨o, c', upd_same, hL, keep_new hc nf⟩⟩
theorem caught_var {i : Nat} {lm : WX → TE} (hP : Γ.P.isSome = true) (L : lamSB sc scope = true) (hq : ∀ W', wE K n Γ.low scope W' body = lm W') (σi : σ[i]? = some (some (.ref f))) (hv : LmV Γ scope body H f)
    (h : lm (fun cls d _ H' => ErrK K Q (WE W σ) cls d H') σ H fun _ H' => Q .non H') : tFn (spCaught K) (actsAt Γ sc fun s W b => wE K n Γ.low s W b) W (tCons (tVar i) tNil) tNil 1 0 σ H Q := by
  obtain ⟨o, c', h1, h2, h3⟩ := hv
  refine ⟨_, σi, rfl, rfl, f, fun E H' Q' => H' c' = some (CodeO c' (Γ.qual ++ "<lambda>")) ∧ wE K n Γ.low scope (fun cls d _ H'' => E cls d H'') body σ H' Q', rfl, ?_, h3, ?_⟩
  · unfold actsAt
    cases e : Γ.P with
    | none => rw [e] at hP; cases hP
    | some p => exact .inr ⟨o, body, scope, c', hP, L, h1, h2, rfl⟩
  · rw [hq]
    exact h
/-- each of a row of lambdas is refused with the class C -/
theorem refuse_loop {C : Str} {T : List (Addr × Str)} {l : Addr} {xs : List V} {ix : Nat} {ac : L2.St → Hp → Acts} {D : Ends} {σ0 : L2.St} (c : Ck K C) (R : Rf T st La Ca H0 H t) (hl : H l = some (.lst xs)) (n1 : l ≠ st) (n2 : l ≠ La) (h0 : ∃ o, σ0 = σ0.set ix o)
    (each : ∀ x ∈ xs, ∀ (H' : Hp) (Q2 : VK), Rf T st La Ca H H' t → (∀ a H3, Rf T st La Ca H H3 t → H3 a = some (ExT (bad K C) none a) → Q2 (.ref a) H3) → tFn (spCaught K) ac W (tCons (tVar ix) tNil) tNil 1 0 (σ0.set ix (some x)) H' Q2)
    (he : ∀ o H', Rf T st La Ca H0 H' t → DrN st La H H' → D.nx (σ0.set ix o) H') :
    ForGo (Itl K l) (gName ix) (tIfS (tNot (tTru K (tCB (G.rIsX K) (tCons (tFn (spCaught K) ac W (tCons (tVar ix) tNil) tNil 1 0) (tCons (tC (.ref (He.ga K C))) tNil))))) (tRet (tC (.bl false))) tNext) D σ0 H := by
  refine go_lst xs (fun i σ H' => Rf T st La Ca H H' t ∧ ∃ o, σ = σ0.set ix o) ⟨R.fresh, h0⟩ (fun i σ H' h => .inl (.inl (drn_lst h.1.n n1 n2 hl))) ?_ ?_
  · rintro i x σ H' hx ⟨r, o, rfl⟩
    rw [List.set_set]
    simp only [tIfS, tNot, tTru, tCB, tCons, tC, tNil, tNext]
    refine each x (List.mem_of_getElem? hx) H' _ r fun a H3 r3 x3 => isx_err c x3 c.one ⟨_, rfl, ?_⟩
    rw [if_neg (by simp)]
    exact ⟨r3, _, rfl⟩
  · rintro σ H' ⟨r, o, rfl⟩
    exact he o H' (R.trans r) r.n
end
theorem sq_asgG {H : Hp} {e : TE} {g : TG} {rest : TS} {D : Ends} {σ : L2.St} (h : e σ H fun v H' => g v σ H' fun σ' H'' => rest D σ' H'') : tSeq (tAsg e g) rest D σ H := h
theorem sq_for {H : Hp} {wi : TI} {g : TG} {tb rest : TS} {D : Ends} {σ : L2.St} (h : wi σ H fun J H1 => ForGo J g tb { D with nx := rest D } σ H1) : tSeq (tFor wi g tb) rest D σ H := h
theorem sq_drop {H : Hp} {e : TE} {rest : TS} {D : Ends} {σ : L2.St} (h : e σ H fun _ H' => rest D σ H') : tSeq (tDrop e) rest D σ H := h
theorem if_go {H : Hp} {c : L2.TT} {a : TS} {D : Ends} {σ : L2.St} (h : c σ H fun b H' => if b = true then a D σ H' else D.nx σ H') : tIfS c a tNext D σ H := h
theorem sq_asg {H : Hp} {e : TE} {i : Nat} {rest : TS} {D : Ends} {σ : L2.St} (h : e σ H fun v H' => rest D (σ.set i (some v)) H') : tSeq (tAsg e (gName i)) rest D σ H := h
theorem sq_if {H : Hp} {c : L2.TT} {a rest : TS} {D : Ends} {σ : L2.St} (h : c σ H fun b H' => if b = true then a { D with nx := rest D } σ H' else rest D σ H') : tSeq (tIfS c a tNext) rest D σ H := h
theorem not_tru {K : PySem.W.Frag} {H : Hp} {e : TE} {σ : L2.St} {k : Bool → Hp → Prop} (h : e σ H fun x H' => ∃ b, TruV K x H' b ∧ k (!b) H') : tNot (tTru K e) σ H k := h
end Pk

set_option Elab.async false
set_option linter.all false
set_option maxRecDepth 100000
set_option maxHeartbeats 8000000
namespace K00
open PySem PySem.Spec PyProof.Rows L2 LamX G Pk
/-! ### the classes -/
theorem nm_a : ∀ D ∈ Ga, D ∈ NM := fun D h => List.mem_append_left _ h
theorem nm_b : ∀ D ∈ Gb, D ∈ NM := fun D h => List.mem_append_right _ (List.mem_append_left _ h)
theorem nm_c : ∀ D ∈ Gc, D ∈ NM := fun D h => List.mem_append_right _ (List.mem_append_right _ (List.mem_append_left _ h))
theorem nm_d : ∀ D ∈ Gd, D ∈ NM := fun D h => List.mem_append_right _ (List.mem_append_right _ (List.mem_append_right _ (List.mem_append_left _ h)))
theorem nm_e : ∀ D ∈ Ge, D ∈ NM := fun D h => List.mem_append_right _ (List.mem_append_right _ (List.mem_append_right _ (List.mem_append_right _ h)))
theorem nm_p : ∀ D ∈ Pa ++ (Pb ++ Pc), D ∈ NM := by decide +kernel
theorem nm_i : ∀ p ∈ NI, p.1 ∈ NM := by decide +kernel
/-- what the program's classes are -/
structure Fc (K : PySem.W.Frag) : Prop where
  ex : ∀ D ∈ NM, ExcC K (He.ga K D)
  re : ∀ D ∈ NM, PySem.W.kitOne K (.ref (He.ga K D)) (.ref (He.ga K "ReelError")) = some true
  ve : ∀ D ∈ NM, PySem.W.kitOne K (.ref (He.ga K D)) (.type "ValueError") = some true
  one : ∀ D ∈ NM, ∀ C ∈ NM, PySem.W.kitOne K (.ref (He.ga K D)) (.ref (He.ga K C)) = some (decide (D = C))
  xf : ∀ p ∈ NI, L2.XfC K (He.ga K p.1) ∧ PySem.W.findIn K (.ref (He.ga K p.1)) p.2 = some none
/-- an error of the class D, kept -/
def EA (K : PySem.W.Frag) (H : Hp) (a : Addr) (D : Str) : Prop := ∃ d, H a = some (ExT (.ref (He.ga K D)) d a) ∧ ∀ dd, d = some dd → ∃ fs, H dd = some (.xd fs)
section
variable {K : PySem.W.Frag} {H H1 : Hp} {a f p q : Addr} {D C : Str} {Q : VK}
theorem EA.same (e : EA K H a D) (s : Same H H1) : EA K H1 a D := by
  obtain ⟨d, h, g⟩ := e
  exact ⟨d, s _ _ h, fun dd z => by
    obtain ⟨fs, y⟩ := g dd z
    exact ⟨fs, s _ _ y⟩⟩
theorem EA.put {xs : List V} {o : HO} (e : EA K H a D) (h : H f = some (.lst xs)) : EA K (upd H f o) a D := by
  obtain ⟨d, y, g⟩ := e
  refine ⟨d, ?_, fun dd z => ?_⟩
  · rw [upd_ne (fun z => by rw [z, h] at y; cases y)]
    exact y
  · obtain ⟨fs, w⟩ := g dd z
    refine ⟨fs, ?_⟩
    rw [upd_ne (fun z => by rw [z, h] at w; cases w)]
    exact w
theorem isx_ea (F : Fc K) (e : EA K H a D) (hD : D ∈ NM) (hC : C ∈ NM) (q : Q (.bl (decide (D = C))) H) : G.rIsX K [.ref a, .ref (He.ga K C)] H Q := by
  obtain ⟨d, h, g⟩ := e
  exact .inr (.inr ⟨a, _, d, _, _, _, rfl, h, g, F.ex D hD, .own _, F.one D hD C hC, q⟩)
theorem isx_re (F : Fc K) (e : EA K H a D) (hD : D ∈ NM) (q : Q (.bl true) H) : G.rIsX K [.ref a, .ref (He.ga K "ReelError")] H Q := by
  obtain ⟨d, h, g⟩ := e
  exact .inr (.inr ⟨a, _, d, _, _, _, rfl, h, g, F.ex D hD, .own _, F.re D hD, q⟩)
theorem isx_ve (F : Fc K) (e : EA K H a D) (hD : D ∈ NM) (q : Q (.bl true) H) : G.rIsX K [.ref a, .ty "ValueError"] H Q := by
  obtain ⟨d, h, g⟩ := e
  exact .inr (.inr ⟨a, _, d, _, _, _, rfl, h, g, F.ex D hD, .ty _, F.ve D hD, q⟩)
theorem same_put {H0 : Hp} {o : HO} (s : Same H0 H) (n : H0 f = none) : Same H0 (upd H f o) := fun b u h => by
  rw [upd_ne (ne_of_none h n)]
  exact s b u h
theorem len_sl {n : Nat} (h : n ≤ 1000) : n < sizeLine := by
  rw [sizeLine_eq]
  omega
/-- a comprehension that keeps some texts of a list -/
theorem lc_filtS {a : Addr} (zs : List Str) {ix : Nat} {tt : L2.TT} {σ : L2.St} (p : Str → Bool) (hl : SqL K H a (zs.map V.str)) (hz : zs.length ≤ 1000000) (hix : ix < σ.length)
    (ht : ∀ z H' k, Same H H' → z ∈ zs → k (p z) H' → tt ((wipe σ [ix]).set ix (some (.str z))) H' k) (q : ∀ D, H D = none → Q (.ref D) (upd H D (.lst ((zs.filter p).map V.str)))) : LcGo (Itl K a) (gName ix) tt (tVar ix) [ix] σ Q H := by
  refine lc_list (zs.map V.str) (fun D i acc H' => H D = none ∧ acc = ((zs.take i).filter p).map V.str ∧ H' = upd H D (.lst acc)) (fun D hD => ⟨hD, by simp, rfl⟩) (fun D i acc H' h => by rw [h.2.2]; exact sql_same hl (same_new (Same.refl H) h.1)) ?_ ?_
  · rintro D i acc H' x hx hA hz2 ⟨hD, rfl, rfl⟩
    rw [List.getElem?_map] at hx
    obtain ⟨z, hz3, rfl⟩ := Option.map_eq_some_iff.mp hx
    have hi : i < zs.length := (List.getElem?_eq_some_iff.mp hz3).1
    have et : (zs.take (i + 1)).filter p = (zs.take i).filter p ++ (if p z = true then [z] else []) := by
      rw [List.take_succ, hz3, List.filter_append]
      show _ ++ List.filter p [z] = _
      rw [List.filter_cons, List.filter_nil]
    refine ht z _ _ (same_new (Same.refl H) hD) (List.mem_of_getElem? hz3) ?_
    by_cases c : p z = true
    · rw [if_pos c]
      refine ⟨V.str z, ?_, Lp.put hA hz2 (by omega) ⟨hD, ?_, ?_⟩⟩
      · show ((σ.set ix none).set ix (some (V.str z)))[ix]? = _
        rw [List.getElem?_set_self (by rw [List.length_set]; exact hix)]
      · rw [et, if_pos c, List.map_append]
        rfl
      · rw [upd_upd]
    · rw [if_neg c]
      refine Lp.skip hA hz2 ⟨hD, ?_, rfl⟩
      rw [et, if_neg c, List.append_nil]
  · rintro D acc H' hl2 hA ⟨hD, rfl, rfl⟩
    rw [List.length_map, List.take_length]
    exact q D hD
end
/-! ### the kinds of an error -/
def mk (D C : Str) : Str := if D = C then C else ""
def nz (C : Str) : Bool := !decide (C = "")
def kd (D : Str) (cs : List Str) : List Str := (cs.map (mk D)).filter nz
theorem kd_all : ∀ D ∈ NM, kd D Ga ++ kd D Gb ++ kd D Gc ++ kd D Gd ++ kd D Ge = [D] := by decide +kernel
theorem kd_len {D : Str} {cs : List Str} : (kd D cs).length ≤ cs.length := Nat.le_trans (List.length_filter_le _ _) (by rw [List.length_map]; exact Nat.le_refl _)
def sp_kinds (K : PySem.W.Frag) (cs : List Str) : SpD := fun vs H Q _ => ∃ a D, vs = [.ref a] ∧ D ∈ NM ∧ EA K H a D ∧ ∀ l H', H l = none → H' l = some (.lst ((kd D cs).map V.str)) → Same H H' → Q (.ref l) H'
def stK (K : PySem.W.Frag) (C : Str) : TS := tDrop (tBM K "list" rAppend (tVar 1) (tCons (tIf (tTru K (tCB (G.rIsX K) (tCons (tVar 0) (tCons (tC (.ref (He.ga K C))) tNil)))) (tC (.str C)) (tC (.str ""))) tNil))
def kT (K : PySem.W.Frag) : List Str → TS
  | [] => tRet (tLc (iSeq K (tVar 1)) (gName 2) (tTest (tOp (G.rCmp K .NotEq) (tVar 2) (tC (.str "")))) (tVar 2) [2])
  | C :: cs => tSeq (stK K C) (kT K cs)
def rdK (K : PySem.W.Frag) (cs : List Str) : TS := tSeq (tAsg (tLst tNil) (gName 1)) (kT K cs)
section
variable {K : PySem.W.Frag} {H0 H : Hp} {a f : Addr} {D : Str} {Q : VK} {vs : List V} {E : XK} {n0 n1 n2 : Str}
theorem kT_go (F : Fc K) (hD : D ∈ NM) (e0 : EA K H0 a D) (hf : H0 f = none) : ∀ (cs xs : List Str), (∀ C ∈ cs, C ∈ NM) → xs.length + cs.length ≤ 100 →
    (∀ l H', H0 l = none → H' l = some (.lst (((xs ++ cs.map (mk D)).filter nz).map V.str)) → Same H0 H' → Q (.ref l) H') → kT K cs (Dd Q) [some (.ref a), some (.ref f), none] (upd H0 f (.lst (xs.map V.str)))
  | [], xs, _, hl, q => by
    unfold kT
    simp only [tSeq, tWhile, tAnd, tOr, tNot, tTest, tTru, tOp, tUn, tVar, tC, tLst, tTup, tNil, tAsg, tBM, tBM0, tCons, gSub, tIfS, tCB, gName, tRet, tRetN, tNext, tIf, tFn, tDrop, tRaise0, tAndT, tOrT, tNotT, tChain, tAug, tPar, tPar3, for_go, lc_go, iRng1, iRng2, iSeq, tSl, tPart, tNoPart, tRaiseA, tAttr, List.getElem?_cons_zero, List.getElem?_cons_succ, List.set_cons_zero, List.set_cons_succ, Option.some.injEq, exists_eq_left']
    refine .inl ⟨_, rfl, f, rfl, ⟨_, .inl (.inl upd_same)⟩, lc_filtS xs nz (.inl (.inl upd_same)) (by simp only [List.length_nil] at hl; omega) (Nat.le_of_ble_eq_true rfl) (fun z H' k s hz hk => ?_) fun l hl2 => ?_⟩
    · show tTest (tOp (G.rCmp K .NotEq) (tVar 2) (tC (V.str ""))) [some (.ref a), some (.ref f), some (.str z)] H' k
      simp only [tSeq, tWhile, tAnd, tOr, tNot, tTest, tTru, tOp, tUn, tVar, tC, tLst, tTup, tNil, tAsg, tBM, tBM0, tCons, gSub, tIfS, tCB, gName, tRet, tRetN, tNext, tIf, tFn, tDrop, tRaise0, tAndT, tOrT, tNotT, tChain, tAug, tPar, tPar3, for_go, lc_go, iRng1, iRng2, iSeq, tSl, tPart, tNoPart, tRaiseA, tAttr, List.getElem?_cons_zero, List.getElem?_cons_succ, List.set_cons_zero, List.set_cons_succ, Option.some.injEq, exists_eq_left']
      exact ne_str ⟨_, rfl, hk⟩
    · have n0 : H0 l = none := by
        cases z : H0 l with
        | none => rfl
        | some o =>
          rw [upd_ne (ne_of_none z hf), z] at hl2
          cases hl2
      exact q l _ n0 (by rw [upd_same, List.map_nil, List.append_nil]) (same_put (same_put (Same.refl H0) hf) n0)
  | C :: cs, xs, hc, hl, q => by
    unfold kT
    refine sq_drop ?_
    rw [List.length_cons] at hl
    simp only [tSeq, tWhile, tAnd, tOr, tNot, tTest, tTru, tOp, tUn, tVar, tC, tLst, tTup, tNil, tAsg, tBM, tBM0, tCons, gSub, tIfS, tCB, gName, tRet, tRetN, tNext, tIf, tFn, tDrop, tRaise0, tAndT, tOrT, tNotT, tChain, tAug, tPar, tPar3, for_go, lc_go, iRng1, iRng2, iSeq, tSl, tPart, tNoPart, tRaiseA, tAttr, List.getElem?_cons_zero, List.getElem?_cons_succ, List.set_cons_zero, List.set_cons_succ, Option.some.injEq, exists_eq_left']
    refine ⟨.inl ⟨rfl, _, .inl (.inl upd_same)⟩, isx_ea F (e0.same (same_put (Same.refl H0) hf)) hD (hc C List.mem_cons_self) ⟨_, rfl, ?_⟩⟩
    have go : ∀ y, y = mk D C → rAppend (V.ref f) [V.str y] (upd H0 f (.lst (xs.map V.str))) fun _ H' => kT K cs (Dd Q) [some (.ref a), some (.ref f), none] H' := by
      rintro y rfl
      refine ⟨f, _, _, rfl, rfl, upd_same, len_sl (by rw [List.length_map]; omega), ?_⟩
      rw [upd_upd, show (xs.map V.str) ++ [V.str (mk D C)] = (xs ++ [mk D C]).map V.str by rw [List.map_append]; rfl]
      refine kT_go F hD e0 hf cs (xs ++ [mk D C]) (fun C' h => hc C' (List.mem_cons_of_mem _ h)) (by rw [List.length_append, List.length_singleton]; omega) fun l H' h1 h2 h3 => q l H' h1 ?_ h3
      rw [h2, List.append_assoc]
      rfl
    by_cases c : D = C
    · rw [if_pos (decide_eq_true c)]
      exact go C (by unfold mk; rw [if_pos c])
    · rw [if_neg (by simpa using c)]
      exact go "" (by unfold mk; rw [if_neg c])
theorem ok_kinds (F : Fc K) (cs : List Str) (hc : ∀ C ∈ cs, C ∈ NM) (hl : cs.length ≤ 100) (h : sp_kinds K cs vs H Q E) : vs.length = 1 ∧ rdK K cs (Dd Q) (L2.start [n0, n1, n2] vs) H := by
  obtain ⟨a, D, rfl, hD, e, q⟩ := h
  refine ⟨rfl, ?_⟩
  rw [show L2.start [n0, n1, n2] [V.ref a] = [some (.ref a), none, none] from rfl]
  unfold rdK
  refine sq_asg ?_
  simp only [tSeq, tWhile, tAnd, tOr, tNot, tTest, tTru, tOp, tUn, tVar, tC, tLst, tTup, tNil, tAsg, tBM, tBM0, tCons, gSub, tIfS, tCB, gName, tRet, tRetN, tNext, tIf, tFn, tDrop, tRaise0, tAndT, tOrT, tNotT, tChain, tAug, tPar, tPar3, for_go, lc_go, iRng1, iRng2, iSeq, tSl, tPart, tNoPart, tRaiseA, tAttr, List.getElem?_cons_zero, List.getElem?_cons_succ, List.set_cons_zero, List.set_cons_succ, Option.some.injEq, exists_eq_left']
  refine ⟨small rfl, fun f hf => ?_⟩
  exact kT_go F hD e hf cs [] hc (by simpa using hl) q
end
/-! ### errors of a text -/
def PrA (K : PySem.W.Frag) (H : Hp) (p : Addr) : Prop := ∃ D a, D ∈ NM ∧ H p = some (.tup [.str D, .ref a]) ∧ EA K H a D
def TrA (K : PySem.W.Frag) (v : V) (H : Hp) (p : Addr) : Prop := ∃ D a, D ∈ NM ∧ H p = some (.tup [.str D, .ref a, v]) ∧ EA K H a D
theorem PrA.same {K : PySem.W.Frag} {H H1 : Hp} {p : Addr} (h : PrA K H p) (s : Same H H1) : PrA K H1 p := by
  obtain ⟨D, a, m, e, g⟩ := h
  exact ⟨D, a, m, s _ _ e, g.same s⟩
theorem TrA.same {K : PySem.W.Frag} {v : V} {H H1 : Hp} {p : Addr} (h : TrA K v H p) (s : Same H H1) : TrA K v H1 p := by
  obtain ⟨D, a, m, e, g⟩ := h
  exact ⟨D, a, m, s _ _ e, g.same s⟩
theorem PrA.put {K : PySem.W.Frag} {H : Hp} {p f : Addr} {xs : List V} {o : HO} (h : PrA K H p) (hf : H f = some (.lst xs)) : PrA K (upd H f o) p := by
  obtain ⟨D, a, m, e, g⟩ := h
  exact ⟨D, a, m, by rw [upd_ne (fun z => by rw [z, hf] at e; cases e)]; exact e, g.put hf⟩
theorem TrA.put {K : PySem.W.Frag} {v : V} {H : Hp} {p f : Addr} {xs : List V} {o : HO} (h : TrA K v H p) (hf : H f = some (.lst xs)) : TrA K v (upd H f o) p := by
  obtain ⟨D, a, m, e, g⟩ := h
  exact ⟨D, a, m, by rw [upd_ne (fun z => by rw [z, hf] at e; cases e)]; exact e, g.put hf⟩
def sp_plain (K : PySem.W.Frag) : SpD := fun vs H Q _ => ∃ x, vs = [.str x] ∧ ∀ (l : Addr) (ps : List Addr) (H' : Hp), H l = none → H' l = some (.lst (ps.map V.ref)) → ps.length ≤ 20 → (∀ p ∈ ps, PrA K H' p) → Same H H' → Q (.ref l) H'
def sp_held (K : PySem.W.Frag) : SpD := fun vs H Q _ => ∃ v, vs = [v] ∧ ∀ (l : Addr) (ps : List Addr) (H' : Hp), H l = none → H' l = some (.lst (ps.map V.ref)) → ps.length ≤ 16 → (∀ p ∈ ps, TrA K v H' p) → Same H H' → Q (.ref l) H'
def stP (K : PySem.W.Frag) (ac : L2.St → Hp → Acts) (W : WX) (C : Str) : TS := tDrop (tBM K "list" rAppend (tVar 1) (tCons (tTup (tCons (tC (.str C)) (tCons (tFn (sExc (He.ga K C)) ac W (tCons (tVar 0) tNil) tNil 1 0) tNil))) tNil))
def pT (K : PySem.W.Frag) (ac : L2.St → Hp → Acts) (W : WX) : List Str → TS
  | [] => tRet (tVar 1)
  | C :: cs => tSeq (stP K ac W C) (pT K ac W cs)
def rdP (K : PySem.W.Frag) (ac : L2.St → Hp → Acts) (W : WX) (cs : List Str) : TS := tSeq (tAsg (tLst tNil) (gName 1)) (pT K ac W cs)
def stH (K : PySem.W.Frag) (ac : L2.St → Hp → Acts) (W : WX) (kw : Bool) (C fld : Str) : TS := tAsg (if kw = true then tFn (sIni (He.ga K C) fld) ac W tNil (tCons (tVar 0) tNil) 0 1 else tFn (sIni (He.ga K C) fld) ac W (tCons (tVar 0) tNil) tNil 1 0) (gName 2)
def stH2 (K : PySem.W.Frag) (C fld : Str) : TS := tDrop (tBM K "list" rAppend (tVar 1) (tCons (tTup (tCons (tC (.str C)) (tCons (tVar 2) (tCons (tAttr K fld (tVar 2)) tNil)))) tNil))
def hT (K : PySem.W.Frag) (ac : L2.St → Hp → Acts) (W : WX) (kw : Bool) : List (Str × Str) → TS
  | [] => tRet (tVar 1)
  | p :: cs => tSeq (stH K ac W kw p.1 p.2) (tSeq (stH2 K p.1 p.2) (hT K ac W kw cs))
def rdH (K : PySem.W.Frag) (ac : L2.St → Hp → Acts) (W : WX) (kw : Bool) (cs : List (Str × Str)) : TS := tSeq (tAsg (tLst tNil) (gName 1)) (hT K ac W kw cs)
section
variable {K : PySem.W.Frag} {H0 : Hp} {f : Addr} {Q : VK} {vs : List V} {E : XK} {n0 n1 n2 : Str} {ac : L2.St → Hp → Acts} {W : WX} {x : Str} {v : V}
theorem pT_go (hf : H0 f = none) : ∀ (cs : List Str) (ps : List Addr) (H : Hp), (∀ C ∈ cs, C ∈ NM) → ps.length + cs.length ≤ 20 → H f = some (.lst (ps.map V.ref)) → Same H0 H → (∀ p ∈ ps, PrA K H p) →
    (∀ (ps' : List Addr) (H' : Hp), H' f = some (.lst (ps'.map V.ref)) → ps'.length ≤ 20 → (∀ p ∈ ps', PrA K H' p) → Same H0 H' → Q (.ref f) H') → pT K ac W cs (Dd Q) [some (.str x), some (.ref f)] H
  | [], ps, H, _, hl, ef, s, hp, q => by
    unfold pT
    simp only [tSeq, tWhile, tAnd, tOr, tNot, tTest, tTru, tOp, tUn, tVar, tC, tLst, tTup, tNil, tAsg, tBM, tBM0, tCons, gSub, tIfS, tCB, gName, tRet, tRetN, tNext, tIf, tFn, tDrop, tRaise0, tAndT, tOrT, tNotT, tChain, tAug, tPar, tPar3, for_go, lc_go, iRng1, iRng2, iSeq, tSl, tPart, tNoPart, tRaiseA, tAttr, List.getElem?_cons_zero, List.getElem?_cons_succ, List.set_cons_zero, List.set_cons_succ, Option.some.injEq, exists_eq_left']
    exact q ps H ef (by simpa using hl) hp s
  | C :: cs, ps, H, hc, hl, ef, s, hp, q => by
    unfold pT
    refine sq_drop ?_
    rw [List.length_cons] at hl
    simp only [tSeq, tWhile, tAnd, tOr, tNot, tTest, tTru, tOp, tUn, tVar, tC, tLst, tTup, tNil, tAsg, tBM, tBM0, tCons, gSub, tIfS, tCB, gName, tRet, tRetN, tNext, tIf, tFn, tDrop, tRaise0, tAndT, tOrT, tNotT, tChain, tAug, tPar, tPar3, for_go, lc_go, iRng1, iRng2, iSeq, tSl, tPart, tNoPart, tRaiseA, tAttr, List.getElem?_cons_zero, List.getElem?_cons_succ, List.set_cons_zero, List.set_cons_succ, Option.some.injEq, exists_eq_left']
    refine ⟨.inl ⟨rfl, _, .inl (.inl ef)⟩, rfl, rfl, ⟨_, rfl⟩, fun a ha => ⟨small rfl, fun p hp2 => ?_⟩⟩
    have nf : f ≠ a := ne_of_none ef ha
    have s1 : Same H (upd H a (ExT (.ref (He.ga K C)) none a)) := same_new (Same.refl H) ha
    have s2 : Same H (upd (upd H a (ExT (.ref (He.ga K C)) none a)) p (.tup [.str C, .ref a])) := same_newS s1 hp2
    have ef2 := s2 _ _ ef
    refine ⟨f, _, _, rfl, rfl, ef2, len_sl (by rw [List.length_map]; omega), ?_⟩
    rw [show ps.map V.ref ++ [V.ref p] = (ps ++ [p]).map V.ref by rw [List.map_append]; rfl]
    have nap : a ≠ p := fun z => by
      rw [← z, upd_same] at hp2
      cases hp2
    refine pT_go hf cs (ps ++ [p]) _ (fun C' h => hc C' (List.mem_cons_of_mem _ h)) (by rw [List.length_append, List.length_singleton]; omega) upd_same (same_put (s.trans s2) hf) (fun p' hp' => ?_) q
    rcases List.mem_append.mp hp' with h | h
    · exact ((hp p' h).same s2).put ef2
    · rw [List.mem_singleton.mp h]
      exact PrA.put ⟨C, a, hc C List.mem_cons_self, upd_same, none, by rw [upd_ne nap, upd_same], (fun dd z => nomatch z)⟩ ef2
theorem ok_plain (cs : List Str) (hc : ∀ C ∈ cs, C ∈ NM) (hl : cs.length ≤ 20) (h : sp_plain K vs H0 Q E) : vs.length = 1 ∧ rdP K ac W cs (Dd Q) (L2.start [n0, n1] vs) H0 := by
  obtain ⟨x, rfl, q⟩ := h
  refine ⟨rfl, ?_⟩
  rw [show L2.start [n0, n1] [V.str x] = [some (.str x), none] from rfl]
  unfold rdP
  refine sq_asg ?_
  simp only [tSeq, tWhile, tAnd, tOr, tNot, tTest, tTru, tOp, tUn, tVar, tC, tLst, tTup, tNil, tAsg, tBM, tBM0, tCons, gSub, tIfS, tCB, gName, tRet, tRetN, tNext, tIf, tFn, tDrop, tRaise0, tAndT, tOrT, tNotT, tChain, tAug, tPar, tPar3, for_go, lc_go, iRng1, iRng2, iSeq, tSl, tPart, tNoPart, tRaiseA, tAttr, List.getElem?_cons_zero, List.getElem?_cons_succ, List.set_cons_zero, List.set_cons_succ, Option.some.injEq, exists_eq_left']
  refine ⟨small rfl, fun f hf => ?_⟩
  exact pT_go hf cs [] _ hc (by simpa using hl) upd_same (same_new (Same.refl H0) hf) (fun p hp => nomatch hp) fun ps' H' h1 h2 h3 h4 => q f ps' H' hf h1 h2 h3 h4
theorem hT_go {kw : Bool} (F : Fc K) (hf : H0 f = none) : ∀ (cs : List (Str × Str)) (ps : List Addr) (H : Hp) (o : Option V), (∀ C ∈ cs, C ∈ NI) → ps.length + cs.length ≤ 16 → H f = some (.lst (ps.map V.ref)) → Same H0 H → (∀ p ∈ ps, TrA K v H p) →
    (∀ (ps' : List Addr) (H' : Hp), H' f = some (.lst (ps'.map V.ref)) → ps'.length ≤ 16 → (∀ p ∈ ps', TrA K v H' p) → Same H0 H' → Q (.ref f) H') → hT K ac W kw cs (Dd Q) [some v, some (.ref f), o] H
  | [], ps, H, o, _, hl, ef, s, hp, q => by
    unfold hT
    simp only [tSeq, tWhile, tAnd, tOr, tNot, tTest, tTru, tOp, tUn, tVar, tC, tLst, tTup, tNil, tAsg, tBM, tBM0, tCons, gSub, tIfS, tCB, gName, tRet, tRetN, tNext, tIf, tFn, tDrop, tRaise0, tAndT, tOrT, tNotT, tChain, tAug, tPar, tPar3, for_go, lc_go, iRng1, iRng2, iSeq, tSl, tPart, tNoPart, tRaiseA, tAttr, List.getElem?_cons_zero, List.getElem?_cons_succ, List.set_cons_zero, List.set_cons_succ, Option.some.injEq, exists_eq_left']
    exact q ps H ef (by simpa using hl) hp s
  | C :: cs, ps, H, o, hc, hl, ef, s, hp, q => by
    unfold hT
    rw [List.length_cons] at hl
    have run : (∀ a d, H a = none → H d = none → d ≠ a → tSeq (stH2 K C.1 C.2) (hT K ac W kw cs) (Dd Q) [some v, some (.ref f), some (.ref a)] (upd (upd H d (.xd [(C.2, v)])) a (ExT (.ref (He.ga K C.1)) (some d) a))) →
        tSeq (stH K ac W kw C.1 C.2) (tSeq (stH2 K C.1 C.2) (hT K ac W kw cs)) (Dd Q) [some v, some (.ref f), o] H := by
      intro g
      refine sq_asg ?_
      cases kw with
      | true =>
        rw [if_pos rfl]
        simp only [tWhile, tAnd, tOr, tNot, tTest, tTru, tOp, tUn, tVar, tC, tLst, tTup, tNil, tBM, tBM0, tCons, gSub, tCB, gName, tIf, tFn, tAndT, tOrT, tNotT, tChain, lc_go, iRng1, iRng2, iSeq, tSl, tPart, tNoPart, tAttr, List.getElem?_cons_zero, List.getElem?_cons_succ, List.set_cons_zero, List.set_cons_succ, Option.some.injEq, exists_eq_left']
        exact ⟨rfl, rfl, v, rfl, g⟩
      | false =>
        rw [if_neg (by decide)]
        simp only [tWhile, tAnd, tOr, tNot, tTest, tTru, tOp, tUn, tVar, tC, tLst, tTup, tNil, tBM, tBM0, tCons, gSub, tCB, gName, tIf, tFn, tAndT, tOrT, tNotT, tChain, lc_go, iRng1, iRng2, iSeq, tSl, tPart, tNoPart, tAttr, List.getElem?_cons_zero, List.getElem?_cons_succ, List.set_cons_zero, List.set_cons_succ, Option.some.injEq, exists_eq_left']
        exact ⟨rfl, rfl, v, rfl, g⟩
    refine run fun a d ha hd nda => ?_
    have s1 : Same H (upd (upd H d (.xd [(C.2, v)])) a (ExT (.ref (He.ga K C.1)) (some d) a)) := same_newS (same_new (Same.refl H) hd) (by rw [upd_ne (Ne.symm nda)]; exact ha)
    obtain ⟨F1, F2⟩ := F.xf C (hc C List.mem_cons_self)
    refine sq_drop ?_
    simp only [tWhile, tAnd, tOr, tNot, tTest, tTru, tOp, tUn, tVar, tC, tLst, tTup, tNil, tBM, tBM0, tCons, gSub, tCB, gName, tIf, tFn, tAndT, tOrT, tNotT, tChain, lc_go, iRng1, iRng2, iSeq, tSl, tPart, tNoPart, tAttr, List.getElem?_cons_zero, List.getElem?_cons_succ, List.set_cons_zero, List.set_cons_succ, Option.some.injEq, exists_eq_left']
    refine ⟨.inl ⟨rfl, _, .inl (.inl (s1 _ _ ef))⟩, .inr ⟨a, _, d, _, v, rfl, upd_same, by rw [upd_ne nda, upd_same], by rw [List.lookup_cons, beq_self_eq_true], F1, F2, small rfl, fun p hp2 => ?_⟩⟩
    have s2 := same_newS (o := .tup [.str C.1, .ref a, v]) s1 hp2
    have ef2 := s2 _ _ ef
    refine ⟨f, _, _, rfl, rfl, ef2, len_sl (by rw [List.length_map]; omega), ?_⟩
    rw [show ps.map V.ref ++ [V.ref p] = (ps ++ [p]).map V.ref by rw [List.map_append]; rfl]
    have nap : a ≠ p := fun z => by
      rw [← z, upd_same] at hp2
      cases hp2
    have ndp : d ≠ p := fun z => by
      rw [← z, upd_ne nda, upd_same] at hp2
      cases hp2
    refine hT_go F hf cs (ps ++ [p]) _ _ (fun C' h => hc C' (List.mem_cons_of_mem _ h)) (by rw [List.length_append, List.length_singleton]; omega) upd_same (same_put (s.trans s2) hf) (fun p' hp' => ?_) q
    rcases List.mem_append.mp hp' with h | h
    · exact ((hp p' h).same s2).put ef2
    · rw [List.mem_singleton.mp h]
      refine TrA.put ⟨C.1, a, nm_i C (hc C List.mem_cons_self), upd_same, some d, by rw [upd_ne nap, upd_same], fun dd z => ?_⟩ ef2
      cases z
      exact ⟨_, by rw [upd_ne ndp, upd_ne nda, upd_same]⟩
theorem ok_held {kw : Bool} (F : Fc K) (h : sp_held K vs H0 Q E) : vs.length = 1 ∧ rdH K ac W kw NI (Dd Q) (L2.start [n0, n1, n2] vs) H0 := by
  obtain ⟨v, rfl, q⟩ := h
  refine ⟨rfl, ?_⟩
  rw [show L2.start [n0, n1, n2] [v] = [some v, none, none] from rfl]
  unfold rdH
  refine sq_asg ?_
  simp only [tWhile, tAnd, tOr, tNot, tTest, tTru, tOp, tUn, tVar, tC, tLst, tTup, tNil, tBM, tBM0, tCons, gSub, tCB, gName, tIf, tFn, tAndT, tOrT, tNotT, tChain, lc_go, iRng1, iRng2, iSeq, tSl, tPart, tNoPart, tAttr, List.getElem?_cons_zero, List.getElem?_cons_succ, List.set_cons_zero, List.set_cons_succ, Option.some.injEq, exists_eq_left']
  refine ⟨small rfl, fun f hf => ?_⟩
  exact hT_go F hf NI [] _ none (fun C h => h) (by decide +kernel) upd_same (same_new (Same.refl H0) hf) (fun p hp => nomatch hp) fun ps' H' h1 h2 h3 h4 => q f ps' H' hf h1 h2 h3 h4
end
end K00

set_option Elab.async false
set_option linter.all false
set_option maxRecDepth 100000
set_option maxHeartbeats 8000000
namespace K00
open PySem PySem.Spec PyProof.Rows L2 LamX G Pk
/-! ### the text -/
theorem sc__law_begun : FnScope ["_law_script", "_law_cells_here", "_law_cell", "_law_large"] ["_law_script"] (defScope st__law_begun) := ⟨rfl, rfl, rfl, by decide +kernel, rfl, by decide +kernel, by decide +kernel⟩
theorem sc__law_draw : FnScope ["_law_state", "_law_size_here", "_law_found", "_law_turn", "_law_cell", "_law_mixed"] ["_law_state", "_law_size_here"] (defScope st__law_draw) := ⟨rfl, rfl, rfl, by decide +kernel, rfl, by decide +kernel, by decide +kernel⟩
theorem sc__law_pick : FnScope ["_law_state", "_law_several"] ["_law_state", "_law_several"] (defScope st__law_pick) := ⟨rfl, rfl, rfl, by decide +kernel, rfl, by decide +kernel, by decide +kernel⟩
theorem sc__law_odd : FnScope ["_law_state"] ["_law_state"] (defScope st__law_odd) := ⟨rfl, rfl, rfl, by decide +kernel, rfl, by decide +kernel, by decide +kernel⟩
theorem sc__law_kinds_a : FnScope ["_law_caught", "_law_found", "_law_each"] ["_law_caught"] (defScope st__law_kinds_a) := ⟨rfl, rfl, rfl, by decide +kernel, rfl, by decide +kernel, by decide +kernel⟩
theorem sc__law_kinds_b : FnScope ["_law_caught", "_law_found", "_law_each"] ["_law_caught"] (defScope st__law_kinds_b) := ⟨rfl, rfl, rfl, by decide +kernel, rfl, by decide +kernel, by decide +kernel⟩
theorem sc__law_kinds_c : FnScope ["_law_caught", "_law_found", "_law_each"] ["_law_caught"] (defScope st__law_kinds_c) := ⟨rfl, rfl, rfl, by decide +kernel, rfl, by decide +kernel, by decide +kernel⟩
theorem sc__law_kinds_d : FnScope ["_law_caught", "_law_found", "_law_each"] ["_law_caught"] (defScope st__law_kinds_d) := ⟨rfl, rfl, rfl, by decide +kernel, rfl, by decide +kernel, by decide +kernel⟩
theorem sc__law_kinds_e : FnScope ["_law_caught", "_law_found", "_law_each"] ["_law_caught"] (defScope st__law_kinds_e) := ⟨rfl, rfl, rfl, by decide +kernel, rfl, by decide +kernel, by decide +kernel⟩
theorem sc__law_plain_a : FnScope ["_law_text_here", "_law_found"] ["_law_text_here"] (defScope st__law_plain_a) := ⟨rfl, rfl, rfl, by decide +kernel, rfl, by decide +kernel, by decide +kernel⟩
theorem sc__law_plain_b : FnScope ["_law_text_here", "_law_found"] ["_law_text_here"] (defScope st__law_plain_b) := ⟨rfl, rfl, rfl, by decide +kernel, rfl, by decide +kernel, by decide +kernel⟩
theorem sc__law_plain_c : FnScope ["_law_text_here", "_law_found"] ["_law_text_here"] (defScope st__law_plain_c) := ⟨rfl, rfl, rfl, by decide +kernel, rfl, by decide +kernel, by decide +kernel⟩
theorem sc__law_held : FnScope ["_law_item", "_law_found", "_law_caught"] ["_law_item"] (defScope st__law_held) := ⟨rfl, rfl, rfl, by decide +kernel, rfl, by decide +kernel, by decide +kernel⟩
theorem sc__law_held_by_name : FnScope ["_law_item", "_law_found", "_law_caught"] ["_law_item"] (defScope st__law_held_by_name) := ⟨rfl, rfl, rfl, by decide +kernel, rfl, by decide +kernel, by decide +kernel⟩
theorem sc__law_is_alone : FnScope ["_law_caught", "_law_name_here", "_law_kinds_here"] ["_law_caught", "_law_name_here"] (defScope st__law_is_alone) := ⟨rfl, rfl, rfl, by decide +kernel, rfl, by decide +kernel, by decide +kernel⟩
theorem sc_law : FnScope ["_law_script", "_law_state", "_law_turn", "_law_text_here", "_law_spot", "_law_item", "_law_some", "_law_name_here", "_law_caught", "_law_told"] ["_law_script"] (defScope st_law) := ⟨rfl, rfl, rfl, by decide +kernel, rfl, by decide +kernel, by decide +kernel⟩
def mdOf (K : PySem.W.Frag) : Md := { free := ["ValueError", "abs", "int", "isinstance", "len", "min", "range", "repr"], gv := gvN.map fun x => (x, .ref (He.ga K x)), exc := [] }
abbrev S_BadAt (K : PySem.W.Frag) : SpG := sExc (He.ga K "BadAt")
abbrev S_BadBits (K : PySem.W.Frag) : SpG := sExc (He.ga K "BadBits")
abbrev S_BadBlock (K : PySem.W.Frag) : SpG := sExc (He.ga K "BadBlock")
abbrev S_BadBook (K : PySem.W.Frag) : SpG := sExc (He.ga K "BadBook")
abbrev S_BadBounds (K : PySem.W.Frag) : SpG := sExc (He.ga K "BadBounds")
abbrev S_BadChosen (K : PySem.W.Frag) : SpG := sExc (He.ga K "BadChosen")
abbrev S_BadCosts (K : PySem.W.Frag) : SpG := sIni (He.ga K "BadCosts") "at"
abbrev S_BadCosts_k0_at (K : PySem.W.Frag) : SpG := sIni (He.ga K "BadCosts") "at"
abbrev S_BadCut (K : PySem.W.Frag) : SpG := sExc (He.ga K "BadCut")
abbrev S_BadDelay (K : PySem.W.Frag) : SpG := sExc (He.ga K "BadDelay")
abbrev S_BadError (K : PySem.W.Frag) : SpG := sExc (He.ga K "BadError")
abbrev S_BadField (K : PySem.W.Frag) : SpG := sExc (He.ga K "BadField")
abbrev S_BadFrame (K : PySem.W.Frag) : SpG := sExc (He.ga K "BadFrame")
abbrev S_BadFrames (K : PySem.W.Frag) : SpG := sIni (He.ga K "BadFrames") "at"
abbrev S_BadFrames_k0_at (K : PySem.W.Frag) : SpG := sIni (He.ga K "BadFrames") "at"
abbrev S_BadGains (K : PySem.W.Frag) : SpG := sExc (He.ga K "BadGains")
abbrev S_BadGrade (K : PySem.W.Frag) : SpG := sExc (He.ga K "BadGrade")
abbrev S_BadGuess (K : PySem.W.Frag) : SpG := sExc (He.ga K "BadGuess")
abbrev S_BadHead (K : PySem.W.Frag) : SpG := sIni (He.ga K "BadHead") "part"
abbrev S_BadHead_k0_part (K : PySem.W.Frag) : SpG := sIni (He.ga K "BadHead") "part"
abbrev S_BadHold (K : PySem.W.Frag) : SpG := sExc (He.ga K "BadHold")
abbrev S_BadHurt (K : PySem.W.Frag) : SpG := sExc (He.ga K "BadHurt")
abbrev S_BadIndex (K : PySem.W.Frag) : SpG := sExc (He.ga K "BadIndex")
abbrev S_BadItem (K : PySem.W.Frag) : SpG := sIni (He.ga K "BadItem") "at"
abbrev S_BadItem_k0_at (K : PySem.W.Frag) : SpG := sIni (He.ga K "BadItem") "at"
abbrev S_BadJobs (K : PySem.W.Frag) : SpG := sIni (He.ga K "BadJobs") "at"
abbrev S_BadJobs_k0_at (K : PySem.W.Frag) : SpG := sIni (He.ga K "BadJobs") "at"
abbrev S_BadKind (K : PySem.W.Frag) : SpG := sExc (He.ga K "BadKind")
abbrev S_BadLeast (K : PySem.W.Frag) : SpG := sExc (He.ga K "BadLeast")
abbrev S_BadLoss (K : PySem.W.Frag) : SpG := sExc (He.ga K "BadLoss")
abbrev S_BadLosses (K : PySem.W.Frag) : SpG := sExc (He.ga K "BadLosses")
abbrev S_BadLot (K : PySem.W.Frag) : SpG := sExc (He.ga K "BadLot")
abbrev S_BadLots (K : PySem.W.Frag) : SpG := sExc (He.ga K "BadLots")
abbrev S_BadMany (K : PySem.W.Frag) : SpG := sExc (He.ga K "BadMany")
abbrev S_BadMemory (K : PySem.W.Frag) : SpG := sExc (He.ga K "BadMemory")
abbrev S_BadMode (K : PySem.W.Frag) : SpG := sIni (He.ga K "BadMode") "mode"
abbrev S_BadMode_k0_mode (K : PySem.W.Frag) : SpG := sIni (He.ga K "BadMode") "mode"
abbrev S_BadMost (K : PySem.W.Frag) : SpG := sExc (He.ga K "BadMost")
abbrev S_BadNumber (K : PySem.W.Frag) : SpG := sExc (He.ga K "BadNumber")
abbrev S_BadOrder (K : PySem.W.Frag) : SpG := sExc (He.ga K "BadOrder")
abbrev S_BadOther (K : PySem.W.Frag) : SpG := sExc (He.ga K "BadOther")
abbrev S_BadPlace (K : PySem.W.Frag) : SpG := sExc (He.ga K "BadPlace")
abbrev S_BadPlan (K : PySem.W.Frag) : SpG := sExc (He.ga K "BadPlan")
abbrev S_BadPlane (K : PySem.W.Frag) : SpG := sExc (He.ga K "BadPlane")
abbrev S_BadPlanes (K : PySem.W.Frag) : SpG := sExc (He.ga K "BadPlanes")
abbrev S_BadPrice (K : PySem.W.Frag) : SpG := sExc (He.ga K "BadPrice")
abbrev S_BadRate (K : PySem.W.Frag) : SpG := sExc (He.ga K "BadRate")
abbrev S_BadReach (K : PySem.W.Frag) : SpG := sExc (He.ga K "BadReach")
abbrev S_BadRectangle (K : PySem.W.Frag) : SpG := sExc (He.ga K "BadRectangle")
abbrev S_BadReel (K : PySem.W.Frag) : SpG := sIni (He.ga K "BadReel") "part"
abbrev S_BadReel_k0_part (K : PySem.W.Frag) : SpG := sIni (He.ga K "BadReel") "part"
abbrev S_BadReferences (K : PySem.W.Frag) : SpG := sExc (He.ga K "BadReferences")
abbrev S_BadRenewals (K : PySem.W.Frag) : SpG := sIni (He.ga K "BadRenewals") "at"
abbrev S_BadRenewals_k0_at (K : PySem.W.Frag) : SpG := sIni (He.ga K "BadRenewals") "at"
abbrev S_BadRoom (K : PySem.W.Frag) : SpG := sExc (He.ga K "BadRoom")
abbrev S_BadRow (K : PySem.W.Frag) : SpG := sExc (He.ga K "BadRow")
abbrev S_BadSet (K : PySem.W.Frag) : SpG := sExc (He.ga K "BadSet")
abbrev S_BadShape (K : PySem.W.Frag) : SpG := sIni (He.ga K "BadShape") "part"
abbrev S_BadShape_k0_part (K : PySem.W.Frag) : SpG := sIni (He.ga K "BadShape") "part"
abbrev S_BadShares (K : PySem.W.Frag) : SpG := sExc (He.ga K "BadShares")
abbrev S_BadShift (K : PySem.W.Frag) : SpG := sExc (He.ga K "BadShift")
abbrev S_BadShows (K : PySem.W.Frag) : SpG := sExc (He.ga K "BadShows")
abbrev S_BadSize (K : PySem.W.Frag) : SpG := sExc (He.ga K "BadSize")
abbrev S_BadSizes (K : PySem.W.Frag) : SpG := sExc (He.ga K "BadSizes")
abbrev S_BadSpans (K : PySem.W.Frag) : SpG := sExc (He.ga K "BadSpans")
abbrev S_BadSpot (K : PySem.W.Frag) : SpG := sExc (He.ga K "BadSpot")
abbrev S_BadState (K : PySem.W.Frag) : SpG := sExc (He.ga K "BadState")
abbrev S_BadStock (K : PySem.W.Frag) : SpG := sIni (He.ga K "BadStock") "part"
abbrev S_BadStock_k0_part (K : PySem.W.Frag) : SpG := sIni (He.ga K "BadStock") "part"
abbrev S_BadStore (K : PySem.W.Frag) : SpG := sIni (He.ga K "BadStore") "at"
abbrev S_BadStore_k0_at (K : PySem.W.Frag) : SpG := sIni (He.ga K "BadStore") "at"
abbrev S_BadStream (K : PySem.W.Frag) : SpG := sIni (He.ga K "BadStream") "at"
abbrev S_BadStream_k0_at (K : PySem.W.Frag) : SpG := sIni (He.ga K "BadStream") "at"
abbrev S_BadStretch (K : PySem.W.Frag) : SpG := sIni (He.ga K "BadStretch") "at"
abbrev S_BadStretch_k0_at (K : PySem.W.Frag) : SpG := sIni (He.ga K "BadStretch") "at"
abbrev S_BadTelling (K : PySem.W.Frag) : SpG := sExc (He.ga K "BadTelling")
abbrev S_BadUpper (K : PySem.W.Frag) : SpG := sExc (He.ga K "BadUpper")
abbrev S_BadVector (K : PySem.W.Frag) : SpG := sExc (He.ga K "BadVector")
abbrev S_BadWait (K : PySem.W.Frag) : SpG := sExc (He.ga K "BadWait")
abbrev S_BadWanted (K : PySem.W.Frag) : SpG := sExc (He.ga K "BadWanted")
abbrev S_BadWay (K : PySem.W.Frag) : SpG := sExc (He.ga K "BadWay")
abbrev S_BadWeb (K : PySem.W.Frag) : SpG := sIni (He.ga K "BadWeb") "at"
abbrev S_BadWeb_k0_at (K : PySem.W.Frag) : SpG := sIni (He.ga K "BadWeb") "at"
abbrev S_BadWish (K : PySem.W.Frag) : SpG := sExc (He.ga K "BadWish")
abbrev S_BadWorths (K : PySem.W.Frag) : SpG := sExc (He.ga K "BadWorths")
abbrev S_NotNow (K : PySem.W.Frag) : SpG := sIni (He.ga K "NotNow") "word"
abbrev S_NotNow_k0_word (K : PySem.W.Frag) : SpG := sIni (He.ga K "NotNow") "word"
abbrev S_NothingDone (K : PySem.W.Frag) : SpG := sExc (He.ga K "NothingDone")
abbrev S_OtherKinds (K : PySem.W.Frag) : SpG := sExc (He.ga K "OtherKinds")
abbrev S_OtherShapes (K : PySem.W.Frag) : SpG := sExc (He.ga K "OtherShapes")
abbrev S_TooMany (K : PySem.W.Frag) : SpG := sIni (He.ga K "TooMany") "most"
abbrev S_TooMany_k0_most (K : PySem.W.Frag) : SpG := sIni (He.ga K "TooMany") "most"

abbrev TT (_ : PySem.W.Frag) : List (Addr × Str) := []
/-- a value that can be told, at every later heap -/
def Rp (K : PySem.W.Frag) (st La : Addr) (H : Hp) (v : V) : Prop := ∃ t : Str, ∀ (H' : Hp) (Q : VK), Dr st La H H' → Q (.str t) H' → G.rRepr K [v] H' Q
def sp_odd (K : PySem.W.Frag) : SpD := fun vs H Q _ => ∃ (st La Ca : Addr) (t : Int), vs = [.ref st] ∧ t ≤ 2 ^ 39 ∧ Drw st La Ca H t ∧ ∀ v H', Rp K st La H' v → Drw st La Ca H' (t + 1) → Dr st La H H' → Q v H'
def sp_alone (K : PySem.W.Frag) : SpD := fun vs H Q _ => ∃ a D, vs = [.ref a, .str D] ∧ D ∈ NM ∧ EA K H a D ∧ ∀ H', Same H H' → Q (.bl true) H'
def sp_law (K : PySem.W.Frag) : SpD := fun vs H Q _ => ∃ (a : Addr) (zs : List Int), vs = [.ref a] ∧ SqL K H a (zs.map V.int) ∧ zs.length ≤ 1000 ∧ ∀ H', Q (.bl true) H'
abbrev S__law_begun (K : PySem.W.Frag) : SpG := spBegun K
abbrev S__law_draw (_ : PySem.W.Frag) : SpG := spDraw
abbrev S__law_pick (_ : PySem.W.Frag) : SpG := spPick
abbrev S__law_odd (K : PySem.W.Frag) : SpG := sh (sp_odd K) [0]
abbrev S__law_kinds_a (K : PySem.W.Frag) : SpG := sh (sp_kinds K Ga) [0]
abbrev S__law_kinds_b (K : PySem.W.Frag) : SpG := sh (sp_kinds K Gb) [0]
abbrev S__law_kinds_c (K : PySem.W.Frag) : SpG := sh (sp_kinds K Gc) [0]
abbrev S__law_kinds_d (K : PySem.W.Frag) : SpG := sh (sp_kinds K Gd) [0]
abbrev S__law_kinds_e (K : PySem.W.Frag) : SpG := sh (sp_kinds K Ge) [0]
abbrev S__law_plain_a (K : PySem.W.Frag) : SpG := sh (sp_plain K) [0]
abbrev S__law_plain_b (K : PySem.W.Frag) : SpG := sh (sp_plain K) [0]
abbrev S__law_plain_c (K : PySem.W.Frag) : SpG := sh (sp_plain K) [0]
abbrev S__law_held (K : PySem.W.Frag) : SpG := sh (sp_held K) [0]
abbrev S__law_held_by_name (K : PySem.W.Frag) : SpG := sh (sp_held K) [0]
abbrev S__law_is_alone (K : PySem.W.Frag) : SpG := sh (sp_alone K) [0, 1]
abbrev S_law (K : PySem.W.Frag) : SpG := sh (sp_law K) [0]
-- READING _law_begun
abbrev fl__law_begun (K : PySem.W.Frag) : List FnE := []
abbrev act__law_begun (acts : Acts) : Acts := fun g tl => false = true ∧ acts g tl
abbrev gm__law_begun (K : PySem.W.Frag) (cells : List (Str × Addr)) (acts : Acts) (T : List (Addr × Str)) (pt : Option Addr) : Gam := gam (mdOf K) ["_law_script", "_law_cells_here", "_law_cell", "_law_large"] (fl__law_begun K) (act__law_begun acts) ("_law_begun" ++ ".<locals>." : Str) cells T pt
def t__law_begun (K : PySem.W.Frag) (cells : List (Str × Addr)) (acts : Acts) (T : List (Addr × Str)) (pt : Option Addr) (W : WX) : TS :=
  (tSeq (tAsg (tLc (iSeq K (tVar 0)) (gName 2) tYes (tCB G.rAbs1 (tCons (tVar 2) tNil)) [2]) (gName 1))
  (tSeq (tAsg (tLc (iSeq K (tVar 1)) (gName 2) (tTest (tOp (G.rCmp K .GtE) (tVar 2) (tOp (G.rBin K .Pow) (tC (.int 10)) (tC (.int 18))))) (tOp (G.rBin K .Sub) (tVar 2) (tOp (G.rBin K .Pow) (tC (.int 10)) (tC (.int 18)))) [2]) (gName 3))
  (tRet (tDisp [((tC (.str "large")), (tVar 3)), ((tC (.str "cells")), (tVar 1)), ((tC (.str "left")), (tC (.int 0))), ((tC (.str "turn")), (tC (.int 0)))]))))
theorem eq__law_begun (K : PySem.W.Frag) (cells : List (Str × Addr)) (acts : Acts) (T : List (Addr × Str)) (W : WX) : wSL (wS K 40 (gm__law_begun K cells acts T none) (defScope st__law_begun) W) (defBody st__law_begun) = t__law_begun K cells acts T none W := by kernel_rfl
-- READING _law_draw
abbrev fl__law_draw (K : PySem.W.Frag) : List FnE := []
abbrev act__law_draw (acts : Acts) : Acts := fun g tl => false = true ∧ acts g tl
abbrev gm__law_draw (K : PySem.W.Frag) (cells : List (Str × Addr)) (acts : Acts) (T : List (Addr × Str)) (pt : Option Addr) : Gam := gam (mdOf K) ["_law_state", "_law_size_here", "_law_found", "_law_turn", "_law_cell", "_law_mixed"] (fl__law_draw K) (act__law_draw acts) ("_law_draw" ++ ".<locals>." : Str) cells T pt
def t__law_draw (K : PySem.W.Frag) (cells : List (Str × Addr)) (acts : Acts) (T : List (Addr × Str)) (pt : Option Addr) (W : WX) : TS :=
  (tSeq (tWhile (tAnd (tTest (tOp (G.rCmp K .Eq) (tOp (G.rSub2 K) (tVar 0) (tC (.str "left"))) (tC (.int 0)))) (tTest (tOp (G.rCmp K .NotEq) (tOp (G.rSub2 K) (tVar 0) (tC (.str "large"))) (tLst tNil))))
  (tAsg (tBM K "list" rPopAt (tOp (G.rSub2 K) (tVar 0) (tC (.str "large"))) (tCons (tC (.int 0)) tNil)) (gSub (tVar 0) (tC (.str "left")) G.rPut)))
  (tSeq (tIfS (tTest (tOp (G.rCmp K .Gt) (tOp (G.rSub2 K) (tVar 0) (tC (.str "left"))) (tC (.int 0))))
  (tSeq (tAsg (tOp (G.rBin K .Mod) (tCB G.rInt1 (tCons (tOp (G.rSub2 K) (tVar 0) (tC (.str "left"))) tNil)) (tVar 1)) (gName 2))
  (tSeq (tAsg (tOp (G.rBin K .FloorDiv) (tOp (G.rSub2 K) (tVar 0) (tC (.str "left"))) (tVar 1)) (gSub (tVar 0) (tC (.str "left")) G.rPut))
  (tRet (tVar 2))))
  tNext)
  (tSeq (tAsg (tOp (G.rBin K .Add) (tOp (G.rSub2 K) (tVar 0) (tC (.str "turn"))) (tC (.int 1))) (gName 3))
  (tSeq (tAsg (tVar 3) (gSub (tVar 0) (tC (.str "turn")) G.rPut))
  (tSeq (tAsg (tIf (tTest (tOp (G.rCmp K .NotEq) (tOp (G.rSub2 K) (tVar 0) (tC (.str "cells"))) (tLst tNil))) (tOp (G.rSub2 K) (tOp (G.rSub2 K) (tVar 0) (tC (.str "cells"))) (tOp (G.rBin K .Mod) (tCB G.rInt1 (tCons (tVar 3) tNil)) (tCB (G.rLen K) (tCons (tOp (G.rSub2 K) (tVar 0) (tC (.str "cells"))) tNil)))) (tC (.int 0))) (gName 4))
  (tSeq (tAsg (tOp (G.rBin K .Mod) (tCB G.rInt1 (tCons (tOp (G.rBin K .Pow) (tOp (G.rBin K .Add) (tOp (G.rBin K .Add) (tOp (G.rBin K .Mod) (tCB G.rInt1 (tCons (tVar 4) tNil)) (tC (.int 2147483563))) (tOp (G.rBin K .Mult) (tC (.int 40692)) (tVar 3))) (tC (.int 24681))) (tC (.int 3))) tNil)) (tC (.int 2147483629))) (gName 5))
  (tRet (tOp (G.rBin K .Mod) (tCB G.rInt1 (tCons (tOp (G.rBin K .FloorDiv) (tOp (G.rBin K .Mod) (tCB G.rInt1 (tCons (tOp (G.rBin K .Pow) (tOp (G.rBin K .Add) (tVar 5) (tOp (G.rBin K .Mult) (tC (.int 104917)) (tVar 3))) (tC (.int 5))) tNil)) (tC (.int 2147483579))) (tC (.int 29))) tNil)) (tVar 1)))))))))
theorem eq__law_draw (K : PySem.W.Frag) (cells : List (Str × Addr)) (acts : Acts) (T : List (Addr × Str)) (W : WX) : wSL (wS K 40 (gm__law_draw K cells acts T none) (defScope st__law_draw) W) (defBody st__law_draw) = t__law_draw K cells acts T none W := by kernel_rfl
-- READING _law_pick
abbrev fl__law_pick (K : PySem.W.Frag) : List FnE := [⟨"_law_draw", 2, [], 2, S__law_draw K⟩]
abbrev act__law_pick (acts : Acts) : Acts := fun g tl => false = true ∧ acts g tl
abbrev gm__law_pick (K : PySem.W.Frag) (cells : List (Str × Addr)) (acts : Acts) (T : List (Addr × Str)) (pt : Option Addr) : Gam := gam (mdOf K) ["_law_state", "_law_several"] (fl__law_pick K) (act__law_pick acts) ("_law_pick" ++ ".<locals>." : Str) cells T pt
def t__law_pick (K : PySem.W.Frag) (cells : List (Str × Addr)) (acts : Acts) (T : List (Addr × Str)) (pt : Option Addr) (W : WX) : TS :=
  (tRet (tOp (G.rSub2 K) (tVar 1) (tFn (S__law_draw K) (fun _ _ => act__law_pick acts) W (tCons (tVar 0) (tCons (tCB (G.rLen K) (tCons (tVar 1) tNil)) tNil)) tNil 2 0)))
theorem eq__law_pick (K : PySem.W.Frag) (cells : List (Str × Addr)) (acts : Acts) (T : List (Addr × Str)) (W : WX) : wSL (wS K 40 (gm__law_pick K cells acts T none) (defScope st__law_pick) W) (defBody st__law_pick) = t__law_pick K cells acts T none W := by kernel_rfl
-- READING _law_odd
abbrev fl__law_odd (K : PySem.W.Frag) : List FnE := [⟨"_law_pick", 2, [], 3, S__law_pick K⟩]
abbrev act__law_odd (acts : Acts) : Acts := fun g tl => false = true ∧ acts g tl
abbrev gm__law_odd (K : PySem.W.Frag) (cells : List (Str × Addr)) (acts : Acts) (T : List (Addr × Str)) (pt : Option Addr) : Gam := gam (mdOf K) ["_law_state"] (fl__law_odd K) (act__law_odd acts) ("_law_odd" ++ ".<locals>." : Str) cells T pt
def t__law_odd (K : PySem.W.Frag) (cells : List (Str × Addr)) (acts : Acts) (T : List (Addr × Str)) (pt : Option Addr) (W : WX) : TS :=
  (tRet (tFn (S__law_pick K) (fun _ _ => act__law_odd acts) W (tCons (tVar 0) (tCons (tLst (tCons (tC .non) (tCons (tC (.bl true)) (tCons (tC (.bl false)) (tCons (tC (.str "0")) (tCons (tC (.str "")) (tCons (tLst tNil) (tCons tDNewK (tCons (tTup (tCons (tC .non) tNil)) (tCons (tTup (tCons (tC (.str "a")) (tCons (tC (.int 1)) tNil))) (tCons (tLst (tCons (tLst (tCons (tC (.int 0)) tNil)) tNil)) (tCons (tDisp [((tC (.int 0)), (tC (.int 0)))]) (tCons (tTup (tCons (tC (.bl true)) tNil)) tNil))))))))))))) tNil)) tNil 2 0))
theorem eq__law_odd (K : PySem.W.Frag) (cells : List (Str × Addr)) (acts : Acts) (T : List (Addr × Str)) (W : WX) : wSL (wS K 40 (gm__law_odd K cells acts T none) (defScope st__law_odd) W) (defBody st__law_odd) = t__law_odd K cells acts T none W := by kernel_rfl
-- READING _law_kinds_a
abbrev fl__law_kinds_a (K : PySem.W.Frag) : List FnE := []
abbrev act__law_kinds_a (acts : Acts) : Acts := fun g tl => false = true ∧ acts g tl
abbrev gm__law_kinds_a (K : PySem.W.Frag) (cells : List (Str × Addr)) (acts : Acts) (T : List (Addr × Str)) (pt : Option Addr) : Gam := gam (mdOf K) ["_law_caught", "_law_found", "_law_each"] (fl__law_kinds_a K) (act__law_kinds_a acts) ("_law_kinds_a" ++ ".<locals>." : Str) cells T pt
def t__law_kinds_a (K : PySem.W.Frag) (cells : List (Str × Addr)) (acts : Acts) (T : List (Addr × Str)) (pt : Option Addr) (W : WX) : TS :=
  (tSeq (tAsg (tLst tNil) (gName 1))
  (tSeq (tDrop (tBM K "list" rAppend (tVar 1) (tCons (tIf (tTru K (tCB (G.rIsX K) (tCons (tVar 0) (tCons (tC (.ref (He.ga K "BadAt"))) tNil)))) (tC (.str "BadAt")) (tC (.str ""))) tNil)))
  (tSeq (tDrop (tBM K "list" rAppend (tVar 1) (tCons (tIf (tTru K (tCB (G.rIsX K) (tCons (tVar 0) (tCons (tC (.ref (He.ga K "BadBits"))) tNil)))) (tC (.str "BadBits")) (tC (.str ""))) tNil)))
  (tSeq (tDrop (tBM K "list" rAppend (tVar 1) (tCons (tIf (tTru K (tCB (G.rIsX K) (tCons (tVar 0) (tCons (tC (.ref (He.ga K "BadBlock"))) tNil)))) (tC (.str "BadBlock")) (tC (.str ""))) tNil)))
  (tSeq (tDrop (tBM K "list" rAppend (tVar 1) (tCons (tIf (tTru K (tCB (G.rIsX K) (tCons (tVar 0) (tCons (tC (.ref (He.ga K "BadBook"))) tNil)))) (tC (.str "BadBook")) (tC (.str ""))) tNil)))
  (tSeq (tDrop (tBM K "list" rAppend (tVar 1) (tCons (tIf (tTru K (tCB (G.rIsX K) (tCons (tVar 0) (tCons (tC (.ref (He.ga K "BadBounds"))) tNil)))) (tC (.str "BadBounds")) (tC (.str ""))) tNil)))
  (tSeq (tDrop (tBM K "list" rAppend (tVar 1) (tCons (tIf (tTru K (tCB (G.rIsX K) (tCons (tVar 0) (tCons (tC (.ref (He.ga K "BadChosen"))) tNil)))) (tC (.str "BadChosen")) (tC (.str ""))) tNil)))
  (tSeq (tDrop (tBM K "list" rAppend (tVar 1) (tCons (tIf (tTru K (tCB (G.rIsX K) (tCons (tVar 0) (tCons (tC (.ref (He.ga K "BadCosts"))) tNil)))) (tC (.str "BadCosts")) (tC (.str ""))) tNil)))
  (tSeq (tDrop (tBM K "list" rAppend (tVar 1) (tCons (tIf (tTru K (tCB (G.rIsX K) (tCons (tVar 0) (tCons (tC (.ref (He.ga K "BadCut"))) tNil)))) (tC (.str "BadCut")) (tC (.str ""))) tNil)))
  (tSeq (tDrop (tBM K "list" rAppend (tVar 1) (tCons (tIf (tTru K (tCB (G.rIsX K) (tCons (tVar 0) (tCons (tC (.ref (He.ga K "BadDelay"))) tNil)))) (tC (.str "BadDelay")) (tC (.str ""))) tNil)))
  (tSeq (tDrop (tBM K "list" rAppend (tVar 1) (tCons (tIf (tTru K (tCB (G.rIsX K) (tCons (tVar 0) (tCons (tC (.ref (He.ga K "BadError"))) tNil)))) (tC (.str "BadError")) (tC (.str ""))) tNil)))
  (tSeq (tDrop (tBM K "list" rAppend (tVar 1) (tCons (tIf (tTru K (tCB (G.rIsX K) (tCons (tVar 0) (tCons (tC (.ref (He.ga K "BadField"))) tNil)))) (tC (.str "BadField")) (tC (.str ""))) tNil)))
  (tSeq (tDrop (tBM K "list" rAppend (tVar 1) (tCons (tIf (tTru K (tCB (G.rIsX K) (tCons (tVar 0) (tCons (tC (.ref (He.ga K "BadFrame"))) tNil)))) (tC (.str "BadFrame")) (tC (.str ""))) tNil)))
  (tSeq (tDrop (tBM K "list" rAppend (tVar 1) (tCons (tIf (tTru K (tCB (G.rIsX K) (tCons (tVar 0) (tCons (tC (.ref (He.ga K "BadFrames"))) tNil)))) (tC (.str "BadFrames")) (tC (.str ""))) tNil)))
  (tSeq (tDrop (tBM K "list" rAppend (tVar 1) (tCons (tIf (tTru K (tCB (G.rIsX K) (tCons (tVar 0) (tCons (tC (.ref (He.ga K "BadGains"))) tNil)))) (tC (.str "BadGains")) (tC (.str ""))) tNil)))
  (tSeq (tDrop (tBM K "list" rAppend (tVar 1) (tCons (tIf (tTru K (tCB (G.rIsX K) (tCons (tVar 0) (tCons (tC (.ref (He.ga K "BadGrade"))) tNil)))) (tC (.str "BadGrade")) (tC (.str ""))) tNil)))
  (tSeq (tDrop (tBM K "list" rAppend (tVar 1) (tCons (tIf (tTru K (tCB (G.rIsX K) (tCons (tVar 0) (tCons (tC (.ref (He.ga K "BadGuess"))) tNil)))) (tC (.str "BadGuess")) (tC (.str ""))) tNil)))
  (tSeq (tDrop (tBM K "list" rAppend (tVar 1) (tCons (tIf (tTru K (tCB (G.rIsX K) (tCons (tVar 0) (tCons (tC (.ref (He.ga K "BadHead"))) tNil)))) (tC (.str "BadHead")) (tC (.str ""))) tNil)))
  (tSeq (tDrop (tBM K "list" rAppend (tVar 1) (tCons (tIf (tTru K (tCB (G.rIsX K) (tCons (tVar 0) (tCons (tC (.ref (He.ga K "BadHold"))) tNil)))) (tC (.str "BadHold")) (tC (.str ""))) tNil)))
  (tRet (tLc (iSeq K (tVar 1)) (gName 2) (tTest (tOp (G.rCmp K .NotEq) (tVar 2) (tC (.str "")))) (tVar 2) [2])))))))))))))))))))))
theorem eq__law_kinds_a (K : PySem.W.Frag) (cells : List (Str × Addr)) (acts : Acts) (T : List (Addr × Str)) (W : WX) : wSL (wS K 40 (gm__law_kinds_a K cells acts T none) (defScope st__law_kinds_a) W) (defBody st__law_kinds_a) = t__law_kinds_a K cells acts T none W := by kernel_rfl
-- READING _law_kinds_b
abbrev fl__law_kinds_b (K : PySem.W.Frag) : List FnE := []
abbrev act__law_kinds_b (acts : Acts) : Acts := fun g tl => false = true ∧ acts g tl
abbrev gm__law_kinds_b (K : PySem.W.Frag) (cells : List (Str × Addr)) (acts : Acts) (T : List (Addr × Str)) (pt : Option Addr) : Gam := gam (mdOf K) ["_law_caught", "_law_found", "_law_each"] (fl__law_kinds_b K) (act__law_kinds_b acts) ("_law_kinds_b" ++ ".<locals>." : Str) cells T pt
def t__law_kinds_b (K : PySem.W.Frag) (cells : List (Str × Addr)) (acts : Acts) (T : List (Addr × Str)) (pt : Option Addr) (W : WX) : TS :=
  (tSeq (tAsg (tLst tNil) (gName 1))
  (tSeq (tDrop (tBM K "list" rAppend (tVar 1) (tCons (tIf (tTru K (tCB (G.rIsX K) (tCons (tVar 0) (tCons (tC (.ref (He.ga K "BadHurt"))) tNil)))) (tC (.str "BadHurt")) (tC (.str ""))) tNil)))
  (tSeq (tDrop (tBM K "list" rAppend (tVar 1) (tCons (tIf (tTru K (tCB (G.rIsX K) (tCons (tVar 0) (tCons (tC (.ref (He.ga K "BadIndex"))) tNil)))) (tC (.str "BadIndex")) (tC (.str ""))) tNil)))
  (tSeq (tDrop (tBM K "list" rAppend (tVar 1) (tCons (tIf (tTru K (tCB (G.rIsX K) (tCons (tVar 0) (tCons (tC (.ref (He.ga K "BadItem"))) tNil)))) (tC (.str "BadItem")) (tC (.str ""))) tNil)))
  (tSeq (tDrop (tBM K "list" rAppend (tVar 1) (tCons (tIf (tTru K (tCB (G.rIsX K) (tCons (tVar 0) (tCons (tC (.ref (He.ga K "BadJobs"))) tNil)))) (tC (.str "BadJobs")) (tC (.str ""))) tNil)))
  (tSeq (tDrop (tBM K "list" rAppend (tVar 1) (tCons (tIf (tTru K (tCB (G.rIsX K) (tCons (tVar 0) (tCons (tC (.ref (He.ga K "BadKind"))) tNil)))) (tC (.str "BadKind")) (tC (.str ""))) tNil)))
  (tSeq (tDrop (tBM K "list" rAppend (tVar 1) (tCons (tIf (tTru K (tCB (G.rIsX K) (tCons (tVar 0) (tCons (tC (.ref (He.ga K "BadLeast"))) tNil)))) (tC (.str "BadLeast")) (tC (.str ""))) tNil)))
  (tSeq (tDrop (tBM K "list" rAppend (tVar 1) (tCons (tIf (tTru K (tCB (G.rIsX K) (tCons (tVar 0) (tCons (tC (.ref (He.ga K "BadLoss"))) tNil)))) (tC (.str "BadLoss")) (tC (.str ""))) tNil)))
  (tSeq (tDrop (tBM K "list" rAppend (tVar 1) (tCons (tIf (tTru K (tCB (G.rIsX K) (tCons (tVar 0) (tCons (tC (.ref (He.ga K "BadLosses"))) tNil)))) (tC (.str "BadLosses")) (tC (.str ""))) tNil)))
  (tSeq (tDrop (tBM K "list" rAppend (tVar 1) (tCons (tIf (tTru K (tCB (G.rIsX K) (tCons (tVar 0) (tCons (tC (.ref (He.ga K "BadLot"))) tNil)))) (tC (.str "BadLot")) (tC (.str ""))) tNil)))
  (tSeq (tDrop (tBM K "list" rAppend (tVar 1) (tCons (tIf (tTru K (tCB (G.rIsX K) (tCons (tVar 0) (tCons (tC (.ref (He.ga K "BadLots"))) tNil)))) (tC (.str "BadLots")) (tC (.str ""))) tNil)))
  (tSeq (tDrop (tBM K "list" rAppend (tVar 1) (tCons (tIf (tTru K (tCB (G.rIsX K) (tCons (tVar 0) (tCons (tC (.ref (He.ga K "BadMany"))) tNil)))) (tC (.str "BadMany")) (tC (.str ""))) tNil)))
  (tSeq (tDrop (tBM K "list" rAppend (tVar 1) (tCons (tIf (tTru K (tCB (G.rIsX K) (tCons (tVar 0) (tCons (tC (.ref (He.ga K "BadMemory"))) tNil)))) (tC (.str "BadMemory")) (tC (.str ""))) tNil)))
  (tSeq (tDrop (tBM K "list" rAppend (tVar 1) (tCons (tIf (tTru K (tCB (G.rIsX K) (tCons (tVar 0) (tCons (tC (.ref (He.ga K "BadMode"))) tNil)))) (tC (.str "BadMode")) (tC (.str ""))) tNil)))
  (tSeq (tDrop (tBM K "list" rAppend (tVar 1) (tCons (tIf (tTru K (tCB (G.rIsX K) (tCons (tVar 0) (tCons (tC (.ref (He.ga K "BadMost"))) tNil)))) (tC (.str "BadMost")) (tC (.str ""))) tNil)))
  (tSeq (tDrop (tBM K "list" rAppend (tVar 1) (tCons (tIf (tTru K (tCB (G.rIsX K) (tCons (tVar 0) (tCons (tC (.ref (He.ga K "BadNumber"))) tNil)))) (tC (.str "BadNumber")) (tC (.str ""))) tNil)))
  (tSeq (tDrop (tBM K "list" rAppend (tVar 1) (tCons (tIf (tTru K (tCB (G.rIsX K) (tCons (tVar 0) (tCons (tC (.ref (He.ga K "BadOrder"))) tNil)))) (tC (.str "BadOrder")) (tC (.str ""))) tNil)))
  (tSeq (tDrop (tBM K "list" rAppend (tVar 1) (tCons (tIf (tTru K (tCB (G.rIsX K) (tCons (tVar 0) (tCons (tC (.ref (He.ga K "BadOther"))) tNil)))) (tC (.str "BadOther")) (tC (.str ""))) tNil)))
  (tSeq (tDrop (tBM K "list" rAppend (tVar 1) (tCons (tIf (tTru K (tCB (G.rIsX K) (tCons (tVar 0) (tCons (tC (.ref (He.ga K "BadPlace"))) tNil)))) (tC (.str "BadPlace")) (tC (.str ""))) tNil)))
  (tRet (tLc (iSeq K (tVar 1)) (gName 2) (tTest (tOp (G.rCmp K .NotEq) (tVar 2) (tC (.str "")))) (tVar 2) [2])))))))))))))))))))))
theorem eq__law_kinds_b (K : PySem.W.Frag) (cells : List (Str × Addr)) (acts : Acts) (T : List (Addr × Str)) (W : WX) : wSL (wS K 40 (gm__law_kinds_b K cells acts T none) (defScope st__law_kinds_b) W) (defBody st__law_kinds_b) = t__law_kinds_b K cells acts T none W := by kernel_rfl
-- READING _law_kinds_c
abbrev fl__law_kinds_c (K : PySem.W.Frag) : List FnE := []
abbrev act__law_kinds_c (acts : Acts) : Acts := fun g tl => false = true ∧ acts g tl
abbrev gm__law_kinds_c (K : PySem.W.Frag) (cells : List (Str × Addr)) (acts : Acts) (T : List (Addr × Str)) (pt : Option Addr) : Gam := gam (mdOf K) ["_law_caught", "_law_found", "_law_each"] (fl__law_kinds_c K) (act__law_kinds_c acts) ("_law_kinds_c" ++ ".<locals>." : Str) cells T pt
def t__law_kinds_c (K : PySem.W.Frag) (cells : List (Str × Addr)) (acts : Acts) (T : List (Addr × Str)) (pt : Option Addr) (W : WX) : TS :=
  (tSeq (tAsg (tLst tNil) (gName 1))
  (tSeq (tDrop (tBM K "list" rAppend (tVar 1) (tCons (tIf (tTru K (tCB (G.rIsX K) (tCons (tVar 0) (tCons (tC (.ref (He.ga K "BadPlan"))) tNil)))) (tC (.str "BadPlan")) (tC (.str ""))) tNil)))
  (tSeq (tDrop (tBM K "list" rAppend (tVar 1) (tCons (tIf (tTru K (tCB (G.rIsX K) (tCons (tVar 0) (tCons (tC (.ref (He.ga K "BadPlane"))) tNil)))) (tC (.str "BadPlane")) (tC (.str ""))) tNil)))
  (tSeq (tDrop (tBM K "list" rAppend (tVar 1) (tCons (tIf (tTru K (tCB (G.rIsX K) (tCons (tVar 0) (tCons (tC (.ref (He.ga K "BadPlanes"))) tNil)))) (tC (.str "BadPlanes")) (tC (.str ""))) tNil)))
  (tSeq (tDrop (tBM K "list" rAppend (tVar 1) (tCons (tIf (tTru K (tCB (G.rIsX K) (tCons (tVar 0) (tCons (tC (.ref (He.ga K "BadPrice"))) tNil)))) (tC (.str "BadPrice")) (tC (.str ""))) tNil)))
  (tSeq (tDrop (tBM K "list" rAppend (tVar 1) (tCons (tIf (tTru K (tCB (G.rIsX K) (tCons (tVar 0) (tCons (tC (.ref (He.ga K "BadRate"))) tNil)))) (tC (.str "BadRate")) (tC (.str ""))) tNil)))
  (tSeq (tDrop (tBM K "list" rAppend (tVar 1) (tCons (tIf (tTru K (tCB (G.rIsX K) (tCons (tVar 0) (tCons (tC (.ref (He.ga K "BadReach"))) tNil)))) (tC (.str "BadReach")) (tC (.str ""))) tNil)))
  (tSeq (tDrop (tBM K "list" rAppend (tVar 1) (tCons (tIf (tTru K (tCB (G.rIsX K) (tCons (tVar 0) (tCons (tC (.ref (He.ga K "BadRectangle"))) tNil)))) (tC (.str "BadRectangle")) (tC (.str ""))) tNil)))
  (tSeq (tDrop (tBM K "list" rAppend (tVar 1) (tCons (tIf (tTru K (tCB (G.rIsX K) (tCons (tVar 0) (tCons (tC (.ref (He.ga K "BadReel"))) tNil)))) (tC (.str "BadReel")) (tC (.str ""))) tNil)))
  (tSeq (tDrop (tBM K "list" rAppend (tVar 1) (tCons (tIf (tTru K (tCB (G.rIsX K) (tCons (tVar 0) (tCons (tC (.ref (He.ga K "BadReferences"))) tNil)))) (tC (.str "BadReferences")) (tC (.str ""))) tNil)))
  (tSeq (tDrop (tBM K "list" rAppend (tVar 1) (tCons (tIf (tTru K (tCB (G.rIsX K) (tCons (tVar 0) (tCons (tC (.ref (He.ga K "BadRenewals"))) tNil)))) (tC (.str "BadRenewals")) (tC (.str ""))) tNil)))
  (tSeq (tDrop (tBM K "list" rAppend (tVar 1) (tCons (tIf (tTru K (tCB (G.rIsX K) (tCons (tVar 0) (tCons (tC (.ref (He.ga K "BadRoom"))) tNil)))) (tC (.str "BadRoom")) (tC (.str ""))) tNil)))
  (tSeq (tDrop (tBM K "list" rAppend (tVar 1) (tCons (tIf (tTru K (tCB (G.rIsX K) (tCons (tVar 0) (tCons (tC (.ref (He.ga K "BadRow"))) tNil)))) (tC (.str "BadRow")) (tC (.str ""))) tNil)))
  (tSeq (tDrop (tBM K "list" rAppend (tVar 1) (tCons (tIf (tTru K (tCB (G.rIsX K) (tCons (tVar 0) (tCons (tC (.ref (He.ga K "BadSet"))) tNil)))) (tC (.str "BadSet")) (tC (.str ""))) tNil)))
  (tSeq (tDrop (tBM K "list" rAppend (tVar 1) (tCons (tIf (tTru K (tCB (G.rIsX K) (tCons (tVar 0) (tCons (tC (.ref (He.ga K "BadShape"))) tNil)))) (tC (.str "BadShape")) (tC (.str ""))) tNil)))
  (tSeq (tDrop (tBM K "list" rAppend (tVar 1) (tCons (tIf (tTru K (tCB (G.rIsX K) (tCons (tVar 0) (tCons (tC (.ref (He.ga K "BadShares"))) tNil)))) (tC (.str "BadShares")) (tC (.str ""))) tNil)))
  (tSeq (tDrop (tBM K "list" rAppend (tVar 1) (tCons (tIf (tTru K (tCB (G.rIsX K) (tCons (tVar 0) (tCons (tC (.ref (He.ga K "BadShift"))) tNil)))) (tC (.str "BadShift")) (tC (.str ""))) tNil)))
  (tSeq (tDrop (tBM K "list" rAppend (tVar 1) (tCons (tIf (tTru K (tCB (G.rIsX K) (tCons (tVar 0) (tCons (tC (.ref (He.ga K "BadShows"))) tNil)))) (tC (.str "BadShows")) (tC (.str ""))) tNil)))
  (tSeq (tDrop (tBM K "list" rAppend (tVar 1) (tCons (tIf (tTru K (tCB (G.rIsX K) (tCons (tVar 0) (tCons (tC (.ref (He.ga K "BadSize"))) tNil)))) (tC (.str "BadSize")) (tC (.str ""))) tNil)))
  (tRet (tLc (iSeq K (tVar 1)) (gName 2) (tTest (tOp (G.rCmp K .NotEq) (tVar 2) (tC (.str "")))) (tVar 2) [2])))))))))))))))))))))
theorem eq__law_kinds_c (K : PySem.W.Frag) (cells : List (Str × Addr)) (acts : Acts) (T : List (Addr × Str)) (W : WX) : wSL (wS K 40 (gm__law_kinds_c K cells acts T none) (defScope st__law_kinds_c) W) (defBody st__law_kinds_c) = t__law_kinds_c K cells acts T none W := by kernel_rfl
-- READING _law_kinds_d
abbrev fl__law_kinds_d (K : PySem.W.Frag) : List FnE := []
abbrev act__law_kinds_d (acts : Acts) : Acts := fun g tl => false = true ∧ acts g tl
abbrev gm__law_kinds_d (K : PySem.W.Frag) (cells : List (Str × Addr)) (acts : Acts) (T : List (Addr × Str)) (pt : Option Addr) : Gam := gam (mdOf K) ["_law_caught", "_law_found", "_law_each"] (fl__law_kinds_d K) (act__law_kinds_d acts) ("_law_kinds_d" ++ ".<locals>." : Str) cells T pt
def t__law_kinds_d (K : PySem.W.Frag) (cells : List (Str × Addr)) (acts : Acts) (T : List (Addr × Str)) (pt : Option Addr) (W : WX) : TS :=
  (tSeq (tAsg (tLst tNil) (gName 1))
  (tSeq (tDrop (tBM K "list" rAppend (tVar 1) (tCons (tIf (tTru K (tCB (G.rIsX K) (tCons (tVar 0) (tCons (tC (.ref (He.ga K "BadSizes"))) tNil)))) (tC (.str "BadSizes")) (tC (.str ""))) tNil)))
  (tSeq (tDrop (tBM K "list" rAppend (tVar 1) (tCons (tIf (tTru K (tCB (G.rIsX K) (tCons (tVar 0) (tCons (tC (.ref (He.ga K "BadSpans"))) tNil)))) (tC (.str "BadSpans")) (tC (.str ""))) tNil)))
  (tSeq (tDrop (tBM K "list" rAppend (tVar 1) (tCons (tIf (tTru K (tCB (G.rIsX K) (tCons (tVar 0) (tCons (tC (.ref (He.ga K "BadSpot"))) tNil)))) (tC (.str "BadSpot")) (tC (.str ""))) tNil)))
  (tSeq (tDrop (tBM K "list" rAppend (tVar 1) (tCons (tIf (tTru K (tCB (G.rIsX K) (tCons (tVar 0) (tCons (tC (.ref (He.ga K "BadState"))) tNil)))) (tC (.str "BadState")) (tC (.str ""))) tNil)))
  (tSeq (tDrop (tBM K "list" rAppend (tVar 1) (tCons (tIf (tTru K (tCB (G.rIsX K) (tCons (tVar 0) (tCons (tC (.ref (He.ga K "BadStock"))) tNil)))) (tC (.str "BadStock")) (tC (.str ""))) tNil)))
  (tSeq (tDrop (tBM K "list" rAppend (tVar 1) (tCons (tIf (tTru K (tCB (G.rIsX K) (tCons (tVar 0) (tCons (tC (.ref (He.ga K "BadStore"))) tNil)))) (tC (.str "BadStore")) (tC (.str ""))) tNil)))
  (tSeq (tDrop (tBM K "list" rAppend (tVar 1) (tCons (tIf (tTru K (tCB (G.rIsX K) (tCons (tVar 0) (tCons (tC (.ref (He.ga K "BadStream"))) tNil)))) (tC (.str "BadStream")) (tC (.str ""))) tNil)))
  (tSeq (tDrop (tBM K "list" rAppend (tVar 1) (tCons (tIf (tTru K (tCB (G.rIsX K) (tCons (tVar 0) (tCons (tC (.ref (He.ga K "BadStretch"))) tNil)))) (tC (.str "BadStretch")) (tC (.str ""))) tNil)))
  (tSeq (tDrop (tBM K "list" rAppend (tVar 1) (tCons (tIf (tTru K (tCB (G.rIsX K) (tCons (tVar 0) (tCons (tC (.ref (He.ga K "BadTelling"))) tNil)))) (tC (.str "BadTelling")) (tC (.str ""))) tNil)))
  (tSeq (tDrop (tBM K "list" rAppend (tVar 1) (tCons (tIf (tTru K (tCB (G.rIsX K) (tCons (tVar 0) (tCons (tC (.ref (He.ga K "BadUpper"))) tNil)))) (tC (.str "BadUpper")) (tC (.str ""))) tNil)))
  (tSeq (tDrop (tBM K "list" rAppend (tVar 1) (tCons (tIf (tTru K (tCB (G.rIsX K) (tCons (tVar 0) (tCons (tC (.ref (He.ga K "BadVector"))) tNil)))) (tC (.str "BadVector")) (tC (.str ""))) tNil)))
  (tSeq (tDrop (tBM K "list" rAppend (tVar 1) (tCons (tIf (tTru K (tCB (G.rIsX K) (tCons (tVar 0) (tCons (tC (.ref (He.ga K "BadWait"))) tNil)))) (tC (.str "BadWait")) (tC (.str ""))) tNil)))
  (tSeq (tDrop (tBM K "list" rAppend (tVar 1) (tCons (tIf (tTru K (tCB (G.rIsX K) (tCons (tVar 0) (tCons (tC (.ref (He.ga K "BadWanted"))) tNil)))) (tC (.str "BadWanted")) (tC (.str ""))) tNil)))
  (tSeq (tDrop (tBM K "list" rAppend (tVar 1) (tCons (tIf (tTru K (tCB (G.rIsX K) (tCons (tVar 0) (tCons (tC (.ref (He.ga K "BadWay"))) tNil)))) (tC (.str "BadWay")) (tC (.str ""))) tNil)))
  (tSeq (tDrop (tBM K "list" rAppend (tVar 1) (tCons (tIf (tTru K (tCB (G.rIsX K) (tCons (tVar 0) (tCons (tC (.ref (He.ga K "BadWeb"))) tNil)))) (tC (.str "BadWeb")) (tC (.str ""))) tNil)))
  (tSeq (tDrop (tBM K "list" rAppend (tVar 1) (tCons (tIf (tTru K (tCB (G.rIsX K) (tCons (tVar 0) (tCons (tC (.ref (He.ga K "BadWish"))) tNil)))) (tC (.str "BadWish")) (tC (.str ""))) tNil)))
  (tSeq (tDrop (tBM K "list" rAppend (tVar 1) (tCons (tIf (tTru K (tCB (G.rIsX K) (tCons (tVar 0) (tCons (tC (.ref (He.ga K "BadWorths"))) tNil)))) (tC (.str "BadWorths")) (tC (.str ""))) tNil)))
  (tSeq (tDrop (tBM K "list" rAppend (tVar 1) (tCons (tIf (tTru K (tCB (G.rIsX K) (tCons (tVar 0) (tCons (tC (.ref (He.ga K "NotNow"))) tNil)))) (tC (.str "NotNow")) (tC (.str ""))) tNil)))
  (tRet (tLc (iSeq K (tVar 1)) (gName 2) (tTest (tOp (G.rCmp K .NotEq) (tVar 2) (tC (.str "")))) (tVar 2) [2])))))))))))))))))))))
theorem eq__law_kinds_d (K : PySem.W.Frag) (cells : List (Str × Addr)) (acts : Acts) (T : List (Addr × Str)) (W : WX) : wSL (wS K 40 (gm__law_kinds_d K cells acts T none) (defScope st__law_kinds_d) W) (defBody st__law_kinds_d) = t__law_kinds_d K cells acts T none W := by kernel_rfl
-- READING _law_kinds_e
abbrev fl__law_kinds_e (K : PySem.W.Frag) : List FnE := []
abbrev act__law_kinds_e (acts : Acts) : Acts := fun g tl => false = true ∧ acts g tl
abbrev gm__law_kinds_e (K : PySem.W.Frag) (cells : List (Str × Addr)) (acts : Acts) (T : List (Addr × Str)) (pt : Option Addr) : Gam := gam (mdOf K) ["_law_caught", "_law_found", "_law_each"] (fl__law_kinds_e K) (act__law_kinds_e acts) ("_law_kinds_e" ++ ".<locals>." : Str) cells T pt
def t__law_kinds_e (K : PySem.W.Frag) (cells : List (Str × Addr)) (acts : Acts) (T : List (Addr × Str)) (pt : Option Addr) (W : WX) : TS :=
  (tSeq (tAsg (tLst tNil) (gName 1))
  (tSeq (tDrop (tBM K "list" rAppend (tVar 1) (tCons (tIf (tTru K (tCB (G.rIsX K) (tCons (tVar 0) (tCons (tC (.ref (He.ga K "NothingDone"))) tNil)))) (tC (.str "NothingDone")) (tC (.str ""))) tNil)))
  (tSeq (tDrop (tBM K "list" rAppend (tVar 1) (tCons (tIf (tTru K (tCB (G.rIsX K) (tCons (tVar 0) (tCons (tC (.ref (He.ga K "OtherKinds"))) tNil)))) (tC (.str "OtherKinds")) (tC (.str ""))) tNil)))
  (tSeq (tDrop (tBM K "list" rAppend (tVar 1) (tCons (tIf (tTru K (tCB (G.rIsX K) (tCons (tVar 0) (tCons (tC (.ref (He.ga K "OtherShapes"))) tNil)))) (tC (.str "OtherShapes")) (tC (.str ""))) tNil)))
  (tSeq (tDrop (tBM K "list" rAppend (tVar 1) (tCons (tIf (tTru K (tCB (G.rIsX K) (tCons (tVar 0) (tCons (tC (.ref (He.ga K "TooMany"))) tNil)))) (tC (.str "TooMany")) (tC (.str ""))) tNil)))
  (tRet (tLc (iSeq K (tVar 1)) (gName 2) (tTest (tOp (G.rCmp K .NotEq) (tVar 2) (tC (.str "")))) (tVar 2) [2])))))))
theorem eq__law_kinds_e (K : PySem.W.Frag) (cells : List (Str × Addr)) (acts : Acts) (T : List (Addr × Str)) (W : WX) : wSL (wS K 40 (gm__law_kinds_e K cells acts T none) (defScope st__law_kinds_e) W) (defBody st__law_kinds_e) = t__law_kinds_e K cells acts T none W := by kernel_rfl
-- READING _law_plain_a
abbrev fl__law_plain_a (K : PySem.W.Frag) : List FnE := [⟨"BadAt", 1, [], 1, S_BadAt K⟩, ⟨"BadBits", 1, [], 1, S_BadBits K⟩, ⟨"BadBlock", 1, [], 1, S_BadBlock K⟩, ⟨"BadBook", 1, [], 1, S_BadBook K⟩, ⟨"BadBounds", 1, [], 1, S_BadBounds K⟩, ⟨"BadChosen", 1, [], 1, S_BadChosen K⟩, ⟨"BadCut", 1, [], 1, S_BadCut K⟩, ⟨"BadDelay", 1, [], 1, S_BadDelay K⟩, ⟨"BadError", 1, [], 1, S_BadError K⟩, ⟨"BadField", 1, [], 1, S_BadField K⟩, ⟨"BadFrame", 1, [], 1, S_BadFrame K⟩, ⟨"BadGains", 1, [], 1, S_BadGains K⟩, ⟨"BadGrade", 1, [], 1, S_BadGrade K⟩, ⟨"BadGuess", 1, [], 1, S_BadGuess K⟩, ⟨"BadHold", 1, [], 1, S_BadHold K⟩, ⟨"BadHurt", 1, [], 1, S_BadHurt K⟩, ⟨"BadIndex", 1, [], 1, S_BadIndex K⟩, ⟨"BadKind", 1, [], 1, S_BadKind K⟩, ⟨"BadLeast", 1, [], 1, S_BadLeast K⟩, ⟨"BadLoss", 1, [], 1, S_BadLoss K⟩]
abbrev act__law_plain_a (acts : Acts) : Acts := fun g tl => false = true ∧ acts g tl
abbrev gm__law_plain_a (K : PySem.W.Frag) (cells : List (Str × Addr)) (acts : Acts) (T : List (Addr × Str)) (pt : Option Addr) : Gam := gam (mdOf K) ["_law_text_here", "_law_found"] (fl__law_plain_a K) (act__law_plain_a acts) ("_law_plain_a" ++ ".<locals>." : Str) cells T pt
def t__law_plain_a (K : PySem.W.Frag) (cells : List (Str × Addr)) (acts : Acts) (T : List (Addr × Str)) (pt : Option Addr) (W : WX) : TS :=
  (tSeq (tAsg (tLst tNil) (gName 1))
  (tSeq (tDrop (tBM K "list" rAppend (tVar 1) (tCons (tTup (tCons (tC (.str "BadAt")) (tCons (tFn (S_BadAt K) (fun _ _ => act__law_plain_a acts) W (tCons (tVar 0) tNil) tNil 1 0) tNil))) tNil)))
  (tSeq (tDrop (tBM K "list" rAppend (tVar 1) (tCons (tTup (tCons (tC (.str "BadBits")) (tCons (tFn (S_BadBits K) (fun _ _ => act__law_plain_a acts) W (tCons (tVar 0) tNil) tNil 1 0) tNil))) tNil)))
  (tSeq (tDrop (tBM K "list" rAppend (tVar 1) (tCons (tTup (tCons (tC (.str "BadBlock")) (tCons (tFn (S_BadBlock K) (fun _ _ => act__law_plain_a acts) W (tCons (tVar 0) tNil) tNil 1 0) tNil))) tNil)))
  (tSeq (tDrop (tBM K "list" rAppend (tVar 1) (tCons (tTup (tCons (tC (.str "BadBook")) (tCons (tFn (S_BadBook K) (fun _ _ => act__law_plain_a acts) W (tCons (tVar 0) tNil) tNil 1 0) tNil))) tNil)))
  (tSeq (tDrop (tBM K "list" rAppend (tVar 1) (tCons (tTup (tCons (tC (.str "BadBounds")) (tCons (tFn (S_BadBounds K) (fun _ _ => act__law_plain_a acts) W (tCons (tVar 0) tNil) tNil 1 0) tNil))) tNil)))
  (tSeq (tDrop (tBM K "list" rAppend (tVar 1) (tCons (tTup (tCons (tC (.str "BadChosen")) (tCons (tFn (S_BadChosen K) (fun _ _ => act__law_plain_a acts) W (tCons (tVar 0) tNil) tNil 1 0) tNil))) tNil)))
  (tSeq (tDrop (tBM K "list" rAppend (tVar 1) (tCons (tTup (tCons (tC (.str "BadCut")) (tCons (tFn (S_BadCut K) (fun _ _ => act__law_plain_a acts) W (tCons (tVar 0) tNil) tNil 1 0) tNil))) tNil)))
  (tSeq (tDrop (tBM K "list" rAppend (tVar 1) (tCons (tTup (tCons (tC (.str "BadDelay")) (tCons (tFn (S_BadDelay K) (fun _ _ => act__law_plain_a acts) W (tCons (tVar 0) tNil) tNil 1 0) tNil))) tNil)))
  (tSeq (tDrop (tBM K "list" rAppend (tVar 1) (tCons (tTup (tCons (tC (.str "BadError")) (tCons (tFn (S_BadError K) (fun _ _ => act__law_plain_a acts) W (tCons (tVar 0) tNil) tNil 1 0) tNil))) tNil)))
  (tSeq (tDrop (tBM K "list" rAppend (tVar 1) (tCons (tTup (tCons (tC (.str "BadField")) (tCons (tFn (S_BadField K) (fun _ _ => act__law_plain_a acts) W (tCons (tVar 0) tNil) tNil 1 0) tNil))) tNil)))
  (tSeq (tDrop (tBM K "list" rAppend (tVar 1) (tCons (tTup (tCons (tC (.str "BadFrame")) (tCons (tFn (S_BadFrame K) (fun _ _ => act__law_plain_a acts) W (tCons (tVar 0) tNil) tNil 1 0) tNil))) tNil)))
  (tSeq (tDrop (tBM K "list" rAppend (tVar 1) (tCons (tTup (tCons (tC (.str "BadGains")) (tCons (tFn (S_BadGains K) (fun _ _ => act__law_plain_a acts) W (tCons (tVar 0) tNil) tNil 1 0) tNil))) tNil)))
  (tSeq (tDrop (tBM K "list" rAppend (tVar 1) (tCons (tTup (tCons (tC (.str "BadGrade")) (tCons (tFn (S_BadGrade K) (fun _ _ => act__law_plain_a acts) W (tCons (tVar 0) tNil) tNil 1 0) tNil))) tNil)))
  (tSeq (tDrop (tBM K "list" rAppend (tVar 1) (tCons (tTup (tCons (tC (.str "BadGuess")) (tCons (tFn (S_BadGuess K) (fun _ _ => act__law_plain_a acts) W (tCons (tVar 0) tNil) tNil 1 0) tNil))) tNil)))
  (tSeq (tDrop (tBM K "list" rAppend (tVar 1) (tCons (tTup (tCons (tC (.str "BadHold")) (tCons (tFn (S_BadHold K) (fun _ _ => act__law_plain_a acts) W (tCons (tVar 0) tNil) tNil 1 0) tNil))) tNil)))
  (tSeq (tDrop (tBM K "list" rAppend (tVar 1) (tCons (tTup (tCons (tC (.str "BadHurt")) (tCons (tFn (S_BadHurt K) (fun _ _ => act__law_plain_a acts) W (tCons (tVar 0) tNil) tNil 1 0) tNil))) tNil)))
  (tSeq (tDrop (tBM K "list" rAppend (tVar 1) (tCons (tTup (tCons (tC (.str "BadIndex")) (tCons (tFn (S_BadIndex K) (fun _ _ => act__law_plain_a acts) W (tCons (tVar 0) tNil) tNil 1 0) tNil))) tNil)))
  (tSeq (tDrop (tBM K "list" rAppend (tVar 1) (tCons (tTup (tCons (tC (.str "BadKind")) (tCons (tFn (S_BadKind K) (fun _ _ => act__law_plain_a acts) W (tCons (tVar 0) tNil) tNil 1 0) tNil))) tNil)))
  (tSeq (tDrop (tBM K "list" rAppend (tVar 1) (tCons (tTup (tCons (tC (.str "BadLeast")) (tCons (tFn (S_BadLeast K) (fun _ _ => act__law_plain_a acts) W (tCons (tVar 0) tNil) tNil 1 0) tNil))) tNil)))
  (tSeq (tDrop (tBM K "list" rAppend (tVar 1) (tCons (tTup (tCons (tC (.str "BadLoss")) (tCons (tFn (S_BadLoss K) (fun _ _ => act__law_plain_a acts) W (tCons (tVar 0) tNil) tNil 1 0) tNil))) tNil)))
  (tRet (tVar 1)))))))))))))))))))))))
theorem eq__law_plain_a (K : PySem.W.Frag) (cells : List (Str × Addr)) (acts : Acts) (T : List (Addr × Str)) (W : WX) : wSL (wS K 40 (gm__law_plain_a K cells acts T none) (defScope st__law_plain_a) W) (defBody st__law_plain_a) = t__law_plain_a K cells acts T none W := by kernel_rfl
-- READING _law_plain_b
abbrev fl__law_plain_b (K : PySem.W.Frag) : List FnE := [⟨"BadLosses", 1, [], 1, S_BadLosses K⟩, ⟨"BadLot", 1, [], 1, S_BadLot K⟩, ⟨"BadLots", 1, [], 1, S_BadLots K⟩, ⟨"BadMany", 1, [], 1, S_BadMany K⟩, ⟨"BadMemory", 1, [], 1, S_BadMemory K⟩, ⟨"BadMost", 1, [], 1, S_BadMost K⟩, ⟨"BadNumber", 1, [], 1, S_BadNumber K⟩, ⟨"BadOrder", 1, [], 1, S_BadOrder K⟩, ⟨"BadOther", 1, [], 1, S_BadOther K⟩, ⟨"BadPlace", 1, [], 1, S_BadPlace K⟩, ⟨"BadPlan", 1, [], 1, S_BadPlan K⟩, ⟨"BadPlane", 1, [], 1, S_BadPlane K⟩, ⟨"BadPlanes", 1, [], 1, S_BadPlanes K⟩, ⟨"BadPrice", 1, [], 1, S_BadPrice K⟩, ⟨"BadRate", 1, [], 1, S_BadRate K⟩, ⟨"BadReach", 1, [], 1, S_BadReach K⟩, ⟨"BadRectangle", 1, [], 1, S_BadRectangle K⟩, ⟨"BadReferences", 1, [], 1, S_BadReferences K⟩, ⟨"BadRoom", 1, [], 1, S_BadRoom K⟩, ⟨"BadRow", 1, [], 1, S_BadRow K⟩]
abbrev act__law_plain_b (acts : Acts) : Acts := fun g tl => false = true ∧ acts g tl
abbrev gm__law_plain_b (K : PySem.W.Frag) (cells : List (Str × Addr)) (acts : Acts) (T : List (Addr × Str)) (pt : Option Addr) : Gam := gam (mdOf K) ["_law_text_here", "_law_found"] (fl__law_plain_b K) (act__law_plain_b acts) ("_law_plain_b" ++ ".<locals>." : Str) cells T pt
def t__law_plain_b (K : PySem.W.Frag) (cells : List (Str × Addr)) (acts : Acts) (T : List (Addr × Str)) (pt : Option Addr) (W : WX) : TS :=
  (tSeq (tAsg (tLst tNil) (gName 1))
  (tSeq (tDrop (tBM K "list" rAppend (tVar 1) (tCons (tTup (tCons (tC (.str "BadLosses")) (tCons (tFn (S_BadLosses K) (fun _ _ => act__law_plain_b acts) W (tCons (tVar 0) tNil) tNil 1 0) tNil))) tNil)))
  (tSeq (tDrop (tBM K "list" rAppend (tVar 1) (tCons (tTup (tCons (tC (.str "BadLot")) (tCons (tFn (S_BadLot K) (fun _ _ => act__law_plain_b acts) W (tCons (tVar 0) tNil) tNil 1 0) tNil))) tNil)))
  (tSeq (tDrop (tBM K "list" rAppend (tVar 1) (tCons (tTup (tCons (tC (.str "BadLots")) (tCons (tFn (S_BadLots K) (fun _ _ => act__law_plain_b acts) W (tCons (tVar 0) tNil) tNil 1 0) tNil))) tNil)))
  (tSeq (tDrop (tBM K "list" rAppend (tVar 1) (tCons (tTup (tCons (tC (.str "BadMany")) (tCons (tFn (S_BadMany K) (fun _ _ => act__law_plain_b acts) W (tCons (tVar 0) tNil) tNil 1 0) tNil))) tNil)))
  (tSeq (tDrop (tBM K "list" rAppend (tVar 1) (tCons (tTup (tCons (tC (.str "BadMemory")) (tCons (tFn (S_BadMemory K) (fun _ _ => act__law_plain_b acts) W (tCons (tVar 0) tNil) tNil 1 0) tNil))) tNil)))
  (tSeq (tDrop (tBM K "list" rAppend (tVar 1) (tCons (tTup (tCons (tC (.str "BadMost")) (tCons (tFn (S_BadMost K) (fun _ _ => act__law_plain_b acts) W (tCons (tVar 0) tNil) tNil 1 0) tNil))) tNil)))
  (tSeq (tDrop (tBM K "list" rAppend (tVar 1) (tCons (tTup (tCons (tC (.str "BadNumber")) (tCons (tFn (S_BadNumber K) (fun _ _ => act__law_plain_b acts) W (tCons (tVar 0) tNil) tNil 1 0) tNil))) tNil)))
  (tSeq (tDrop (tBM K "list" rAppend (tVar 1) (tCons (tTup (tCons (tC (.str "BadOrder")) (tCons (tFn (S_BadOrder K) (fun _ _ => act__law_plain_b acts) W (tCons (tVar 0) tNil) tNil 1 0) tNil))) tNil)))
  (tSeq (tDrop (tBM K "list" rAppend (tVar 1) (tCons (tTup (tCons (tC (.str "BadOther")) (tCons (tFn (S_BadOther K) (fun _ _ => act__law_plain_b acts) W (tCons (tVar 0) tNil) tNil 1 0) tNil))) tNil)))
  (tSeq (tDrop (tBM K "list" rAppend (tVar 1) (tCons (tTup (tCons (tC (.str "BadPlace")) (tCons (tFn (S_BadPlace K) (fun _ _ => act__law_plain_b acts) W (tCons (tVar 0) tNil) tNil 1 0) tNil))) tNil)))
  (tSeq (tDrop (tBM K "list" rAppend (tVar 1) (tCons (tTup (tCons (tC (.str "BadPlan")) (tCons (tFn (S_BadPlan K) (fun _ _ => act__law_plain_b acts) W (tCons (tVar 0) tNil) tNil 1 0) tNil))) tNil)))
  (tSeq (tDrop (tBM K "list" rAppend (tVar 1) (tCons (tTup (tCons (tC (.str "BadPlane")) (tCons (tFn (S_BadPlane K) (fun _ _ => act__law_plain_b acts) W (tCons (tVar 0) tNil) tNil 1 0) tNil))) tNil)))
  (tSeq (tDrop (tBM K "list" rAppend (tVar 1) (tCons (tTup (tCons (tC (.str "BadPlanes")) (tCons (tFn (S_BadPlanes K) (fun _ _ => act__law_plain_b acts) W (tCons (tVar 0) tNil) tNil 1 0) tNil))) tNil)))
  (tSeq (tDrop (tBM K "list" rAppend (tVar 1) (tCons (tTup (tCons (tC (.str "BadPrice")) (tCons (tFn (S_BadPrice K) (fun _ _ => act__law_plain_b acts) W (tCons (tVar 0) tNil) tNil 1 0) tNil))) tNil)))
  (tSeq (tDrop (tBM K "list" rAppend (tVar 1) (tCons (tTup (tCons (tC (.str "BadRate")) (tCons (tFn (S_BadRate K) (fun _ _ => act__law_plain_b acts) W (tCons (tVar 0) tNil) tNil 1 0) tNil))) tNil)))
  (tSeq (tDrop (tBM K "list" rAppend (tVar 1) (tCons (tTup (tCons (tC (.str "BadReach")) (tCons (tFn (S_BadReach K) (fun _ _ => act__law_plain_b acts) W (tCons (tVar 0) tNil) tNil 1 0) tNil))) tNil)))
  (tSeq (tDrop (tBM K "list" rAppend (tVar 1) (tCons (tTup (tCons (tC (.str "BadRectangle")) (tCons (tFn (S_BadRectangle K) (fun _ _ => act__law_plain_b acts) W (tCons (tVar 0) tNil) tNil 1 0) tNil))) tNil)))
  (tSeq (tDrop (tBM K "list" rAppend (tVar 1) (tCons (tTup (tCons (tC (.str "BadReferences")) (tCons (tFn (S_BadReferences K) (fun _ _ => act__law_plain_b acts) W (tCons (tVar 0) tNil) tNil 1 0) tNil))) tNil)))
  (tSeq (tDrop (tBM K "list" rAppend (tVar 1) (tCons (tTup (tCons (tC (.str "BadRoom")) (tCons (tFn (S_BadRoom K) (fun _ _ => act__law_plain_b acts) W (tCons (tVar 0) tNil) tNil 1 0) tNil))) tNil)))
  (tSeq (tDrop (tBM K "list" rAppend (tVar 1) (tCons (tTup (tCons (tC (.str "BadRow")) (tCons (tFn (S_BadRow K) (fun _ _ => act__law_plain_b acts) W (tCons (tVar 0) tNil) tNil 1 0) tNil))) tNil)))
  (tRet (tVar 1)))))))))))))))))))))))
theorem eq__law_plain_b (K : PySem.W.Frag) (cells : List (Str × Addr)) (acts : Acts) (T : List (Addr × Str)) (W : WX) : wSL (wS K 40 (gm__law_plain_b K cells acts T none) (defScope st__law_plain_b) W) (defBody st__law_plain_b) = t__law_plain_b K cells acts T none W := by kernel_rfl
-- READING _law_plain_c
abbrev fl__law_plain_c (K : PySem.W.Frag) : List FnE := [⟨"BadSet", 1, [], 1, S_BadSet K⟩, ⟨"BadShares", 1, [], 1, S_BadShares K⟩, ⟨"BadShift", 1, [], 1, S_BadShift K⟩, ⟨"BadShows", 1, [], 1, S_BadShows K⟩, ⟨"BadSize", 1, [], 1, S_BadSize K⟩, ⟨"BadSizes", 1, [], 1, S_BadSizes K⟩, ⟨"BadSpans", 1, [], 1, S_BadSpans K⟩, ⟨"BadSpot", 1, [], 1, S_BadSpot K⟩, ⟨"BadState", 1, [], 1, S_BadState K⟩, ⟨"BadTelling", 1, [], 1, S_BadTelling K⟩, ⟨"BadUpper", 1, [], 1, S_BadUpper K⟩, ⟨"BadVector", 1, [], 1, S_BadVector K⟩, ⟨"BadWait", 1, [], 1, S_BadWait K⟩, ⟨"BadWanted", 1, [], 1, S_BadWanted K⟩, ⟨"BadWay", 1, [], 1, S_BadWay K⟩, ⟨"BadWish", 1, [], 1, S_BadWish K⟩, ⟨"BadWorths", 1, [], 1, S_BadWorths K⟩, ⟨"NothingDone", 1, [], 1, S_NothingDone K⟩, ⟨"OtherKinds", 1, [], 1, S_OtherKinds K⟩, ⟨"OtherShapes", 1, [], 1, S_OtherShapes K⟩]
abbrev act__law_plain_c (acts : Acts) : Acts := fun g tl => false = true ∧ acts g tl
abbrev gm__law_plain_c (K : PySem.W.Frag) (cells : List (Str × Addr)) (acts : Acts) (T : List (Addr × Str)) (pt : Option Addr) : Gam := gam (mdOf K) ["_law_text_here", "_law_found"] (fl__law_plain_c K) (act__law_plain_c acts) ("_law_plain_c" ++ ".<locals>." : Str) cells T pt
def t__law_plain_c (K : PySem.W.Frag) (cells : List (Str × Addr)) (acts : Acts) (T : List (Addr × Str)) (pt : Option Addr) (W : WX) : TS :=
  (tSeq (tAsg (tLst tNil) (gName 1))
  (tSeq (tDrop (tBM K "list" rAppend (tVar 1) (tCons (tTup (tCons (tC (.str "BadSet")) (tCons (tFn (S_BadSet K) (fun _ _ => act__law_plain_c acts) W (tCons (tVar 0) tNil) tNil 1 0) tNil))) tNil)))
  (tSeq (tDrop (tBM K "list" rAppend (tVar 1) (tCons (tTup (tCons (tC (.str "BadShares")) (tCons (tFn (S_BadShares K) (fun _ _ => act__law_plain_c acts) W (tCons (tVar 0) tNil) tNil 1 0) tNil))) tNil)))
  (tSeq (tDrop (tBM K "list" rAppend (tVar 1) (tCons (tTup (tCons (tC (.str "BadShift")) (tCons (tFn (S_BadShift K) (fun _ _ => act__law_plain_c acts) W (tCons (tVar 0) tNil) tNil 1 0) tNil))) tNil)))
  (tSeq (tDrop (tBM K "list" rAppend (tVar 1) (tCons (tTup (tCons (tC (.str "BadShows")) (tCons (tFn (S_BadShows K) (fun _ _ => act__law_plain_c acts) W (tCons (tVar 0) tNil) tNil 1 0) tNil))) tNil)))
  (tSeq (tDrop (tBM K "list" rAppend (tVar 1) (tCons (tTup (tCons (tC (.str "BadSize")) (tCons (tFn (S_BadSize K) (fun _ _ => act__law_plain_c acts) W (tCons (tVar 0) tNil) tNil 1 0) tNil))) tNil)))
  (tSeq (tDrop (tBM K "list" rAppend (tVar 1) (tCons (tTup (tCons (tC (.str "BadSizes")) (tCons (tFn (S_BadSizes K) (fun _ _ => act__law_plain_c acts) W (tCons (tVar 0) tNil) tNil 1 0) tNil))) tNil)))
  (tSeq (tDrop (tBM K "list" rAppend (tVar 1) (tCons (tTup (tCons (tC (.str "BadSpans")) (tCons (tFn (S_BadSpans K) (fun _ _ => act__law_plain_c acts) W (tCons (tVar 0) tNil) tNil 1 0) tNil))) tNil)))
  (tSeq (tDrop (tBM K "list" rAppend (tVar 1) (tCons (tTup (tCons (tC (.str "BadSpot")) (tCons (tFn (S_BadSpot K) (fun _ _ => act__law_plain_c acts) W (tCons (tVar 0) tNil) tNil 1 0) tNil))) tNil)))
  (tSeq (tDrop (tBM K "list" rAppend (tVar 1) (tCons (tTup (tCons (tC (.str "BadState")) (tCons (tFn (S_BadState K) (fun _ _ => act__law_plain_c acts) W (tCons (tVar 0) tNil) tNil 1 0) tNil))) tNil)))
  (tSeq (tDrop (tBM K "list" rAppend (tVar 1) (tCons (tTup (tCons (tC (.str "BadTelling")) (tCons (tFn (S_BadTelling K) (fun _ _ => act__law_plain_c acts) W (tCons (tVar 0) tNil) tNil 1 0) tNil))) tNil)))
  (tSeq (tDrop (tBM K "list" rAppend (tVar 1) (tCons (tTup (tCons (tC (.str "BadUpper")) (tCons (tFn (S_BadUpper K) (fun _ _ => act__law_plain_c acts) W (tCons (tVar 0) tNil) tNil 1 0) tNil))) tNil)))
  (tSeq (tDrop (tBM K "list" rAppend (tVar 1) (tCons (tTup (tCons (tC (.str "BadVector")) (tCons (tFn (S_BadVector K) (fun _ _ => act__law_plain_c acts) W (tCons (tVar 0) tNil) tNil 1 0) tNil))) tNil)))
  (tSeq (tDrop (tBM K "list" rAppend (tVar 1) (tCons (tTup (tCons (tC (.str "BadWait")) (tCons (tFn (S_BadWait K) (fun _ _ => act__law_plain_c acts) W (tCons (tVar 0) tNil) tNil 1 0) tNil))) tNil)))
  (tSeq (tDrop (tBM K "list" rAppend (tVar 1) (tCons (tTup (tCons (tC (.str "BadWanted")) (tCons (tFn (S_BadWanted K) (fun _ _ => act__law_plain_c acts) W (tCons (tVar 0) tNil) tNil 1 0) tNil))) tNil)))
  (tSeq (tDrop (tBM K "list" rAppend (tVar 1) (tCons (tTup (tCons (tC (.str "BadWay")) (tCons (tFn (S_BadWay K) (fun _ _ => act__law_plain_c acts) W (tCons (tVar 0) tNil) tNil 1 0) tNil))) tNil)))
  (tSeq (tDrop (tBM K "list" rAppend (tVar 1) (tCons (tTup (tCons (tC (.str "BadWish")) (tCons (tFn (S_BadWish K) (fun _ _ => act__law_plain_c acts) W (tCons (tVar 0) tNil) tNil 1 0) tNil))) tNil)))
  (tSeq (tDrop (tBM K "list" rAppend (tVar 1) (tCons (tTup (tCons (tC (.str "BadWorths")) (tCons (tFn (S_BadWorths K) (fun _ _ => act__law_plain_c acts) W (tCons (tVar 0) tNil) tNil 1 0) tNil))) tNil)))
  (tSeq (tDrop (tBM K "list" rAppend (tVar 1) (tCons (tTup (tCons (tC (.str "NothingDone")) (tCons (tFn (S_NothingDone K) (fun _ _ => act__law_plain_c acts) W (tCons (tVar 0) tNil) tNil 1 0) tNil))) tNil)))
  (tSeq (tDrop (tBM K "list" rAppend (tVar 1) (tCons (tTup (tCons (tC (.str "OtherKinds")) (tCons (tFn (S_OtherKinds K) (fun _ _ => act__law_plain_c acts) W (tCons (tVar 0) tNil) tNil 1 0) tNil))) tNil)))
  (tSeq (tDrop (tBM K "list" rAppend (tVar 1) (tCons (tTup (tCons (tC (.str "OtherShapes")) (tCons (tFn (S_OtherShapes K) (fun _ _ => act__law_plain_c acts) W (tCons (tVar 0) tNil) tNil 1 0) tNil))) tNil)))
  (tRet (tVar 1)))))))))))))))))))))))
theorem eq__law_plain_c (K : PySem.W.Frag) (cells : List (Str × Addr)) (acts : Acts) (T : List (Addr × Str)) (W : WX) : wSL (wS K 40 (gm__law_plain_c K cells acts T none) (defScope st__law_plain_c) W) (defBody st__law_plain_c) = t__law_plain_c K cells acts T none W := by kernel_rfl
-- READING _law_held
abbrev fl__law_held (K : PySem.W.Frag) : List FnE := [⟨"BadCosts", 1, [], 1, S_BadCosts K⟩, ⟨"BadFrames", 1, [], 1, S_BadFrames K⟩, ⟨"BadHead", 1, [], 1, S_BadHead K⟩, ⟨"BadItem", 1, [], 1, S_BadItem K⟩, ⟨"BadJobs", 1, [], 1, S_BadJobs K⟩, ⟨"BadMode", 1, [], 1, S_BadMode K⟩, ⟨"BadReel", 1, [], 1, S_BadReel K⟩, ⟨"BadRenewals", 1, [], 1, S_BadRenewals K⟩, ⟨"BadShape", 1, [], 1, S_BadShape K⟩, ⟨"BadStock", 1, [], 1, S_BadStock K⟩, ⟨"BadStore", 1, [], 1, S_BadStore K⟩, ⟨"BadStream", 1, [], 1, S_BadStream K⟩, ⟨"BadStretch", 1, [], 1, S_BadStretch K⟩, ⟨"BadWeb", 1, [], 1, S_BadWeb K⟩, ⟨"NotNow", 1, [], 1, S_NotNow K⟩, ⟨"TooMany", 1, [], 1, S_TooMany K⟩]
abbrev act__law_held (acts : Acts) : Acts := fun g tl => false = true ∧ acts g tl
abbrev gm__law_held (K : PySem.W.Frag) (cells : List (Str × Addr)) (acts : Acts) (T : List (Addr × Str)) (pt : Option Addr) : Gam := gam (mdOf K) ["_law_item", "_law_found", "_law_caught"] (fl__law_held K) (act__law_held acts) ("_law_held" ++ ".<locals>." : Str) cells T pt
def t__law_held (K : PySem.W.Frag) (cells : List (Str × Addr)) (acts : Acts) (T : List (Addr × Str)) (pt : Option Addr) (W : WX) : TS :=
  (tSeq (tAsg (tLst tNil) (gName 1))
  (tSeq (tAsg (tFn (S_BadCosts K) (fun _ _ => act__law_held acts) W (tCons (tVar 0) tNil) tNil 1 0) (gName 2))
  (tSeq (tDrop (tBM K "list" rAppend (tVar 1) (tCons (tTup (tCons (tC (.str "BadCosts")) (tCons (tVar 2) (tCons (tAttr K "at" (tVar 2)) tNil)))) tNil)))
  (tSeq (tAsg (tFn (S_BadFrames K) (fun _ _ => act__law_held acts) W (tCons (tVar 0) tNil) tNil 1 0) (gName 2))
  (tSeq (tDrop (tBM K "list" rAppend (tVar 1) (tCons (tTup (tCons (tC (.str "BadFrames")) (tCons (tVar 2) (tCons (tAttr K "at" (tVar 2)) tNil)))) tNil)))
  (tSeq (tAsg (tFn (S_BadHead K) (fun _ _ => act__law_held acts) W (tCons (tVar 0) tNil) tNil 1 0) (gName 2))
  (tSeq (tDrop (tBM K "list" rAppend (tVar 1) (tCons (tTup (tCons (tC (.str "BadHead")) (tCons (tVar 2) (tCons (tAttr K "part" (tVar 2)) tNil)))) tNil)))
  (tSeq (tAsg (tFn (S_BadItem K) (fun _ _ => act__law_held acts) W (tCons (tVar 0) tNil) tNil 1 0) (gName 2))
  (tSeq (tDrop (tBM K "list" rAppend (tVar 1) (tCons (tTup (tCons (tC (.str "BadItem")) (tCons (tVar 2) (tCons (tAttr K "at" (tVar 2)) tNil)))) tNil)))
  (tSeq (tAsg (tFn (S_BadJobs K) (fun _ _ => act__law_held acts) W (tCons (tVar 0) tNil) tNil 1 0) (gName 2))
  (tSeq (tDrop (tBM K "list" rAppend (tVar 1) (tCons (tTup (tCons (tC (.str "BadJobs")) (tCons (tVar 2) (tCons (tAttr K "at" (tVar 2)) tNil)))) tNil)))
  (tSeq (tAsg (tFn (S_BadMode K) (fun _ _ => act__law_held acts) W (tCons (tVar 0) tNil) tNil 1 0) (gName 2))
  (tSeq (tDrop (tBM K "list" rAppend (tVar 1) (tCons (tTup (tCons (tC (.str "BadMode")) (tCons (tVar 2) (tCons (tAttr K "mode" (tVar 2)) tNil)))) tNil)))
  (tSeq (tAsg (tFn (S_BadReel K) (fun _ _ => act__law_held acts) W (tCons (tVar 0) tNil) tNil 1 0) (gName 2))
  (tSeq (tDrop (tBM K "list" rAppend (tVar 1) (tCons (tTup (tCons (tC (.str "BadReel")) (tCons (tVar 2) (tCons (tAttr K "part" (tVar 2)) tNil)))) tNil)))
  (tSeq (tAsg (tFn (S_BadRenewals K) (fun _ _ => act__law_held acts) W (tCons (tVar 0) tNil) tNil 1 0) (gName 2))
  (tSeq (tDrop (tBM K "list" rAppend (tVar 1) (tCons (tTup (tCons (tC (.str "BadRenewals")) (tCons (tVar 2) (tCons (tAttr K "at" (tVar 2)) tNil)))) tNil)))
  (tSeq (tAsg (tFn (S_BadShape K) (fun _ _ => act__law_held acts) W (tCons (tVar 0) tNil) tNil 1 0) (gName 2))
  (tSeq (tDrop (tBM K "list" rAppend (tVar 1) (tCons (tTup (tCons (tC (.str "BadShape")) (tCons (tVar 2) (tCons (tAttr K "part" (tVar 2)) tNil)))) tNil)))
  (tSeq (tAsg (tFn (S_BadStock K) (fun _ _ => act__law_held acts) W (tCons (tVar 0) tNil) tNil 1 0) (gName 2))
  (tSeq (tDrop (tBM K "list" rAppend (tVar 1) (tCons (tTup (tCons (tC (.str "BadStock")) (tCons (tVar 2) (tCons (tAttr K "part" (tVar 2)) tNil)))) tNil)))
  (tSeq (tAsg (tFn (S_BadStore K) (fun _ _ => act__law_held acts) W (tCons (tVar 0) tNil) tNil 1 0) (gName 2))
  (tSeq (tDrop (tBM K "list" rAppend (tVar 1) (tCons (tTup (tCons (tC (.str "BadStore")) (tCons (tVar 2) (tCons (tAttr K "at" (tVar 2)) tNil)))) tNil)))
  (tSeq (tAsg (tFn (S_BadStream K) (fun _ _ => act__law_held acts) W (tCons (tVar 0) tNil) tNil 1 0) (gName 2))
  (tSeq (tDrop (tBM K "list" rAppend (tVar 1) (tCons (tTup (tCons (tC (.str "BadStream")) (tCons (tVar 2) (tCons (tAttr K "at" (tVar 2)) tNil)))) tNil)))
  (tSeq (tAsg (tFn (S_BadStretch K) (fun _ _ => act__law_held acts) W (tCons (tVar 0) tNil) tNil 1 0) (gName 2))
  (tSeq (tDrop (tBM K "list" rAppend (tVar 1) (tCons (tTup (tCons (tC (.str "BadStretch")) (tCons (tVar 2) (tCons (tAttr K "at" (tVar 2)) tNil)))) tNil)))
  (tSeq (tAsg (tFn (S_BadWeb K) (fun _ _ => act__law_held acts) W (tCons (tVar 0) tNil) tNil 1 0) (gName 2))
  (tSeq (tDrop (tBM K "list" rAppend (tVar 1) (tCons (tTup (tCons (tC (.str "BadWeb")) (tCons (tVar 2) (tCons (tAttr K "at" (tVar 2)) tNil)))) tNil)))
  (tSeq (tAsg (tFn (S_NotNow K) (fun _ _ => act__law_held acts) W (tCons (tVar 0) tNil) tNil 1 0) (gName 2))
  (tSeq (tDrop (tBM K "list" rAppend (tVar 1) (tCons (tTup (tCons (tC (.str "NotNow")) (tCons (tVar 2) (tCons (tAttr K "word" (tVar 2)) tNil)))) tNil)))
  (tSeq (tAsg (tFn (S_TooMany K) (fun _ _ => act__law_held acts) W (tCons (tVar 0) tNil) tNil 1 0) (gName 2))
  (tSeq (tDrop (tBM K "list" rAppend (tVar 1) (tCons (tTup (tCons (tC (.str "TooMany")) (tCons (tVar 2) (tCons (tAttr K "most" (tVar 2)) tNil)))) tNil)))
  (tRet (tVar 1)))))))))))))))))))))))))))))))))))
theorem eq__law_held (K : PySem.W.Frag) (cells : List (Str × Addr)) (acts : Acts) (T : List (Addr × Str)) (W : WX) : wSL (wS K 40 (gm__law_held K cells acts T none) (defScope st__law_held) W) (defBody st__law_held) = t__law_held K cells acts T none W := by kernel_rfl
-- READING _law_held_by_name
abbrev fl__law_held_by_name (K : PySem.W.Frag) : List FnE := [⟨"BadCosts", 0, ["at"], 1, S_BadCosts_k0_at K⟩, ⟨"BadFrames", 0, ["at"], 1, S_BadFrames_k0_at K⟩, ⟨"BadHead", 0, ["part"], 1, S_BadHead_k0_part K⟩, ⟨"BadItem", 0, ["at"], 1, S_BadItem_k0_at K⟩, ⟨"BadJobs", 0, ["at"], 1, S_BadJobs_k0_at K⟩, ⟨"BadMode", 0, ["mode"], 1, S_BadMode_k0_mode K⟩, ⟨"BadReel", 0, ["part"], 1, S_BadReel_k0_part K⟩, ⟨"BadRenewals", 0, ["at"], 1, S_BadRenewals_k0_at K⟩, ⟨"BadShape", 0, ["part"], 1, S_BadShape_k0_part K⟩, ⟨"BadStock", 0, ["part"], 1, S_BadStock_k0_part K⟩, ⟨"BadStore", 0, ["at"], 1, S_BadStore_k0_at K⟩, ⟨"BadStream", 0, ["at"], 1, S_BadStream_k0_at K⟩, ⟨"BadStretch", 0, ["at"], 1, S_BadStretch_k0_at K⟩, ⟨"BadWeb", 0, ["at"], 1, S_BadWeb_k0_at K⟩, ⟨"NotNow", 0, ["word"], 1, S_NotNow_k0_word K⟩, ⟨"TooMany", 0, ["most"], 1, S_TooMany_k0_most K⟩]
abbrev act__law_held_by_name (acts : Acts) : Acts := fun g tl => false = true ∧ acts g tl
abbrev gm__law_held_by_name (K : PySem.W.Frag) (cells : List (Str × Addr)) (acts : Acts) (T : List (Addr × Str)) (pt : Option Addr) : Gam := gam (mdOf K) ["_law_item", "_law_found", "_law_caught"] (fl__law_held_by_name K) (act__law_held_by_name acts) ("_law_held_by_name" ++ ".<locals>." : Str) cells T pt
def t__law_held_by_name (K : PySem.W.Frag) (cells : List (Str × Addr)) (acts : Acts) (T : List (Addr × Str)) (pt : Option Addr) (W : WX) : TS :=
  (tSeq (tAsg (tLst tNil) (gName 1))
  (tSeq (tAsg (tFn (S_BadCosts_k0_at K) (fun _ _ => act__law_held_by_name acts) W tNil (tCons (tVar 0) tNil) 0 1) (gName 2))
  (tSeq (tDrop (tBM K "list" rAppend (tVar 1) (tCons (tTup (tCons (tC (.str "BadCosts")) (tCons (tVar 2) (tCons (tAttr K "at" (tVar 2)) tNil)))) tNil)))
  (tSeq (tAsg (tFn (S_BadFrames_k0_at K) (fun _ _ => act__law_held_by_name acts) W tNil (tCons (tVar 0) tNil) 0 1) (gName 2))
  (tSeq (tDrop (tBM K "list" rAppend (tVar 1) (tCons (tTup (tCons (tC (.str "BadFrames")) (tCons (tVar 2) (tCons (tAttr K "at" (tVar 2)) tNil)))) tNil)))
  (tSeq (tAsg (tFn (S_BadHead_k0_part K) (fun _ _ => act__law_held_by_name acts) W tNil (tCons (tVar 0) tNil) 0 1) (gName 2))
  (tSeq (tDrop (tBM K "list" rAppend (tVar 1) (tCons (tTup (tCons (tC (.str "BadHead")) (tCons (tVar 2) (tCons (tAttr K "part" (tVar 2)) tNil)))) tNil)))
  (tSeq (tAsg (tFn (S_BadItem_k0_at K) (fun _ _ => act__law_held_by_name acts) W tNil (tCons (tVar 0) tNil) 0 1) (gName 2))
  (tSeq (tDrop (tBM K "list" rAppend (tVar 1) (tCons (tTup (tCons (tC (.str "BadItem")) (tCons (tVar 2) (tCons (tAttr K "at" (tVar 2)) tNil)))) tNil)))
  (tSeq (tAsg (tFn (S_BadJobs_k0_at K) (fun _ _ => act__law_held_by_name acts) W tNil (tCons (tVar 0) tNil) 0 1) (gName 2))
  (tSeq (tDrop (tBM K "list" rAppend (tVar 1) (tCons (tTup (tCons (tC (.str "BadJobs")) (tCons (tVar 2) (tCons (tAttr K "at" (tVar 2)) tNil)))) tNil)))
  (tSeq (tAsg (tFn (S_BadMode_k0_mode K) (fun _ _ => act__law_held_by_name acts) W tNil (tCons (tVar 0) tNil) 0 1) (gName 2))
  (tSeq (tDrop (tBM K "list" rAppend (tVar 1) (tCons (tTup (tCons (tC (.str "BadMode")) (tCons (tVar 2) (tCons (tAttr K "mode" (tVar 2)) tNil)))) tNil)))
  (tSeq (tAsg (tFn (S_BadReel_k0_part K) (fun _ _ => act__law_held_by_name acts) W tNil (tCons (tVar 0) tNil) 0 1) (gName 2))
  (tSeq (tDrop (tBM K "list" rAppend (tVar 1) (tCons (tTup (tCons (tC (.str "BadReel")) (tCons (tVar 2) (tCons (tAttr K "part" (tVar 2)) tNil)))) tNil)))
  (tSeq (tAsg (tFn (S_BadRenewals_k0_at K) (fun _ _ => act__law_held_by_name acts) W tNil (tCons (tVar 0) tNil) 0 1) (gName 2))
  (tSeq (tDrop (tBM K "list" rAppend (tVar 1) (tCons (tTup (tCons (tC (.str "BadRenewals")) (tCons (tVar 2) (tCons (tAttr K "at" (tVar 2)) tNil)))) tNil)))
  (tSeq (tAsg (tFn (S_BadShape_k0_part K) (fun _ _ => act__law_held_by_name acts) W tNil (tCons (tVar 0) tNil) 0 1) (gName 2))
  (tSeq (tDrop (tBM K "list" rAppend (tVar 1) (tCons (tTup (tCons (tC (.str "BadShape")) (tCons (tVar 2) (tCons (tAttr K "part" (tVar 2)) tNil)))) tNil)))
  (tSeq (tAsg (tFn (S_BadStock_k0_part K) (fun _ _ => act__law_held_by_name acts) W tNil (tCons (tVar 0) tNil) 0 1) (gName 2))
  (tSeq (tDrop (tBM K "list" rAppend (tVar 1) (tCons (tTup (tCons (tC (.str "BadStock")) (tCons (tVar 2) (tCons (tAttr K "part" (tVar 2)) tNil)))) tNil)))
  (tSeq (tAsg (tFn (S_BadStore_k0_at K) (fun _ _ => act__law_held_by_name acts) W tNil (tCons (tVar 0) tNil) 0 1) (gName 2))
  (tSeq (tDrop (tBM K "list" rAppend (tVar 1) (tCons (tTup (tCons (tC (.str "BadStore")) (tCons (tVar 2) (tCons (tAttr K "at" (tVar 2)) tNil)))) tNil)))
  (tSeq (tAsg (tFn (S_BadStream_k0_at K) (fun _ _ => act__law_held_by_name acts) W tNil (tCons (tVar 0) tNil) 0 1) (gName 2))
  (tSeq (tDrop (tBM K "list" rAppend (tVar 1) (tCons (tTup (tCons (tC (.str "BadStream")) (tCons (tVar 2) (tCons (tAttr K "at" (tVar 2)) tNil)))) tNil)))
  (tSeq (tAsg (tFn (S_BadStretch_k0_at K) (fun _ _ => act__law_held_by_name acts) W tNil (tCons (tVar 0) tNil) 0 1) (gName 2))
  (tSeq (tDrop (tBM K "list" rAppend (tVar 1) (tCons (tTup (tCons (tC (.str "BadStretch")) (tCons (tVar 2) (tCons (tAttr K "at" (tVar 2)) tNil)))) tNil)))
  (tSeq (tAsg (tFn (S_BadWeb_k0_at K) (fun _ _ => act__law_held_by_name acts) W tNil (tCons (tVar 0) tNil) 0 1) (gName 2))
  (tSeq (tDrop (tBM K "list" rAppend (tVar 1) (tCons (tTup (tCons (tC (.str "BadWeb")) (tCons (tVar 2) (tCons (tAttr K "at" (tVar 2)) tNil)))) tNil)))
  (tSeq (tAsg (tFn (S_NotNow_k0_word K) (fun _ _ => act__law_held_by_name acts) W tNil (tCons (tVar 0) tNil) 0 1) (gName 2))
  (tSeq (tDrop (tBM K "list" rAppend (tVar 1) (tCons (tTup (tCons (tC (.str "NotNow")) (tCons (tVar 2) (tCons (tAttr K "word" (tVar 2)) tNil)))) tNil)))
  (tSeq (tAsg (tFn (S_TooMany_k0_most K) (fun _ _ => act__law_held_by_name acts) W tNil (tCons (tVar 0) tNil) 0 1) (gName 2))
  (tSeq (tDrop (tBM K "list" rAppend (tVar 1) (tCons (tTup (tCons (tC (.str "TooMany")) (tCons (tVar 2) (tCons (tAttr K "most" (tVar 2)) tNil)))) tNil)))
  (tRet (tVar 1)))))))))))))))))))))))))))))))))))
theorem eq__law_held_by_name (K : PySem.W.Frag) (cells : List (Str × Addr)) (acts : Acts) (T : List (Addr × Str)) (W : WX) : wSL (wS K 40 (gm__law_held_by_name K cells acts T none) (defScope st__law_held_by_name) W) (defBody st__law_held_by_name) = t__law_held_by_name K cells acts T none W := by kernel_rfl
-- READING _law_is_alone
abbrev fl__law_is_alone (K : PySem.W.Frag) : List FnE := [⟨"_law_kinds_a", 1, [], 2, S__law_kinds_a K⟩, ⟨"_law_kinds_b", 1, [], 2, S__law_kinds_b K⟩, ⟨"_law_kinds_c", 1, [], 2, S__law_kinds_c K⟩, ⟨"_law_kinds_d", 1, [], 2, S__law_kinds_d K⟩, ⟨"_law_kinds_e", 1, [], 2, S__law_kinds_e K⟩]
abbrev act__law_is_alone (acts : Acts) : Acts := fun g tl => false = true ∧ acts g tl
abbrev gm__law_is_alone (K : PySem.W.Frag) (cells : List (Str × Addr)) (acts : Acts) (T : List (Addr × Str)) (pt : Option Addr) : Gam := gam (mdOf K) ["_law_caught", "_law_name_here", "_law_kinds_here"] (fl__law_is_alone K) (act__law_is_alone acts) ("_law_is_alone" ++ ".<locals>." : Str) cells T pt
def t__law_is_alone (K : PySem.W.Frag) (cells : List (Str × Addr)) (acts : Acts) (T : List (Addr × Str)) (pt : Option Addr) (W : WX) : TS :=
  (tSeq (tAsg (tOp (G.rBin K .Add) (tFn (S__law_kinds_a K) (fun _ _ => act__law_is_alone acts) W (tCons (tVar 0) tNil) tNil 1 0) (tFn (S__law_kinds_b K) (fun _ _ => act__law_is_alone acts) W (tCons (tVar 0) tNil) tNil 1 0)) (gName 2))
  (tSeq (tAsg (tOp (G.rBin K .Add) (tOp (G.rBin K .Add) (tVar 2) (tFn (S__law_kinds_c K) (fun _ _ => act__law_is_alone acts) W (tCons (tVar 0) tNil) tNil 1 0)) (tFn (S__law_kinds_d K) (fun _ _ => act__law_is_alone acts) W (tCons (tVar 0) tNil) tNil 1 0)) (gName 2))
  (tSeq (tAsg (tOp (G.rBin K .Add) (tVar 2) (tFn (S__law_kinds_e K) (fun _ _ => act__law_is_alone acts) W (tCons (tVar 0) tNil) tNil 1 0)) (gName 2))
  (tRet (tAndT K (tOp (G.rCmp K .Eq) (tVar 2) (tLst (tCons (tVar 1) tNil))) (tAndT K (tCB (G.rIsX K) (tCons (tVar 0) (tCons (tC (.ref (He.ga K "ReelError"))) tNil))) (tCB (G.rIsX K) (tCons (tVar 0) (tCons (tC (.ty "ValueError")) tNil)))))))))
theorem eq__law_is_alone (K : PySem.W.Frag) (cells : List (Str × Addr)) (acts : Acts) (T : List (Addr × Str)) (W : WX) : wSL (wS K 40 (gm__law_is_alone K cells acts T none) (defScope st__law_is_alone) W) (defBody st__law_is_alone) = t__law_is_alone K cells acts T none W := by kernel_rfl
-- READING law
abbrev fl_law (K : PySem.W.Frag) : List FnE := [⟨"_law_begun", 1, [], 2, S__law_begun K⟩, ⟨"_law_pick", 2, [], 3, S__law_pick K⟩, ⟨"_law_draw", 2, [], 2, S__law_draw K⟩, ⟨"_law_odd", 1, [], 4, S__law_odd K⟩, ⟨"_law_plain_a", 1, [], 2, S__law_plain_a K⟩, ⟨"_law_plain_b", 1, [], 2, S__law_plain_b K⟩, ⟨"_law_plain_c", 1, [], 2, S__law_plain_c K⟩, ⟨"_law_is_alone", 2, [], 3, S__law_is_alone K⟩, ⟨"_law_held", 1, [], 2, S__law_held K⟩, ⟨"_law_held_by_name", 1, [], 2, S__law_held_by_name K⟩]
abbrev act_law (acts : Acts) : Acts := fun g tl => false = true ∧ acts g tl
abbrev gm_law (K : PySem.W.Frag) (cells : List (Str × Addr)) (acts : Acts) (T : List (Addr × Str)) (pt : Option Addr) : Gam := gam (mdOf K) ["_law_script", "_law_state", "_law_turn", "_law_text_here", "_law_spot", "_law_item", "_law_some", "_law_name_here", "_law_caught", "_law_told"] (fl_law K) (act_law acts) ("law" ++ ".<locals>." : Str) cells T pt
def t_law (K : PySem.W.Frag) (cells : List (Str × Addr)) (acts : Acts) (T : List (Addr × Str)) (pt : Option Addr) (W : WX) : TS :=
  (tSeq (tAsg (tFn (S__law_begun K) (fun _ _ => act_law acts) W (tCons (tVar 0) tNil) tNil 1 0) (gName 1))
  (tSeq (tFor (iRng1 (tCons (tOp (G.rBin K .Add) (tC (.int 1)) (tCB (G.rMin2 K) (tCons (tCB (G.rLen K) (tCons (tVar 0) tNil)) (tCons (tC (.int 3)) tNil)))) tNil)) (gName 2)
  (tSeq (tAsg (tBM K "str" (G.rJoin K) (tC (.str "")) (tCons (tLc (iRng1 (tCons (tFn (S__law_draw K) (fun _ _ => act_law acts) W (tCons (tVar 1) (tCons (tC (.int 9)) tNil)) tNil 2 0) tNil)) (gName 4) tYes (tFn (S__law_pick K) noActs noW (tCons (tVar 1) (tCons (tLst (tCons (tC (.str "a")) (tCons (tC (.str "b")) (tCons (tC (.str " ")) (tCons (tC (.str "0")) (tCons (tC (.str "-")) tNil)))))) tNil)) tNil 2 0) [4]) tNil)) (gName 3))
  (tSeq (tAsg (tFn (S__law_pick K) (fun _ _ => act_law acts) W (tCons (tVar 1) (tCons (tLst (tCons (tFn (S__law_odd K) (fun _ _ => act_law acts) W (tCons (tVar 1) tNil) tNil 1 0) (tCons (tOp (G.rBin K .Sub) (tFn (S__law_draw K) (fun _ _ => act_law acts) W (tCons (tVar 1) (tCons (tC (.int 41)) tNil)) tNil 2 0) (tC (.int 20))) (tCons (tTup (tCons (tC (.int 0)) (tCons (tC (.int 1)) tNil))) (tCons (tC (.str "height")) (tCons (tOp (G.rBin K .Pow) (tC (.int 10)) (tC (.int 11))) tNil)))))) tNil)) tNil 2 0) (gName 5))
  (tSeq (tAsg (tOp (G.rBin K .Add) (tOp (G.rBin K .Add) (tFn (S__law_plain_a K) (fun _ _ => act_law acts) W (tCons (tVar 3) tNil) tNil 1 0) (tFn (S__law_plain_b K) (fun _ _ => act_law acts) W (tCons (tVar 3) tNil) tNil 1 0)) (tFn (S__law_plain_c K) (fun _ _ => act_law acts) W (tCons (tVar 3) tNil) tNil 1 0)) (gName 6))
  (tSeq (tIfS (tTest (tOp (G.rCmp K .NotEq) (tLc (iSeq K (tVar 6)) (gSeq K 2 (gCons (gName 7) (gCons (gName 8) gNil))) (tNot (tTru K (tFn (S__law_is_alone K) noActs noW (tCons (tVar 8) (tCons (tVar 7) tNil)) tNil 2 0))) (tC (.int 1)) [7, 8]) (tLst tNil)))
  (tRet (tC (.bl false)))
  tNext)
  (tFor (iSeq K (tOp (G.rBin K .Add) (tFn (S__law_held K) (fun _ _ => act_law acts) W (tCons (tVar 5) tNil) tNil 1 0) (tFn (S__law_held_by_name K) (fun _ _ => act_law acts) W (tCons (tVar 5) tNil) tNil 1 0))) (gSeq K 3 (gCons (gName 7) (gCons (gName 8) (gCons (gName 9) gNil))))
  (tIfS (tOr (tNot (tTru K (tFn (S__law_is_alone K) (fun _ _ => act_law acts) W (tCons (tVar 8) (tCons (tVar 7) tNil)) tNil 2 0))) (tTest (tOp (G.rCmp K .NotEq) (tCB (G.rRepr K) (tCons (tVar 9) tNil)) (tCB (G.rRepr K) (tCons (tVar 5) tNil)))))
  (tRet (tC (.bl false)))
  tNext)))))))
  (tRet (tC (.bl true)))))
theorem eq_law (K : PySem.W.Frag) (cells : List (Str × Addr)) (acts : Acts) (T : List (Addr × Str)) (W : WX) : wSL (wS K 40 (gm_law K cells acts T none) (defScope st_law) W) (defBody st_law) = t_law K cells acts T none W := by kernel_rfl

/-! ### each promise holds -/
section
variable {K : PySem.W.Frag} {cells : List (Str × Addr)} {acts : Acts} {T : List (Addr × Str)} {pt : Option Addr} {vs : List V} {H : Hp} {Q : VK} {E : XK} {W : WX}
theorem eqk_a : t__law_kinds_a K cells acts T pt W = rdK K Ga := by kernel_rfl
theorem eqk_b : t__law_kinds_b K cells acts T pt W = rdK K Gb := by kernel_rfl
theorem eqk_c : t__law_kinds_c K cells acts T pt W = rdK K Gc := by kernel_rfl
theorem eqk_d : t__law_kinds_d K cells acts T pt W = rdK K Gd := by kernel_rfl
theorem eqk_e : t__law_kinds_e K cells acts T pt W = rdK K Ge := by kernel_rfl
theorem eqp_a : t__law_plain_a K cells acts T pt W = rdP K (fun _ _ => act__law_plain_a acts) W Pa := by kernel_rfl
theorem eqp_b : t__law_plain_b K cells acts T pt W = rdP K (fun _ _ => act__law_plain_b acts) W Pb := by kernel_rfl
theorem eqp_c : t__law_plain_c K cells acts T pt W = rdP K (fun _ _ => act__law_plain_c acts) W Pc := by kernel_rfl
theorem eqh : t__law_held K cells acts T pt W = rdH K (fun _ _ => act__law_held acts) W false NI := by kernel_rfl
theorem eqh_n : t__law_held_by_name K cells acts T pt W = rdH K (fun _ _ => act__law_held_by_name acts) W true NI := by kernel_rfl
theorem ok__law_kinds_a (F : Fc K) (h : sp_kinds K Ga vs H Q E) : vs.length = 1 ∧ t__law_kinds_a K cells acts T pt (Ww E) (Dd Q) (L2.start ["_law_caught", "_law_found", "_law_each"] vs) H := by
  rw [eqk_a]
  exact ok_kinds F Ga nm_a (Nat.le_of_ble_eq_true rfl) h
theorem ok__law_kinds_b (F : Fc K) (h : sp_kinds K Gb vs H Q E) : vs.length = 1 ∧ t__law_kinds_b K cells acts T pt (Ww E) (Dd Q) (L2.start ["_law_caught", "_law_found", "_law_each"] vs) H := by
  rw [eqk_b]
  exact ok_kinds F Gb nm_b (Nat.le_of_ble_eq_true rfl) h
theorem ok__law_kinds_c (F : Fc K) (h : sp_kinds K Gc vs H Q E) : vs.length = 1 ∧ t__law_kinds_c K cells acts T pt (Ww E) (Dd Q) (L2.start ["_law_caught", "_law_found", "_law_each"] vs) H := by
  rw [eqk_c]
  exact ok_kinds F Gc nm_c (Nat.le_of_ble_eq_true rfl) h
theorem ok__law_kinds_d (F : Fc K) (h : sp_kinds K Gd vs H Q E) : vs.length = 1 ∧ t__law_kinds_d K cells acts T pt (Ww E) (Dd Q) (L2.start ["_law_caught", "_law_found", "_law_each"] vs) H := by
  rw [eqk_d]
  exact ok_kinds F Gd nm_d (Nat.le_of_ble_eq_true rfl) h
theorem ok__law_kinds_e (F : Fc K) (h : sp_kinds K Ge vs H Q E) : vs.length = 1 ∧ t__law_kinds_e K cells acts T pt (Ww E) (Dd Q) (L2.start ["_law_caught", "_law_found", "_law_each"] vs) H := by
  rw [eqk_e]
  exact ok_kinds F Ge nm_e (Nat.le_of_ble_eq_true rfl) h
theorem ok__law_plain_a (h : sp_plain K vs H Q E) : vs.length = 1 ∧ t__law_plain_a K cells acts T pt (Ww E) (Dd Q) (L2.start ["_law_text_here", "_law_found"] vs) H := by
  rw [eqp_a]
  exact ok_plain Pa (fun D m => nm_p D (List.mem_append_left _ m)) (Nat.le_of_ble_eq_true rfl) h
theorem ok__law_plain_b (h : sp_plain K vs H Q E) : vs.length = 1 ∧ t__law_plain_b K cells acts T pt (Ww E) (Dd Q) (L2.start ["_law_text_here", "_law_found"] vs) H := by
  rw [eqp_b]
  exact ok_plain Pb (fun D m => nm_p D (List.mem_append_right _ (List.mem_append_left _ m))) (Nat.le_of_ble_eq_true rfl) h
theorem ok__law_plain_c (h : sp_plain K vs H Q E) : vs.length = 1 ∧ t__law_plain_c K cells acts T pt (Ww E) (Dd Q) (L2.start ["_law_text_here", "_law_found"] vs) H := by
  rw [eqp_c]
  exact ok_plain Pc (fun D m => nm_p D (List.mem_append_right _ (List.mem_append_right _ m))) (Nat.le_of_ble_eq_true rfl) h
theorem ok__law_held (F : Fc K) (h : sp_held K vs H Q E) : vs.length = 1 ∧ t__law_held K cells acts T pt (Ww E) (Dd Q) (L2.start ["_law_item", "_law_found", "_law_caught"] vs) H := by
  rw [eqh]
  exact ok_held F h
theorem ok__law_held_by_name (F : Fc K) (h : sp_held K vs H Q E) : vs.length = 1 ∧ t__law_held_by_name K cells acts T pt (Ww E) (Dd Q) (L2.start ["_law_item", "_law_found", "_law_caught"] vs) H := by
  rw [eqh_n]
  exact ok_held F h
theorem add_ls {a b : Addr} {xs ys : List V} (ha : H a = some (.lst xs)) (hb : H b = some (.lst ys)) (l : xs.length + ys.length ≤ 1000) (q : ∀ p, H p = none → Q (.ref p) (upd H p (.lst (xs ++ ys)))) : G.rBin K .Add (.ref a) (.ref b) H Q :=
  .inl ⟨a, b, xs, ys, rfl, rfl, ha, hb, by rw [sizeLine_eq]; omega, q⟩
theorem add_strs {a b : Addr} {xs ys : List Str} (ha : H a = some (.lst (xs.map V.str))) (hb : H b = some (.lst (ys.map V.str))) (l : xs.length + ys.length ≤ 1000) (q : ∀ p, H p = none → Q (.ref p) (upd H p (.lst ((xs ++ ys).map V.str)))) : G.rBin K .Add (.ref a) (.ref b) H Q :=
  add_ls ha hb (by rw [List.length_map, List.length_map]; exact l) fun p hp => by
    rw [← List.map_append]
    exact q p hp
theorem nm_sh : ∀ D ∈ NM, SeqAt.shaped (.list [.str D]) = true := by decide +kernel
theorem ok__law_is_alone (F : Fc K) (h : sp_alone K vs H Q E) : vs.length = 2 ∧ t__law_is_alone K cells acts T pt (Ww E) (Dd Q) (L2.start ["_law_caught", "_law_name_here", "_law_kinds_here"] vs) H := by
  obtain ⟨a, D, rfl, hD, e, q⟩ := h
  refine ⟨rfl, ?_⟩
  rw [show L2.start ["_law_caught", "_law_name_here", "_law_kinds_here"] [V.ref a, V.str D] = [some (.ref a), some (.str D), none] from rfl]
  have la : (kd D Ga).length ≤ 18 := Nat.le_trans kd_len (Nat.le_of_ble_eq_true rfl)
  have lb : (kd D Gb).length ≤ 18 := Nat.le_trans kd_len (Nat.le_of_ble_eq_true rfl)
  have lc : (kd D Gc).length ≤ 18 := Nat.le_trans kd_len (Nat.le_of_ble_eq_true rfl)
  have ld : (kd D Gd).length ≤ 18 := Nat.le_trans kd_len (Nat.le_of_ble_eq_true rfl)
  have le : (kd D Ge).length ≤ 4 := Nat.le_trans kd_len (Nat.le_of_ble_eq_true rfl)
  unfold t__law_is_alone
  refine sq_asg ?_
  simp only [tWhile, tAnd, tOr, tNot, tTest, tTru, tOp, tUn, tVar, tC, tLst, tTup, tNil, tBM, tBM0, tCons, gSub, tCB, gName, tIf, tFn, tAndT, tOrT, tNotT, tChain, lc_go, iRng1, iRng2, iSeq, tSl, tPart, tNoPart, tAttr, List.getElem?_cons_zero, List.getElem?_cons_succ, List.set_cons_zero, List.set_cons_succ, Option.some.injEq, exists_eq_left']
  refine ⟨rfl, rfl, a, D, rfl, hD, e, fun l1 H1 n1 e1 s1 => ⟨rfl, rfl, a, D, rfl, hD, e.same s1, fun l2 H2 n2 e2 s2 => ?_⟩⟩
  refine add_strs (s2 _ _ e1) e2 (by omega) fun p hp => ?_
  have S1 := same_newS (o := .lst ((kd D Ga ++ kd D Gb).map V.str)) (s1.trans s2) hp
  have ep : (upd H2 p (.lst ((kd D Ga ++ kd D Gb).map V.str))) p = some (.lst ((kd D Ga ++ kd D Gb).map V.str)) := upd_same
  revert S1 ep
  generalize upd H2 p (.lst ((kd D Ga ++ kd D Gb).map V.str)) = H3
  intro S1 ep
  refine sq_asg ?_
  simp only [tWhile, tAnd, tOr, tNot, tTest, tTru, tOp, tUn, tVar, tC, tLst, tTup, tNil, tBM, tBM0, tCons, gSub, tCB, gName, tIf, tFn, tAndT, tOrT, tNotT, tChain, lc_go, iRng1, iRng2, iSeq, tSl, tPart, tNoPart, tAttr, List.getElem?_cons_zero, List.getElem?_cons_succ, List.set_cons_zero, List.set_cons_succ, Option.some.injEq, exists_eq_left']
  refine ⟨rfl, rfl, a, D, rfl, hD, e.same S1, fun l3 H4 n3 e3 s3 => add_strs (s3 _ _ ep) e3 (by rw [List.length_append]; omega) fun p2 hp2 => ?_⟩
  have S2 := same_newS (o := .lst ((kd D Ga ++ kd D Gb ++ kd D Gc).map V.str)) (S1.trans s3) hp2
  have ep2 : (upd H4 p2 (.lst ((kd D Ga ++ kd D Gb ++ kd D Gc).map V.str))) p2 = some (.lst ((kd D Ga ++ kd D Gb ++ kd D Gc).map V.str)) := upd_same
  revert S2 ep2
  generalize upd H4 p2 (.lst ((kd D Ga ++ kd D Gb ++ kd D Gc).map V.str)) = H5
  intro S2 ep2
  refine ⟨rfl, rfl, a, D, rfl, hD, e.same S2, fun l4 H6 n4 e4 s4 => add_strs (s4 _ _ ep2) e4 (by rw [List.length_append, List.length_append]; omega) fun p3 hp3 => ?_⟩
  have S3 := same_newS (o := .lst ((kd D Ga ++ kd D Gb ++ kd D Gc ++ kd D Gd).map V.str)) (S2.trans s4) hp3
  have ep3 : (upd H6 p3 (.lst ((kd D Ga ++ kd D Gb ++ kd D Gc ++ kd D Gd).map V.str))) p3 = some (.lst ((kd D Ga ++ kd D Gb ++ kd D Gc ++ kd D Gd).map V.str)) := upd_same
  revert S3 ep3
  generalize upd H6 p3 (.lst ((kd D Ga ++ kd D Gb ++ kd D Gc ++ kd D Gd).map V.str)) = H7
  intro S3 ep3
  refine sq_asg ?_
  simp only [tWhile, tAnd, tOr, tNot, tTest, tTru, tOp, tUn, tVar, tC, tLst, tTup, tNil, tBM, tBM0, tCons, gSub, tCB, gName, tIf, tFn, tAndT, tOrT, tNotT, tChain, lc_go, iRng1, iRng2, iSeq, tSl, tPart, tNoPart, tAttr, List.getElem?_cons_zero, List.getElem?_cons_succ, List.set_cons_zero, List.set_cons_succ, Option.some.injEq, exists_eq_left']
  refine ⟨rfl, rfl, a, D, rfl, hD, e.same S3, fun l5 H8 n5 e5 s5 => add_strs (s5 _ _ ep3) e5 (by rw [List.length_append, List.length_append, List.length_append]; omega) fun p4 hp4 => ?_⟩
  rw [kd_all D hD]
  have S4 := same_newS (o := .lst (([D] : List Str).map V.str)) (S3.trans s5) hp4
  have ep4 : (upd H8 p4 (.lst (([D] : List Str).map V.str))) p4 = some (.lst [V.str D]) := upd_same
  revert S4 ep4
  generalize upd H8 p4 (.lst (([D] : List Str).map V.str)) = H9
  intro S4 ep4
  simp only [tSeq, tWhile, tAnd, tOr, tNot, tTest, tTru, tOp, tUn, tVar, tC, tLst, tTup, tNil, tAsg, tBM, tBM0, tCons, gSub, tIfS, tCB, gName, tRet, tRetN, tNext, tIf, tFn, tDrop, tRaise0, tAndT, tOrT, tNotT, tChain, tAug, tPar, tPar3, for_go, lc_go, iRng1, iRng2, iSeq, tSl, tPart, tNoPart, tRaiseA, tAttr, List.getElem?_cons_zero, List.getElem?_cons_succ, List.set_cons_zero, List.set_cons_succ, Option.some.injEq, exists_eq_left']
  refine ⟨small rfl, fun p5 hp5 => .inr ⟨.list [.str D], .list [.str D], .lst (.inl (.inl (keep_new ep4 hp5))) (.cons (.str D) .nil), .lst (.inl (.inl upd_same)) (.cons (.str D) .nil), nm_sh D hD, nm_sh D hD, ?_⟩⟩
  have S5 := same_newS (o := .lst [V.str D]) S4 hp5
  rw [SeqAt.eqv_refl _ (SeqAt.canLay_of_shaped (nm_sh D hD))]
  refine ⟨true, rfl, ?_⟩
  rw [if_pos rfl]
  refine isx_re F (e.same S5) hD ⟨true, rfl, ?_⟩
  rw [if_pos rfl]
  exact isx_ve F (e.same S5) hD (q _ S5)
end
end K00

set_option Elab.async false
set_option linter.all false
set_option maxRecDepth 100000
set_option maxHeartbeats 8000000
namespace K00
open PySem PySem.Spec PyProof.Rows L2 LamX G Pk
section
variable {K : PySem.W.Frag} {cells : List (Str × Addr)} {acts : Acts} {T : List (Addr × Str)} {pt : Option Addr} {vs : List V} {H H1 : Hp} {Q : VK} {E : XK} {W : WX} {st La Ca : Addr}
theorem Rp.dr {v : V} (h : Rp K st La H v) (d : Dr st La H H1) : Rp K st La H1 v := by
  obtain ⟨t, g⟩ := h
  exact ⟨t, fun H' Q d2 q => g H' Q (d.trans d2) q⟩
theorem rp_non : Rp K st La H .non := ⟨_, fun H' Q _ q => .inr (.inl ⟨_, rfl, q⟩)⟩
theorem rp_bl {b : Bool} : Rp K st La H (.bl b) := ⟨_, fun H' Q _ q => .inr (.inl ⟨_, rfl, q⟩)⟩
theorem rp_int {i : Int} (h : i.natAbs < 2 ^ 64) : Rp K st La H (.int i) := ⟨_, fun H' Q _ q => .inr (.inl ⟨_, rfl, by
  by_cases c : i.natAbs = 0
  · rw [c]
    decide
  · exact Nat.lt_trans ((Nat.log2_lt c).mpr h) (by decide), q⟩)⟩
theorem rp_str {x : Str} (h : (reprText x).length ≤ 1000) : Rp K st La H (.str x) := ⟨_, fun H' Q _ q => .inr (.inl ⟨_, rfl, Nat.le_trans h (by rw [sizeLine_eq]; decide), q⟩)⟩
theorem rp_dp {a : Addr} (d : PyData) (h : ∀ H', Dr st La H H' → Dp K H' (.ref a) d) (h1 : d.showable = true) (h2 : d.hasDict = false) (h3 : d.depth ≤ 30) (h4 : d.shown.length ≤ 1000) : Rp K st La H (.ref a) :=
  ⟨_, fun H' Q dr q => .inl ⟨_, d, rfl, h H' dr, h1, h2, h3, Nat.le_trans h4 (by rw [sizeLine_eq]; decide), ⟨a, rfl⟩, q⟩⟩
theorem rp_d0 {a : Addr} (e : H a = some (.dK [])) (n1 : a ≠ st) (n2 : a ≠ La) : Rp K st La H (.ref a) := ⟨_, fun H' Q dr q => .inr (.inr ⟨a, rfl, .inl ⟨dr _ _ e n1 n2, q⟩⟩)⟩
theorem rp_d1 {a : Addr} (e : H a = some (.dK [(.inl 0, .int 0)])) (n1 : a ≠ st) (n2 : a ≠ La) : Rp K st La H (.ref a) := ⟨_, fun H' Q dr q => .inr (.inr ⟨a, rfl, .inr ⟨dr _ _ e n1 n2, q⟩⟩)⟩
theorem rp_l0 {a : Addr} (e : H a = some (.lst [])) (n1 : a ≠ st) (n2 : a ≠ La) : Rp K st La H (.ref a) :=
  rp_dp (.list []) (fun H' dr => .lst (.inl (.inl (dr _ _ e n1 n2))) .nil) (by decide +kernel) (by decide +kernel) (by decide +kernel) (by decide +kernel)
theorem rp_t1 {a : Addr} (e : H a = some (.tup [.non])) (n1 : a ≠ st) (n2 : a ≠ La) : Rp K st La H (.ref a) :=
  rp_dp (.tuple [.none]) (fun H' dr => .tup (.inl (.inl (dr _ _ e n1 n2))) (.cons .non .nil)) (by decide +kernel) (by decide +kernel) (by decide +kernel) (by decide +kernel)
theorem rp_t2 {a : Addr} (e : H a = some (.tup [.str "a", .int 1])) (n1 : a ≠ st) (n2 : a ≠ La) : Rp K st La H (.ref a) :=
  rp_dp (.tuple [.str "a", .int 1]) (fun H' dr => .tup (.inl (.inl (dr _ _ e n1 n2))) (.cons (.str _) (.cons (.int _) .nil))) (by decide +kernel) (by decide +kernel) (by decide +kernel) (by decide +kernel)
theorem rp_t3 {a : Addr} (e : H a = some (.tup [.bl true])) (n1 : a ≠ st) (n2 : a ≠ La) : Rp K st La H (.ref a) :=
  rp_dp (.tuple [.bool true]) (fun H' dr => .tup (.inl (.inl (dr _ _ e n1 n2))) (.cons (.bl _) .nil)) (by decide +kernel) (by decide +kernel) (by decide +kernel) (by decide +kernel)
theorem rp_t4 {a : Addr} (e : H a = some (.tup [.int 0, .int 1])) (n1 : a ≠ st) (n2 : a ≠ La) : Rp K st La H (.ref a) :=
  rp_dp (.tuple [.int 0, .int 1]) (fun H' dr => .tup (.inl (.inl (dr _ _ e n1 n2))) (.cons (.int _) (.cons (.int _) .nil))) (by decide +kernel) (by decide +kernel) (by decide +kernel) (by decide +kernel)
theorem rp_l2 {a b : Addr} (e : H a = some (.lst [.ref b])) (e2 : H b = some (.lst [.int 0])) (n1 : a ≠ st) (n2 : a ≠ La) (m1 : b ≠ st) (m2 : b ≠ La) : Rp K st La H (.ref a) :=
  rp_dp (.list [.list [.int 0]]) (fun H' dr => .lst (.inl (.inl (dr _ _ e n1 n2))) (.cons (.lst (.inl (.inl (dr _ _ e2 m1 m2))) (.cons (.int _) .nil)) .nil)) (by decide +kernel) (by decide +kernel) (by decide +kernel) (by decide +kernel)
theorem ok__law_odd (h : sp_odd K vs H Q E) : vs.length = 1 ∧ t__law_odd K cells acts T pt (Ww E) (Dd Q) (L2.start ["_law_state"] vs) H := by
  obtain ⟨st, La, Ca, t, rfl, tl, d, q⟩ := h
  refine ⟨rfl, ?_⟩
  rw [show L2.start ["_law_state"] [V.ref st] = [some (.ref st)] from rfl]
  unfold t__law_odd
  simp only [tSeq, tWhile, tAnd, tOr, tNot, tTest, tTru, tOp, tUn, tVar, tC, tLst, tTup, tNil, tAsg, tBM, tBM0, tCons, gSub, tIfS, tCB, gName, tRet, tRetN, tNext, tIf, tFn, tDrop, tRaise0, tAndT, tOrT, tNotT, tChain, tAug, tPar, tPar3, for_go, lc_go, iRng1, iRng2, iSeq, tSl, tPart, tNoPart, tRaiseA, tAttr, List.getElem?_cons_zero, List.getElem?_cons_succ, List.set_cons_zero, List.set_cons_succ, Option.some.injEq, exists_eq_left', tDNewK]
  refine ⟨small rfl, fun l1 h1 d1 g1 => ⟨small rfl, fun t1 h2 => ⟨small rfl, fun t2 h3 => ⟨small rfl, fun l3 h4 => ⟨small rfl, fun l2 h5 d2 g2 => ?_⟩⟩⟩⟩⟩
  have S1 : Same H _ := same_new (o := .lst []) (Same.refl H) h1
  have S2 := same_newS (o := .dK []) S1 g1
  have S3 := same_newS (o := .tup [V.non]) S2 h2
  have S4 := same_newS (o := .tup [V.str "a", V.int 1]) S3 h3
  have S5 := same_newS (o := .lst [V.int 0]) S4 h4
  have S6 := same_newS (o := .lst [V.ref l3]) S5 h5
  have k1 : (upd H l1 (.lst [])) l1 = some (.lst []) := upd_same
  have k2 : (upd (upd H l1 (.lst [])) d1 (.dK [])) d1 = some (.dK []) := upd_same
  have k3 : (upd (upd (upd H l1 (.lst [])) d1 (.dK [])) t1 (.tup [V.non])) t1 = some (.tup [V.non]) := upd_same
  have k4 : (upd (upd (upd (upd H l1 (.lst [])) d1 (.dK [])) t1 (.tup [V.non])) t2 (.tup [V.str "a", V.int 1])) t2 = some (.tup [V.str "a", V.int 1]) := upd_same
  have k5 : (upd (upd (upd (upd (upd H l1 (.lst [])) d1 (.dK [])) t1 (.tup [V.non])) t2 (.tup [V.str "a", V.int 1])) l3 (.lst [V.int 0])) l3 = some (.lst [V.int 0]) := upd_same
  have k6 : (upd (upd (upd (upd (upd (upd H l1 (.lst [])) d1 (.dK [])) t1 (.tup [V.non])) t2 (.tup [V.str "a", V.int 1])) l3 (.lst [V.int 0])) l2 (.lst [V.ref l3])) l2 = some (.lst [V.ref l3]) := upd_same
  have k1' := keep_new (u := .dK []) k1 g1
  have k1'' := keep_new (u := .tup [V.non]) k1' h2
  have k1''' := keep_new (u := .tup [V.str "a", V.int 1]) k1'' h3
  have k1'''' := keep_new (u := .lst [V.int 0]) k1''' h4
  have k1s := keep_new (u := .lst [V.ref l3]) k1'''' h5
  have k2s := keep_new (u := .lst [V.ref l3]) (keep_new (u := .lst [V.int 0]) (keep_new (u := .tup [V.str "a", V.int 1]) (keep_new (u := .tup [V.non]) k2 h2) h3) h4) h5
  have k3s := keep_new (u := .lst [V.ref l3]) (keep_new (u := .lst [V.int 0]) (keep_new (u := .tup [V.str "a", V.int 1]) k3 h3) h4) h5
  have k4s := keep_new (u := .lst [V.ref l3]) (keep_new (u := .lst [V.int 0]) k4 h4) h5
  have k5s := keep_new (u := .lst [V.ref l3]) k5 h5
  have D1 := drw_ne d h1
  have D2 := drw_ne (drw_same d S1) g1
  have D3 := drw_ne (drw_same d S2) h2
  have D4 := drw_ne (drw_same d S3) h3
  have D5 := drw_ne (drw_same d S4) h4
  have D6 := drw_ne (drw_same d S5) h5
  have D7 := drw_ne (drw_same d S6) g2
  revert k6 k1s k2s k3s k4s k5s S6 g2
  generalize upd (upd (upd (upd (upd (upd H l1 (.lst [])) d1 (.dK [])) t1 (.tup [V.non])) t2 (.tup [V.str "a", V.int 1])) l3 (.lst [V.int 0])) l2 (.lst [V.ref l3]) = H6
  intro g2 S6 k6 k1s k2s k3s k4s k5s
  show tPairs _ _ _ _
  simp only [tPairs, tSeq, tWhile, tAnd, tOr, tNot, tTest, tTru, tOp, tUn, tVar, tC, tLst, tTup, tNil, tAsg, tBM, tBM0, tCons, gSub, tIfS, tCB, gName, tRet, tRetN, tNext, tIf, tFn, tDrop, tRaise0, tAndT, tOrT, tNotT, tChain, tAug, tPar, tPar3, for_go, lc_go, iRng1, iRng2, iSeq, tSl, tPart, tNoPart, tRaiseA, tAttr, List.getElem?_cons_zero, List.getElem?_cons_succ, List.set_cons_zero, List.set_cons_succ, Option.some.injEq, exists_eq_left']
  refine ⟨upd_same, [(.inl 0, .int 0)], rfl, Nat.le_of_ble_eq_true rfl, ?_⟩
  rw [upd_upd, show mergeK [] [((Sum.inl 0 : Key), V.int 0)] = [((Sum.inl 0 : Key), V.int 0)] from rfl]
  refine ⟨small rfl, fun t3 h7 => ⟨small rfl, fun p hp => ⟨rfl, rfl, ?_⟩⟩⟩
  have k7 : (upd H6 d2 (.dK [((Sum.inl 0 : Key), V.int 0)])) d2 = some (.dK [((Sum.inl 0 : Key), V.int 0)]) := upd_same
  have S7 := same_newS (o := .dK [((Sum.inl 0 : Key), V.int 0)]) S6 g2
  have S8 := same_newS (o := .tup [V.bl true]) S7 h7
  have D8 := drw_ne (drw_same d S7) h7
  have k8 : (upd (upd H6 d2 (.dK [((Sum.inl 0 : Key), V.int 0)])) t3 (.tup [V.bl true])) t3 = some (.tup [V.bl true]) := upd_same
  have b1 := keep_new (u := .tup [V.bl true]) (keep_new (u := .dK [((Sum.inl 0 : Key), V.int 0)]) k1s g2) h7
  have b2 := keep_new (u := .tup [V.bl true]) (keep_new (u := .dK [((Sum.inl 0 : Key), V.int 0)]) k2s g2) h7
  have b3 := keep_new (u := .tup [V.bl true]) (keep_new (u := .dK [((Sum.inl 0 : Key), V.int 0)]) k3s g2) h7
  have b4 := keep_new (u := .tup [V.bl true]) (keep_new (u := .dK [((Sum.inl 0 : Key), V.int 0)]) k4s g2) h7
  have b5 := keep_new (u := .tup [V.bl true]) (keep_new (u := .dK [((Sum.inl 0 : Key), V.int 0)]) k5s g2) h7
  have b6 := keep_new (u := .tup [V.bl true]) (keep_new (u := .dK [((Sum.inl 0 : Key), V.int 0)]) k6 g2) h7
  have b7 := keep_new (u := .tup [V.bl true]) k7 h7
  revert k8 b1 b2 b3 b4 b5 b6 b7 S8 hp
  generalize upd (upd H6 d2 (.dK [((Sum.inl 0 : Key), V.int 0)])) t3 (.tup [V.bl true]) = H8
  intro hp S8 k8 b1 b2 b3 b4 b5 b6 b7
  refine pick_new (drw_same d S8) (by omega) hp (Nat.le_of_ble_eq_true rfl) (Nat.le_of_ble_eq_true rfl) fun y H9 hy d9 f9 => ?_
  refine q y H9 ?_ d9 ((same_dr S8).trans f9)
  refine Rp.dr (H := H8) ?_ f9
  simp only [List.mem_cons, List.not_mem_nil, or_false] at hy
  rcases hy with rfl | rfl | rfl | rfl | rfl | rfl | rfl | rfl | rfl | rfl | rfl | rfl
  · exact rp_non
  · exact rp_bl
  · exact rp_bl
  · exact rp_str (by decide +kernel)
  · exact rp_str (by decide +kernel)
  · exact rp_l0 b1 D1.1 D1.2.1
  · exact rp_d0 b2 D2.1 D2.2.1
  · exact rp_t1 b3 D3.1 D3.2.1
  · exact rp_t2 b4 D4.1 D4.2.1
  · exact rp_l2 b6 b5 D6.1 D6.2.1 D5.1 D5.2.1
  · exact rp_d1 b7 D7.1 D7.2.1
  · exact rp_t3 k8 D8.1 D8.2.1
end
end K00

set_option Elab.async false
set_option linter.all false
set_option maxRecDepth 100000
set_option maxHeartbeats 8000000
namespace K00
open PySem PySem.Spec PyProof.Rows L2 LamX G Pk
section
variable {K : PySem.W.Frag} {cells : List (Str × Addr)} {acts : Acts} {T : List (Addr × Str)} {pt : Option Addr} {vs : List V} {H H1 : Hp} {Q : VK} {E : XK} {W : WX} {st La Ca : Addr} {t : Int}
theorem five_len : ∀ y ∈ (["a", "b", " ", "0", "-"] : List Str), y.length = 1 := by decide +kernel
theorem sum_five : ∀ {ys : List Str}, (∀ y ∈ ys, y ∈ (["a", "b", " ", "0", "-"] : List Str)) → (ys.map (·.length)).sum = ys.length
  | [], _ => rfl
  | y :: ys, h => by
    rw [List.map_cons, List.sum_cons, sum_five fun z hz => h z (List.mem_cons_of_mem _ hz), List.length_cons, five_len y (h y List.mem_cons_self)]
    omega
theorem len_e0 : ("" : Str).length = 0 := by decide +kernel
theorem join5 {cnt : Int} {ix : Nat} {σ : L2.St} {Q' : VK} (d : Drw st La Ca H t) (tl : t ≤ 2 ^ 39 + 100000) (hσ : σ[1]? = some (some (.ref st))) (hix : 1 < ix) (c0 : 0 ≤ cnt) (c1 : cnt ≤ 1000)
    (q : ∀ s H', Drw st La Ca H' (t + cnt) → Dr st La H H' → Q' (.str s) H') :
    LcGo (Itr 0 cnt.toNat) (gName ix) tYes (tFn spPick noActs noW (tCons (tVar 1) (tCons (tLst (tCons (tC (.str "a")) (tCons (tC (.str "b")) (tCons (tC (.str " ")) (tCons (tC (.str "0")) (tCons (tC (.str "-")) tNil)))))) tNil)) tNil 2 0) [ix] σ (fun v H2 => G.rJoin K (.str "") [v] H2 Q') H := by
  refine lc_rng (fun D k acc H' => Drw st La Ca H' (t + k) ∧ Dr st La H H' ∧ H D = none ∧ ∃ ys : List Str, acc = ys.map V.str ∧ ∀ y ∈ ys, y ∈ (["a", "b", " ", "0", "-"] : List Str)) (fun D hD => ⟨(d.new hD).mono (by omega), (Dr.refl _ _ _).new hD, hD, [], rfl, (fun y hy => nomatch hy)⟩) ?_ ?_
  · rintro D k acc H' hk hA hz ⟨dk, fk, hD, ys, rfl, hys⟩
    obtain ⟨n1, n2, n3⟩ := drw_ne d hD
    have h0 : ((wipe σ [ix]).set ix (some (V.int (0 + k))))[1]? = some (some (.ref st)) := by
      show ((σ.set ix none).set ix _)[1]? = _
      rw [List.getElem?_set_ne (by omega), List.getElem?_set_ne (by omega)]
      exact hσ
    simp only [tYes, ↓reduceIte, tSeq, tWhile, tAnd, tOr, tNot, tTest, tTru, tOp, tUn, tVar, tC, tLst, tTup, tNil, tAsg, tBM, tBM0, tCons, gSub, tIfS, tCB, gName, tRet, tRetN, tNext, tIf, tFn, tDrop, tRaise0, tAndT, tOrT, tNotT, tChain, tAug, tPar, tPar3, for_go, lc_go, iRng1, iRng2, iSeq, tSl, tPart, tNoPart, tRaiseA, tAttr, List.getElem?_cons_zero, List.getElem?_cons_succ, List.set_cons_zero, List.set_cons_succ, Option.some.injEq, exists_eq_left']
    refine ⟨_, h0, small rfl, fun p hp => ⟨rfl, rfl, pick_new dk (by omega) hp (Nat.le_of_ble_eq_true rfl) (Nat.le_of_ble_eq_true rfl) fun x H'' hx d' f' => ?_⟩⟩
    have hA' := f' D _ hA n1 n2
    obtain ⟨y, rfl, hy⟩ : ∃ y : Str, x = V.str y ∧ y ∈ (["a", "b", " ", "0", "-"] : List Str) := by
      simp only [List.mem_cons, List.not_mem_nil, or_false] at hx
      rcases hx with rfl | rfl | rfl | rfl | rfl
      · exact ⟨_, rfl, by simp⟩
      · exact ⟨_, rfl, by simp⟩
      · exact ⟨_, rfl, by simp⟩
      · exact ⟨_, rfl, by simp⟩
      · exact ⟨_, rfl, by simp⟩
    refine Lp.put hA' hz (by omega) ⟨(drw_put d' n1 n2 n3).mono (by omega), dr_over (fk.trans f') hD, hD, ys ++ [y], by rw [List.map_append]; rfl, fun v hv => ?_⟩
    rcases List.mem_append.mp hv with h | h
    · exact hys v h
    · rw [List.mem_singleton.mp h]
      exact hy
  · rintro D acc H' hl hA ⟨d', f', hD, ys, rfl, hys⟩
    rw [List.length_map] at hl
    exact ⟨"", D, ys, rfl, rfl, .inl (.inl (.inl hA)), by rw [sum_five hys, len_e0]; omega, q _ _ (d'.mono (by omega)) f'⟩
/-- [1 for name, caught in pairs if not is_alone(..)] != [] is False -/
theorem alone_go {l : Addr} {ps : List Addr} {o0 o1 o2 o3 o4 o5 o7 o8 o9 : Option V} {k : Bool → Hp → Prop} (hl : H l = some (.lst (ps.map V.ref))) (hp : ∀ p ∈ ps, PrA K H p) (go : ∀ H', Same H H' → k false H') :
    (tTest (tOp (G.rCmp K .NotEq) (tLc (iSeq K (tVar 6)) (gSeq K 2 (gCons (gName 7) (gCons (gName 8) gNil))) (tNot (tTru K (tFn (S__law_is_alone K) noActs noW (tCons (tVar 8) (tCons (tVar 7) tNil)) tNil 2 0))) (tC (.int 1)) [7, 8]) (tLst tNil))) [o0, o1, o2, o3, o4, o5, some (.ref l), o7, o8, o9] H k := by
  simp only [tSeq, tWhile, tAnd, tOr, tNot, tTest, tTru, tOp, tUn, tVar, tC, tLst, tTup, tNil, tAsg, tBM, tBM0, tCons, gSub, tIfS, tCB, gName, tRet, tRetN, tNext, tIf, tFn, tDrop, tRaise0, tAndT, tOrT, tNotT, tChain, tAug, tPar, tPar3, for_go, lc_go, iRng1, iRng2, iSeq, tSl, tPart, tNoPart, tRaiseA, tAttr, List.getElem?_cons_zero, List.getElem?_cons_succ, List.set_cons_zero, List.set_cons_succ, Option.some.injEq, exists_eq_left']
  refine .inl ⟨_, rfl, l, rfl, ⟨_, .inl (.inl hl)⟩, fun D hD => ?_⟩
  refine ⟨fun i m H' => i + m = ps.length ∧ Same (upd H D (.lst [])) H', ⟨ps.length, by omega, Same.refl _⟩, fun i m H' ⟨e, s⟩ => ?_⟩
  have s1 : Same H H' := (same_new (Same.refl H) hD).trans s
  have sq : SqL K H' l (ps.map V.ref) := .inl (.inl (s1 _ _ hl))
  by_cases c : i < ps.length
  · refine .inr ⟨⟨_, (ps.map V.ref)[i]'(by rw [List.length_map]; exact c), sq, List.getElem?_eq_getElem _⟩, fun H'' => Same (upd H D (.lst [])) H'', fun H'' q => ⟨m - 1, by omega, by omega, q⟩, fun x H'' ⟨e3, e4⟩ => ?_⟩
    subst e3
    have hx := e4 _ sq
    rw [List.getElem?_map] at hx
    obtain ⟨p, h1, rfl⟩ := Option.map_eq_some_iff.mp hx
    obtain ⟨D', a, hD', ep, ea⟩ := (hp p (List.mem_of_getElem? h1)).same s1
    refine .inl ⟨p, _, rfl, .inl (.inl ep), rfl, _, _, rfl, _, _, rfl, rfl, rfl, ?_⟩
    show tNot (tTru K (tFn (S__law_is_alone K) noActs noW (tCons (tVar 8) (tCons (tVar 7) tNil)) tNil 2 0)) [o0, o1, o2, o3, o4, o5, some (.ref l), some (.str D'), some (.ref a), o9] _ _
    simp only [tSeq, tWhile, tAnd, tOr, tNot, tTest, tTru, tOp, tUn, tVar, tC, tLst, tTup, tNil, tAsg, tBM, tBM0, tCons, gSub, tIfS, tCB, gName, tRet, tRetN, tNext, tIf, tFn, tDrop, tRaise0, tAndT, tOrT, tNotT, tChain, tAug, tPar, tPar3, for_go, lc_go, iRng1, iRng2, iSeq, tSl, tPart, tNoPart, tRaiseA, tAttr, List.getElem?_cons_zero, List.getElem?_cons_succ, List.set_cons_zero, List.set_cons_succ, Option.some.injEq, exists_eq_left']
    refine ⟨rfl, rfl, a, D', rfl, hD', ea, fun H3 s3 => ⟨_, rfl, ?_⟩⟩
    rw [if_neg (by simp)]
    exact s.trans s3
  · refine .inl ⟨⟨_, sq, by rw [List.length_map]; omega⟩, ?_⟩
    refine ⟨small rfl, fun p hp2 => ?_⟩
    have eD : H' D = some (.lst []) := s _ _ upd_same
    refine ne_nil (zs := []) (.inl (.inl (keep_new eD hp2))) upd_same ⟨_, rfl, ?_⟩
    exact go _ (same_newS s1 hp2)
/-- the triples, one by one -/
theorem trip_go {l : Addr} {ps : List Addr} {v : V} {o0 o1 o2 o3 o4 o6 o7 o8 o9 : Option V} {D : Ends} (hl : H l = some (.lst (ps.map V.ref))) (hp : ∀ p ∈ ps, TrA K v H p) (rp : Rp K st La H v)
    (nx : ∀ H' p7 p8 p9, Same H H' → D.nx [o0, o1, o2, o3, o4, some v, o6, p7, p8, p9] H') :
    ForGo (Itl K l) (gSeq K 3 (gCons (gName 7) (gCons (gName 8) (gCons (gName 9) gNil)))) (tIfS (tOr (tNot (tTru K (tFn (S__law_is_alone K) (fun _ _ => act_law acts) W (tCons (tVar 8) (tCons (tVar 7) tNil)) tNil 2 0))) (tTest (tOp (G.rCmp K .NotEq) (tCB (G.rRepr K) (tCons (tVar 9) tNil)) (tCB (G.rRepr K) (tCons (tVar 5) tNil)))))
  (tRet (tC (.bl false)))
  tNext) D [o0, o1, o2, o3, o4, some v, o6, o7, o8, o9] H := by
  refine ⟨fun i m σ H' => i + m = ps.length ∧ Same H H' ∧ ∃ p7 p8 p9, σ = [o0, o1, o2, o3, o4, some v, o6, p7, p8, p9], ⟨ps.length, by omega, Same.refl H, _, _, _, rfl⟩, ?_⟩
  rintro i m σ H' ⟨e, s, p7, p8, p9, rfl⟩
  have sq : SqL K H' l (ps.map V.ref) := .inl (.inl (s _ _ hl))
  by_cases c : i < ps.length
  · refine .inr ⟨⟨_, (ps.map V.ref)[i]'(by rw [List.length_map]; exact c), sq, List.getElem?_eq_getElem _⟩, fun σ' H'' => Same H H'' ∧ ∃ p7 p8 p9, σ' = [o0, o1, o2, o3, o4, some v, o6, p7, p8, p9], fun σ' H'' q => ⟨m - 1, by omega, by omega, q⟩, fun x H'' ⟨e3, e4⟩ => ?_⟩
    subst e3
    have hx := e4 _ sq
    rw [List.getElem?_map] at hx
    obtain ⟨p, h1, rfl⟩ := Option.map_eq_some_iff.mp hx
    obtain ⟨D', a, hD', ep, ea⟩ := (hp p (List.mem_of_getElem? h1)).same s
    refine .inl ⟨p, _, rfl, .inl (.inl ep), rfl, _, _, rfl, _, _, rfl, _, _, rfl, rfl, ?_⟩
    show tIfS _ _ _ _ [o0, o1, o2, o3, o4, some v, o6, some (.str D'), some (.ref a), some v] _
    refine if_go ?_
    simp only [tWhile, tAnd, tOr, tNot, tTest, tTru, tOp, tUn, tVar, tC, tLst, tTup, tNil, tBM, tBM0, tCons, gSub, tCB, gName, tIf, tFn, tAndT, tOrT, tNotT, tChain, lc_go, iRng1, iRng2, iSeq, tSl, tPart, tNoPart, tAttr, List.getElem?_cons_zero, List.getElem?_cons_succ, List.set_cons_zero, List.set_cons_succ, Option.some.injEq, exists_eq_left']
    refine ⟨rfl, rfl, a, D', rfl, hD', ea, fun H3 s3 => ⟨_, rfl, ?_⟩⟩
    rw [if_neg (by simp)]
    obtain ⟨tx, g⟩ := rp.dr (same_dr (st := st) (La := La) (s.trans s3))
    refine g _ _ (Dr.refl _ _ _) (g _ _ (Dr.refl _ _ _) (ne_str ⟨_, rfl, ?_⟩))
    rw [if_neg (by simp)]
    exact ⟨s.trans s3, _, _, _, rfl⟩
  · exact .inl ⟨⟨_, sq, by rw [List.length_map]; omega⟩, nx H' _ _ _ s⟩
theorem for_s {H : Hp} {wi : TI} {g : TG} {tb : TS} {D : Ends} {σ : L2.St} (h : wi σ H fun J H1 => ForGo J g tb D σ H1) : tFor wi g tb D σ H := h
theorem ok_law (F : Fc K) (h : sp_law K vs H Q E) : vs.length = 1 ∧ t_law K cells acts T pt (Ww E) (Dd Q) (L2.start ["_law_script", "_law_state", "_law_turn", "_law_text_here", "_law_spot", "_law_item", "_law_some", "_law_name_here", "_law_caught", "_law_told"] vs) H := by
  obtain ⟨a, zs, rfl, ha, hl, q⟩ := h
  refine ⟨rfl, ?_⟩
  rw [show L2.start ["_law_script", "_law_state", "_law_turn", "_law_text_here", "_law_spot", "_law_item", "_law_some", "_law_name_here", "_law_caught", "_law_told"] [V.ref a] = [some (.ref a), none, none, none, none, none, none, none, none, none] from rfl]
  unfold t_law
  refine sq_asg ⟨_, rfl, rfl, rfl, a, zs, rfl, ha, by omega, fun st La Ca H1 n1 n2 s1 d1 => ?_⟩
  refine sq_for ?_
  simp only [tWhile, tAnd, tOr, tNot, tTest, tTru, tOp, tUn, tVar, tC, tLst, tTup, tNil, tBM, tBM0, tCons, gSub, tCB, gName, tIf, tFn, tAndT, tOrT, tNotT, tChain, lc_go, iRng1, iRng2, iSeq, tSl, tPart, tNoPart, tAttr, List.getElem?_cons_zero, List.getElem?_cons_succ, List.set_cons_zero, List.set_cons_succ, Option.some.injEq, exists_eq_left']
  refine len_lst (sql_same ha s1) ?_
  rw [List.length_map]
  refine min_int (G.add_int ⟨_, rfl, by split <;> omega, by split <;> omega, ?_⟩)
  have hn : (1 + if (3 : Int) < (zs.length : Int) then 3 else (zs.length : Int)).toNat ≤ 4 := by split <;> omega
  revert hn
  generalize (1 + if (3 : Int) < (zs.length : Int) then 3 else (zs.length : Int)).toNat = n
  intro hn
  refine go_rng (fun m σ H' => Drw st La Ca H' (100 * m) ∧ ∃ o2 o3 o4 o5 o6 o7 o8 o9 : Option V, σ = [some (.ref a), some (.ref st), o2, o3, o4, o5, o6, o7, o8, o9]) ⟨d1.mono (by omega), _, _, _, _, _, _, _, _, rfl⟩ ?_ ?_
  · rintro m σ H2 hm ⟨d2, o2, o3, o4, o5, o6, o7, o8, o9, rfl⟩
    try simp only [List.set_cons_zero, List.set_cons_succ]
    refine sq_asg ?_
    simp only [tWhile, tAnd, tOr, tNot, tTest, tTru, tOp, tUn, tVar, tC, tLst, tTup, tNil, tBM, tBM0, tCons, gSub, tCB, gName, tIf, tFn, tAndT, tOrT, tNotT, tChain, lc_go, iRng1, iRng2, iSeq, tSl, tPart, tNoPart, tAttr, List.getElem?_cons_zero, List.getElem?_cons_succ, List.set_cons_zero, List.set_cons_succ, Option.some.injEq, exists_eq_left']
    refine ⟨rfl, rfl, rfl, st, La, Ca, 9, _, rfl, by decide, by decide, by omega, d2, fun r H3 r0 r1 d3 f3 => ⟨r, rfl, by omega, by omega, ?_⟩⟩
    refine join5 d3 (by omega) rfl (by decide) r0 (by omega) fun s H4 d4 f4 => ?_
    try dsimp only [List.set_cons_zero, List.set_cons_succ]
    refine sq_asg ?_
    simp only [tWhile, tAnd, tOr, tNot, tTest, tTru, tOp, tUn, tVar, tC, tLst, tTup, tNil, tBM, tBM0, tCons, gSub, tCB, gName, tIf, tFn, tAndT, tOrT, tNotT, tChain, lc_go, iRng1, iRng2, iSeq, tSl, tPart, tNoPart, tAttr, List.getElem?_cons_zero, List.getElem?_cons_succ, List.set_cons_zero, List.set_cons_succ, Option.some.injEq, exists_eq_left']
    refine ⟨rfl, rfl, st, La, Ca, _, rfl, by omega, d4, fun v H5 rv d5 f5 => ⟨rfl, rfl, st, La, Ca, 41, _, rfl, by decide, by decide, by omega, d5, fun r2 H6 r20 r21 d6 f6 => G.sub_int ⟨small rfl, fun tp htp => G.pow_int (by decide) (by decide) (by decide) ⟨small rfl, fun lp hlp => ⟨rfl, rfl, pick_new (d6.new htp) (by omega) hlp (Nat.le_of_ble_eq_true rfl) (Nat.le_of_ble_eq_true rfl) fun x H7 hx d7 f7 => ?_⟩⟩⟩⟩⟩
    have f6' : Dr st La H5 (upd H6 tp (.tup [.int 0, .int 1])) := f6.new htp
    have mtp := drw_ne d6 htp
    have rx : Rp K st La H7 x := by
      simp only [List.mem_cons, List.not_mem_nil, or_false] at hx
      rcases hx with rfl | rfl | rfl | rfl | rfl
      · exact (rv.dr f6').dr f7
      · exact rp_int (by omega)
      · exact (rp_t4 upd_same mtp.1 mtp.2.1).dr f7
      · exact rp_str (by decide +kernel)
      · exact rp_int (by decide)
    try dsimp only [List.set_cons_zero, List.set_cons_succ]
    clear hx f7 rv f6' htp hlp f6 f5 f4 f3
    refine sq_asg ?_
    simp only [tWhile, tAnd, tOr, tNot, tTest, tTru, tOp, tUn, tVar, tC, tLst, tTup, tNil, tBM, tBM0, tCons, gSub, tCB, gName, tIf, tFn, tAndT, tOrT, tNotT, tChain, lc_go, iRng1, iRng2, iSeq, tSl, tPart, tNoPart, tAttr, List.getElem?_cons_zero, List.getElem?_cons_succ, List.set_cons_zero, List.set_cons_succ, Option.some.injEq, exists_eq_left']
    refine ⟨rfl, rfl, s, rfl, fun l1 ps1 H8 m1 e1 z1 q1 w1 => ⟨rfl, rfl, s, rfl, fun l2 ps2 H9 m2 e2 z2 q2 w2 => add_ls (w2 _ _ e1) e2 (by rw [List.length_map, List.length_map]; omega) fun p hp => ⟨rfl, rfl, s, rfl, fun l3 ps3 H10 m3 e3 z3 q3 w3 => add_ls (w3 _ _ upd_same) e3 (by rw [List.length_append, List.length_map, List.length_map, List.length_map]; omega) fun p2 hp2 => ?_⟩⟩⟩
    rw [← List.map_append, ← List.map_append]
    have w4 : Same H9 H10 := (same_new (Same.refl H9) hp).trans w3
    have w5 := same_newS (o := .lst ((ps1 ++ ps2 ++ ps3).map V.ref)) (Same.refl H10) hp2
    have hq : ∀ p ∈ ps1 ++ ps2 ++ ps3, PrA K (upd H10 p2 (.lst ((ps1 ++ ps2 ++ ps3).map V.ref))) p := fun p' h => by
      rcases List.mem_append.mp h with h | h
      · rcases List.mem_append.mp h with h | h
        · exact (((q1 p' h).same w2).same w4).same w5
        · exact ((q2 p' h).same w4).same w5
      · exact (q3 p' h).same w5
    have W5 : Same H7 (upd H10 p2 (.lst ((ps1 ++ ps2 ++ ps3).map V.ref))) := ((w1.trans w2).trans w4).trans w5
    have ep : (upd H10 p2 (.lst ((ps1 ++ ps2 ++ ps3).map V.ref))) p2 = some (.lst ((ps1 ++ ps2 ++ ps3).map V.ref)) := upd_same
    revert W5 hq ep
    generalize upd H10 p2 (.lst ((ps1 ++ ps2 ++ ps3).map V.ref)) = H11
    intro hq W5 ep
    try dsimp only [List.set_cons_zero, List.set_cons_succ]
    refine sq_if (alone_go ep hq fun H12 W6 => ?_)
    rw [if_neg (by simp)]
    have W7 := W5.trans W6
    refine for_s (.inl ?_)
    show iList K _ _ _ _
    simp only [iList, tWhile, tAnd, tOr, tNot, tTest, tTru, tOp, tUn, tVar, tC, tLst, tTup, tNil, tBM, tBM0, tCons, gSub, tCB, gName, tIf, tFn, tAndT, tOrT, tNotT, tChain, lc_go, iRng1, iRng2, iSeq, tSl, tPart, tNoPart, tAttr, List.getElem?_cons_zero, List.getElem?_cons_succ, List.set_cons_zero, List.set_cons_succ, Option.some.injEq, exists_eq_left']
    refine ⟨rfl, rfl, x, rfl, fun l4 ps4 H13 m4 e4 z4 q4 w8 => ⟨rfl, rfl, x, rfl, fun l5 ps5 H14 m5 e5 z5 q5 w9 => add_ls (w9 _ _ e4) e5 (by rw [List.length_map, List.length_map]; omega) fun p3 hp3 => ⟨p3, rfl, ⟨_, .inl (.inl upd_same)⟩, ?_⟩⟩⟩
    rw [← List.map_append]
    have w10 := same_newS (o := .lst ((ps4 ++ ps5).map V.ref)) (Same.refl H14) hp3
    have W8 : Same H7 (upd H14 p3 (.lst ((ps4 ++ ps5).map V.ref))) := ((W7.trans w8).trans w9).trans w10
    refine trip_go upd_same (fun p' h => ?_) (rx.dr (same_dr W8)) fun H' p7 p8 p9 W9 => ⟨(drw_same d7 (W8.trans W9)).mono (by omega), _, _, _, _, _, _, _, _, rfl⟩
    rcases List.mem_append.mp h with h | h
    · exact ((q4 p' h).same w9).same w10
    · exact (q5 p' h).same w10
  · rintro σ H2 ⟨d2, o2, o3, o4, o5, o6, o7, o8, o9, rfl⟩
    exact q H2
end
end K00

set_option Elab.async false
set_option linter.all false
set_option maxRecDepth 100000
set_option maxHeartbeats 0
namespace K00
open PySem PySem.Spec PyProof.Rows L2 LamX G Pk
/-! ### the head -/
theorem fa_gv : ∀ x ∈ gvN, He.Fa.glo x ∈ fa := fun x h => List.mem_append_right _ (List.mem_append_left _ (List.mem_map_of_mem h))
structure Ctx (P : Program) (w : World) (K : PySem.W.Frag) (mg : Str → Option Value) (base : Heap) : Prop where
  m : MdOk P K mg (mdOf K)
  d : He.SaysD fa fn K
  g : ∀ (i : Nat) (x : Str), fa[i]? = some (.glo x) → mg x = some (.ref (He.ga K x))
  F : Fc K
  ini : ∀ (i : Nat) (p : Str × Str), NI[i]? = some p → IniF K P (He.ga K p.1) p.2 ∧ IniK K (He.ga K p.1) p.2

theorem md_ok {P : Program} {K : PySem.W.Frag} {h : Heap} {mg : Str → Option Value} (X : K.In h) (G : h.Ns mainGlobals mg) (c : He.SaysD fa fn K) : MdOk P K mg (mdOf K) where
  free := by
    intro x hx
    simp only [mdOf, List.mem_cons, List.not_mem_nil, or_false] at hx
    rcases hx with rfl | rfl | rfl | rfl | rfl | rfl | rfl | rfl
    · exact He.free_ok X G (c.fact 16 (f := .free "ValueError") rfl)
    · exact He.free_ok X G (c.fact 17 (f := .free "abs") rfl)
    · exact He.free_ok X G (c.fact 18 (f := .free "int") rfl)
    · exact He.free_ok X G (c.fact 19 (f := .free "isinstance") rfl)
    · exact He.free_ok X G (c.fact 20 (f := .free "len") rfl)
    · exact He.free_ok X G (c.fact 21 (f := .free "min") rfl)
    · exact He.free_ok X G (c.fact 22 (f := .free "range") rfl)
    · exact He.free_ok X G (c.fact 23 (f := .free "repr") rfl)
  gv := by
    intro p hp
    obtain ⟨x, hx, rfl⟩ := List.mem_map.mp hp
    exact ⟨_, He.glo_ok X G (c.facts (f := .glo x) (fa_gv x hx)), rfl⟩
  exc := fun p hp => nomatch hp
  exa := fun p hp => nomatch hp
section
variable {P : Program} {w : World} {K : PySem.W.Frag} {mg : Str → Option Value} {base : Heap}
theorem fs_BadAt (c : Ctx P w K mg base) : FnEOk P w K mg base 1 ⟨"BadAt", 1, [], 1, S_BadAt K⟩ := ⟨Nat.le_refl _, _, c.g 24 _ rfl, (He.exc_ok (c.d.fact 101 (f := .exc "BadAt") rfl)).2.1, exc_fn (He.exc_ok (c.d.fact 101 (f := .exc "BadAt") rfl)).1⟩
theorem fs_BadBits (c : Ctx P w K mg base) : FnEOk P w K mg base 1 ⟨"BadBits", 1, [], 1, S_BadBits K⟩ := ⟨Nat.le_refl _, _, c.g 25 _ rfl, (He.exc_ok (c.d.fact 102 (f := .exc "BadBits") rfl)).2.1, exc_fn (He.exc_ok (c.d.fact 102 (f := .exc "BadBits") rfl)).1⟩
theorem fs_BadBlock (c : Ctx P w K mg base) : FnEOk P w K mg base 1 ⟨"BadBlock", 1, [], 1, S_BadBlock K⟩ := ⟨Nat.le_refl _, _, c.g 26 _ rfl, (He.exc_ok (c.d.fact 103 (f := .exc "BadBlock") rfl)).2.1, exc_fn (He.exc_ok (c.d.fact 103 (f := .exc "BadBlock") rfl)).1⟩
theorem fs_BadBook (c : Ctx P w K mg base) : FnEOk P w K mg base 1 ⟨"BadBook", 1, [], 1, S_BadBook K⟩ := ⟨Nat.le_refl _, _, c.g 27 _ rfl, (He.exc_ok (c.d.fact 104 (f := .exc "BadBook") rfl)).2.1, exc_fn (He.exc_ok (c.d.fact 104 (f := .exc "BadBook") rfl)).1⟩
theorem fs_BadBounds (c : Ctx P w K mg base) : FnEOk P w K mg base 1 ⟨"BadBounds", 1, [], 1, S_BadBounds K⟩ := ⟨Nat.le_refl _, _, c.g 28 _ rfl, (He.exc_ok (c.d.fact 105 (f := .exc "BadBounds") rfl)).2.1, exc_fn (He.exc_ok (c.d.fact 105 (f := .exc "BadBounds") rfl)).1⟩
theorem fs_BadChosen (c : Ctx P w K mg base) : FnEOk P w K mg base 1 ⟨"BadChosen", 1, [], 1, S_BadChosen K⟩ := ⟨Nat.le_refl _, _, c.g 29 _ rfl, (He.exc_ok (c.d.fact 106 (f := .exc "BadChosen") rfl)).2.1, exc_fn (He.exc_ok (c.d.fact 106 (f := .exc "BadChosen") rfl)).1⟩
theorem fs_BadCosts (c : Ctx P w K mg base) : FnEOk P w K mg base 1 ⟨"BadCosts", 1, [], 1, S_BadCosts K⟩ := ⟨Nat.le_refl _, _, c.g 30 _ rfl, (c.ini 0 _ rfl).1.T.kC, ini_fn (c.ini 0 _ rfl).1⟩
theorem fs_BadCosts_k0_at (c : Ctx P w K mg base) : FnEOk P w K mg base 1 ⟨"BadCosts", 0, ["at"], 1, S_BadCosts_k0_at K⟩ := ⟨Nat.le_refl _, _, c.g 30 _ rfl, (c.ini 0 _ rfl).1.T.kC, ini_fnK (c.ini 0 _ rfl).1 (c.ini 0 _ rfl).2⟩
theorem fs_BadCut (c : Ctx P w K mg base) : FnEOk P w K mg base 1 ⟨"BadCut", 1, [], 1, S_BadCut K⟩ := ⟨Nat.le_refl _, _, c.g 31 _ rfl, (He.exc_ok (c.d.fact 107 (f := .exc "BadCut") rfl)).2.1, exc_fn (He.exc_ok (c.d.fact 107 (f := .exc "BadCut") rfl)).1⟩
theorem fs_BadDelay (c : Ctx P w K mg base) : FnEOk P w K mg base 1 ⟨"BadDelay", 1, [], 1, S_BadDelay K⟩ := ⟨Nat.le_refl _, _, c.g 32 _ rfl, (He.exc_ok (c.d.fact 108 (f := .exc "BadDelay") rfl)).2.1, exc_fn (He.exc_ok (c.d.fact 108 (f := .exc "BadDelay") rfl)).1⟩
theorem fs_BadError (c : Ctx P w K mg base) : FnEOk P w K mg base 1 ⟨"BadError", 1, [], 1, S_BadError K⟩ := ⟨Nat.le_refl _, _, c.g 33 _ rfl, (He.exc_ok (c.d.fact 109 (f := .exc "BadError") rfl)).2.1, exc_fn (He.exc_ok (c.d.fact 109 (f := .exc "BadError") rfl)).1⟩
theorem fs_BadField (c : Ctx P w K mg base) : FnEOk P w K mg base 1 ⟨"BadField", 1, [], 1, S_BadField K⟩ := ⟨Nat.le_refl _, _, c.g 34 _ rfl, (He.exc_ok (c.d.fact 110 (f := .exc "BadField") rfl)).2.1, exc_fn (He.exc_ok (c.d.fact 110 (f := .exc "BadField") rfl)).1⟩
theorem fs_BadFrame (c : Ctx P w K mg base) : FnEOk P w K mg base 1 ⟨"BadFrame", 1, [], 1, S_BadFrame K⟩ := ⟨Nat.le_refl _, _, c.g 35 _ rfl, (He.exc_ok (c.d.fact 111 (f := .exc "BadFrame") rfl)).2.1, exc_fn (He.exc_ok (c.d.fact 111 (f := .exc "BadFrame") rfl)).1⟩
theorem fs_BadFrames (c : Ctx P w K mg base) : FnEOk P w K mg base 1 ⟨"BadFrames", 1, [], 1, S_BadFrames K⟩ := ⟨Nat.le_refl _, _, c.g 36 _ rfl, (c.ini 1 _ rfl).1.T.kC, ini_fn (c.ini 1 _ rfl).1⟩
theorem fs_BadFrames_k0_at (c : Ctx P w K mg base) : FnEOk P w K mg base 1 ⟨"BadFrames", 0, ["at"], 1, S_BadFrames_k0_at K⟩ := ⟨Nat.le_refl _, _, c.g 36 _ rfl, (c.ini 1 _ rfl).1.T.kC, ini_fnK (c.ini 1 _ rfl).1 (c.ini 1 _ rfl).2⟩
theorem fs_BadGains (c : Ctx P w K mg base) : FnEOk P w K mg base 1 ⟨"BadGains", 1, [], 1, S_BadGains K⟩ := ⟨Nat.le_refl _, _, c.g 37 _ rfl, (He.exc_ok (c.d.fact 112 (f := .exc "BadGains") rfl)).2.1, exc_fn (He.exc_ok (c.d.fact 112 (f := .exc "BadGains") rfl)).1⟩
theorem fs_BadGrade (c : Ctx P w K mg base) : FnEOk P w K mg base 1 ⟨"BadGrade", 1, [], 1, S_BadGrade K⟩ := ⟨Nat.le_refl _, _, c.g 38 _ rfl, (He.exc_ok (c.d.fact 113 (f := .exc "BadGrade") rfl)).2.1, exc_fn (He.exc_ok (c.d.fact 113 (f := .exc "BadGrade") rfl)).1⟩
theorem fs_BadGuess (c : Ctx P w K mg base) : FnEOk P w K mg base 1 ⟨"BadGuess", 1, [], 1, S_BadGuess K⟩ := ⟨Nat.le_refl _, _, c.g 39 _ rfl, (He.exc_ok (c.d.fact 114 (f := .exc "BadGuess") rfl)).2.1, exc_fn (He.exc_ok (c.d.fact 114 (f := .exc "BadGuess") rfl)).1⟩
theorem fs_BadHead (c : Ctx P w K mg base) : FnEOk P w K mg base 1 ⟨"BadHead", 1, [], 1, S_BadHead K⟩ := ⟨Nat.le_refl _, _, c.g 40 _ rfl, (c.ini 2 _ rfl).1.T.kC, ini_fn (c.ini 2 _ rfl).1⟩
theorem fs_BadHead_k0_part (c : Ctx P w K mg base) : FnEOk P w K mg base 1 ⟨"BadHead", 0, ["part"], 1, S_BadHead_k0_part K⟩ := ⟨Nat.le_refl _, _, c.g 40 _ rfl, (c.ini 2 _ rfl).1.T.kC, ini_fnK (c.ini 2 _ rfl).1 (c.ini 2 _ rfl).2⟩
theorem fs_BadHold (c : Ctx P w K mg base) : FnEOk P w K mg base 1 ⟨"BadHold", 1, [], 1, S_BadHold K⟩ := ⟨Nat.le_refl _, _, c.g 41 _ rfl, (He.exc_ok (c.d.fact 115 (f := .exc "BadHold") rfl)).2.1, exc_fn (He.exc_ok (c.d.fact 115 (f := .exc "BadHold") rfl)).1⟩
theorem fs_BadHurt (c : Ctx P w K mg base) : FnEOk P w K mg base 1 ⟨"BadHurt", 1, [], 1, S_BadHurt K⟩ := ⟨Nat.le_refl _, _, c.g 42 _ rfl, (He.exc_ok (c.d.fact 116 (f := .exc "BadHurt") rfl)).2.1, exc_fn (He.exc_ok (c.d.fact 116 (f := .exc "BadHurt") rfl)).1⟩
theorem fs_BadIndex (c : Ctx P w K mg base) : FnEOk P w K mg base 1 ⟨"BadIndex", 1, [], 1, S_BadIndex K⟩ := ⟨Nat.le_refl _, _, c.g 43 _ rfl, (He.exc_ok (c.d.fact 117 (f := .exc "BadIndex") rfl)).2.1, exc_fn (He.exc_ok (c.d.fact 117 (f := .exc "BadIndex") rfl)).1⟩
theorem fs_BadItem (c : Ctx P w K mg base) : FnEOk P w K mg base 1 ⟨"BadItem", 1, [], 1, S_BadItem K⟩ := ⟨Nat.le_refl _, _, c.g 44 _ rfl, (c.ini 3 _ rfl).1.T.kC, ini_fn (c.ini 3 _ rfl).1⟩
theorem fs_BadItem_k0_at (c : Ctx P w K mg base) : FnEOk P w K mg base 1 ⟨"BadItem", 0, ["at"], 1, S_BadItem_k0_at K⟩ := ⟨Nat.le_refl _, _, c.g 44 _ rfl, (c.ini 3 _ rfl).1.T.kC, ini_fnK (c.ini 3 _ rfl).1 (c.ini 3 _ rfl).2⟩
theorem fs_BadJobs (c : Ctx P w K mg base) : FnEOk P w K mg base 1 ⟨"BadJobs", 1, [], 1, S_BadJobs K⟩ := ⟨Nat.le_refl _, _, c.g 45 _ rfl, (c.ini 4 _ rfl).1.T.kC, ini_fn (c.ini 4 _ rfl).1⟩
theorem fs_BadJobs_k0_at (c : Ctx P w K mg base) : FnEOk P w K mg base 1 ⟨"BadJobs", 0, ["at"], 1, S_BadJobs_k0_at K⟩ := ⟨Nat.le_refl _, _, c.g 45 _ rfl, (c.ini 4 _ rfl).1.T.kC, ini_fnK (c.ini 4 _ rfl).1 (c.ini 4 _ rfl).2⟩
theorem fs_BadKind (c : Ctx P w K mg base) : FnEOk P w K mg base 1 ⟨"BadKind", 1, [], 1, S_BadKind K⟩ := ⟨Nat.le_refl _, _, c.g 46 _ rfl, (He.exc_ok (c.d.fact 118 (f := .exc "BadKind") rfl)).2.1, exc_fn (He.exc_ok (c.d.fact 118 (f := .exc "BadKind") rfl)).1⟩
theorem fs_BadLeast (c : Ctx P w K mg base) : FnEOk P w K mg base 1 ⟨"BadLeast", 1, [], 1, S_BadLeast K⟩ := ⟨Nat.le_refl _, _, c.g 47 _ rfl, (He.exc_ok (c.d.fact 119 (f := .exc "BadLeast") rfl)).2.1, exc_fn (He.exc_ok (c.d.fact 119 (f := .exc "BadLeast") rfl)).1⟩
theorem fs_BadLoss (c : Ctx P w K mg base) : FnEOk P w K mg base 1 ⟨"BadLoss", 1, [], 1, S_BadLoss K⟩ := ⟨Nat.le_refl _, _, c.g 48 _ rfl, (He.exc_ok (c.d.fact 120 (f := .exc "BadLoss") rfl)).2.1, exc_fn (He.exc_ok (c.d.fact 120 (f := .exc "BadLoss") rfl)).1⟩
theorem fs_BadLosses (c : Ctx P w K mg base) : FnEOk P w K mg base 1 ⟨"BadLosses", 1, [], 1, S_BadLosses K⟩ := ⟨Nat.le_refl _, _, c.g 49 _ rfl, (He.exc_ok (c.d.fact 121 (f := .exc "BadLosses") rfl)).2.1, exc_fn (He.exc_ok (c.d.fact 121 (f := .exc "BadLosses") rfl)).1⟩
theorem fs_BadLot (c : Ctx P w K mg base) : FnEOk P w K mg base 1 ⟨"BadLot", 1, [], 1, S_BadLot K⟩ := ⟨Nat.le_refl _, _, c.g 50 _ rfl, (He.exc_ok (c.d.fact 122 (f := .exc "BadLot") rfl)).2.1, exc_fn (He.exc_ok (c.d.fact 122 (f := .exc "BadLot") rfl)).1⟩
theorem fs_BadLots (c : Ctx P w K mg base) : FnEOk P w K mg base 1 ⟨"BadLots", 1, [], 1, S_BadLots K⟩ := ⟨Nat.le_refl _, _, c.g 51 _ rfl, (He.exc_ok (c.d.fact 123 (f := .exc "BadLots") rfl)).2.1, exc_fn (He.exc_ok (c.d.fact 123 (f := .exc "BadLots") rfl)).1⟩
theorem fs_BadMany (c : Ctx P w K mg base) : FnEOk P w K mg base 1 ⟨"BadMany", 1, [], 1, S_BadMany K⟩ := ⟨Nat.le_refl _, _, c.g 52 _ rfl, (He.exc_ok (c.d.fact 124 (f := .exc "BadMany") rfl)).2.1, exc_fn (He.exc_ok (c.d.fact 124 (f := .exc "BadMany") rfl)).1⟩
theorem fs_BadMemory (c : Ctx P w K mg base) : FnEOk P w K mg base 1 ⟨"BadMemory", 1, [], 1, S_BadMemory K⟩ := ⟨Nat.le_refl _, _, c.g 53 _ rfl, (He.exc_ok (c.d.fact 125 (f := .exc "BadMemory") rfl)).2.1, exc_fn (He.exc_ok (c.d.fact 125 (f := .exc "BadMemory") rfl)).1⟩
theorem fs_BadMode (c : Ctx P w K mg base) : FnEOk P w K mg base 1 ⟨"BadMode", 1, [], 1, S_BadMode K⟩ := ⟨Nat.le_refl _, _, c.g 54 _ rfl, (c.ini 5 _ rfl).1.T.kC, ini_fn (c.ini 5 _ rfl).1⟩
theorem fs_BadMode_k0_mode (c : Ctx P w K mg base) : FnEOk P w K mg base 1 ⟨"BadMode", 0, ["mode"], 1, S_BadMode_k0_mode K⟩ := ⟨Nat.le_refl _, _, c.g 54 _ rfl, (c.ini 5 _ rfl).1.T.kC, ini_fnK (c.ini 5 _ rfl).1 (c.ini 5 _ rfl).2⟩
theorem fs_BadMost (c : Ctx P w K mg base) : FnEOk P w K mg base 1 ⟨"BadMost", 1, [], 1, S_BadMost K⟩ := ⟨Nat.le_refl _, _, c.g 55 _ rfl, (He.exc_ok (c.d.fact 126 (f := .exc "BadMost") rfl)).2.1, exc_fn (He.exc_ok (c.d.fact 126 (f := .exc "BadMost") rfl)).1⟩
theorem fs_BadNumber (c : Ctx P w K mg base) : FnEOk P w K mg base 1 ⟨"BadNumber", 1, [], 1, S_BadNumber K⟩ := ⟨Nat.le_refl _, _, c.g 56 _ rfl, (He.exc_ok (c.d.fact 127 (f := .exc "BadNumber") rfl)).2.1, exc_fn (He.exc_ok (c.d.fact 127 (f := .exc "BadNumber") rfl)).1⟩
theorem fs_BadOrder (c : Ctx P w K mg base) : FnEOk P w K mg base 1 ⟨"BadOrder", 1, [], 1, S_BadOrder K⟩ := ⟨Nat.le_refl _, _, c.g 57 _ rfl, (He.exc_ok (c.d.fact 128 (f := .exc "BadOrder") rfl)).2.1, exc_fn (He.exc_ok (c.d.fact 128 (f := .exc "BadOrder") rfl)).1⟩
theorem fs_BadOther (c : Ctx P w K mg base) : FnEOk P w K mg base 1 ⟨"BadOther", 1, [], 1, S_BadOther K⟩ := ⟨Nat.le_refl _, _, c.g 58 _ rfl, (He.exc_ok (c.d.fact 129 (f := .exc "BadOther") rfl)).2.1, exc_fn (He.exc_ok (c.d.fact 129 (f := .exc "BadOther") rfl)).1⟩
theorem fs_BadPlace (c : Ctx P w K mg base) : FnEOk P w K mg base 1 ⟨"BadPlace", 1, [], 1, S_BadPlace K⟩ := ⟨Nat.le_refl _, _, c.g 59 _ rfl, (He.exc_ok (c.d.fact 130 (f := .exc "BadPlace") rfl)).2.1, exc_fn (He.exc_ok (c.d.fact 130 (f := .exc "BadPlace") rfl)).1⟩
theorem fs_BadPlan (c : Ctx P w K mg base) : FnEOk P w K mg base 1 ⟨"BadPlan", 1, [], 1, S_BadPlan K⟩ := ⟨Nat.le_refl _, _, c.g 60 _ rfl, (He.exc_ok (c.d.fact 131 (f := .exc "BadPlan") rfl)).2.1, exc_fn (He.exc_ok (c.d.fact 131 (f := .exc "BadPlan") rfl)).1⟩
theorem fs_BadPlane (c : Ctx P w K mg base) : FnEOk P w K mg base 1 ⟨"BadPlane", 1, [], 1, S_BadPlane K⟩ := ⟨Nat.le_refl _, _, c.g 61 _ rfl, (He.exc_ok (c.d.fact 132 (f := .exc "BadPlane") rfl)).2.1, exc_fn (He.exc_ok (c.d.fact 132 (f := .exc "BadPlane") rfl)).1⟩
theorem fs_BadPlanes (c : Ctx P w K mg base) : FnEOk P w K mg base 1 ⟨"BadPlanes", 1, [], 1, S_BadPlanes K⟩ := ⟨Nat.le_refl _, _, c.g 62 _ rfl, (He.exc_ok (c.d.fact 133 (f := .exc "BadPlanes") rfl)).2.1, exc_fn (He.exc_ok (c.d.fact 133 (f := .exc "BadPlanes") rfl)).1⟩
theorem fs_BadPrice (c : Ctx P w K mg base) : FnEOk P w K mg base 1 ⟨"BadPrice", 1, [], 1, S_BadPrice K⟩ := ⟨Nat.le_refl _, _, c.g 63 _ rfl, (He.exc_ok (c.d.fact 134 (f := .exc "BadPrice") rfl)).2.1, exc_fn (He.exc_ok (c.d.fact 134 (f := .exc "BadPrice") rfl)).1⟩
theorem fs_BadRate (c : Ctx P w K mg base) : FnEOk P w K mg base 1 ⟨"BadRate", 1, [], 1, S_BadRate K⟩ := ⟨Nat.le_refl _, _, c.g 64 _ rfl, (He.exc_ok (c.d.fact 135 (f := .exc "BadRate") rfl)).2.1, exc_fn (He.exc_ok (c.d.fact 135 (f := .exc "BadRate") rfl)).1⟩
theorem fs_BadReach (c : Ctx P w K mg base) : FnEOk P w K mg base 1 ⟨"BadReach", 1, [], 1, S_BadReach K⟩ := ⟨Nat.le_refl _, _, c.g 65 _ rfl, (He.exc_ok (c.d.fact 136 (f := .exc "BadReach") rfl)).2.1, exc_fn (He.exc_ok (c.d.fact 136 (f := .exc "BadReach") rfl)).1⟩
theorem fs_BadRectangle (c : Ctx P w K mg base) : FnEOk P w K mg base 1 ⟨"BadRectangle", 1, [], 1, S_BadRectangle K⟩ := ⟨Nat.le_refl _, _, c.g 66 _ rfl, (He.exc_ok (c.d.fact 137 (f := .exc "BadRectangle") rfl)).2.1, exc_fn (He.exc_ok (c.d.fact 137 (f := .exc "BadRectangle") rfl)).1⟩
theorem fs_BadReel (c : Ctx P w K mg base) : FnEOk P w K mg base 1 ⟨"BadReel", 1, [], 1, S_BadReel K⟩ := ⟨Nat.le_refl _, _, c.g 67 _ rfl, (c.ini 6 _ rfl).1.T.kC, ini_fn (c.ini 6 _ rfl).1⟩
theorem fs_BadReel_k0_part (c : Ctx P w K mg base) : FnEOk P w K mg base 1 ⟨"BadReel", 0, ["part"], 1, S_BadReel_k0_part K⟩ := ⟨Nat.le_refl _, _, c.g 67 _ rfl, (c.ini 6 _ rfl).1.T.kC, ini_fnK (c.ini 6 _ rfl).1 (c.ini 6 _ rfl).2⟩
theorem fs_BadReferences (c : Ctx P w K mg base) : FnEOk P w K mg base 1 ⟨"BadReferences", 1, [], 1, S_BadReferences K⟩ := ⟨Nat.le_refl _, _, c.g 68 _ rfl, (He.exc_ok (c.d.fact 138 (f := .exc "BadReferences") rfl)).2.1, exc_fn (He.exc_ok (c.d.fact 138 (f := .exc "BadReferences") rfl)).1⟩
theorem fs_BadRenewals (c : Ctx P w K mg base) : FnEOk P w K mg base 1 ⟨"BadRenewals", 1, [], 1, S_BadRenewals K⟩ := ⟨Nat.le_refl _, _, c.g 69 _ rfl, (c.ini 7 _ rfl).1.T.kC, ini_fn (c.ini 7 _ rfl).1⟩
theorem fs_BadRenewals_k0_at (c : Ctx P w K mg base) : FnEOk P w K mg base 1 ⟨"BadRenewals", 0, ["at"], 1, S_BadRenewals_k0_at K⟩ := ⟨Nat.le_refl _, _, c.g 69 _ rfl, (c.ini 7 _ rfl).1.T.kC, ini_fnK (c.ini 7 _ rfl).1 (c.ini 7 _ rfl).2⟩
theorem fs_BadRoom (c : Ctx P w K mg base) : FnEOk P w K mg base 1 ⟨"BadRoom", 1, [], 1, S_BadRoom K⟩ := ⟨Nat.le_refl _, _, c.g 70 _ rfl, (He.exc_ok (c.d.fact 139 (f := .exc "BadRoom") rfl)).2.1, exc_fn (He.exc_ok (c.d.fact 139 (f := .exc "BadRoom") rfl)).1⟩
theorem fs_BadRow (c : Ctx P w K mg base) : FnEOk P w K mg base 1 ⟨"BadRow", 1, [], 1, S_BadRow K⟩ := ⟨Nat.le_refl _, _, c.g 71 _ rfl, (He.exc_ok (c.d.fact 140 (f := .exc "BadRow") rfl)).2.1, exc_fn (He.exc_ok (c.d.fact 140 (f := .exc "BadRow") rfl)).1⟩
theorem fs_BadSet (c : Ctx P w K mg base) : FnEOk P w K mg base 1 ⟨"BadSet", 1, [], 1, S_BadSet K⟩ := ⟨Nat.le_refl _, _, c.g 72 _ rfl, (He.exc_ok (c.d.fact 141 (f := .exc "BadSet") rfl)).2.1, exc_fn (He.exc_ok (c.d.fact 141 (f := .exc "BadSet") rfl)).1⟩
theorem fs_BadShape (c : Ctx P w K mg base) : FnEOk P w K mg base 1 ⟨"BadShape", 1, [], 1, S_BadShape K⟩ := ⟨Nat.le_refl _, _, c.g 73 _ rfl, (c.ini 8 _ rfl).1.T.kC, ini_fn (c.ini 8 _ rfl).1⟩
theorem fs_BadShape_k0_part (c : Ctx P w K mg base) : FnEOk P w K mg base 1 ⟨"BadShape", 0, ["part"], 1, S_BadShape_k0_part K⟩ := ⟨Nat.le_refl _, _, c.g 73 _ rfl, (c.ini 8 _ rfl).1.T.kC, ini_fnK (c.ini 8 _ rfl).1 (c.ini 8 _ rfl).2⟩
theorem fs_BadShares (c : Ctx P w K mg base) : FnEOk P w K mg base 1 ⟨"BadShares", 1, [], 1, S_BadShares K⟩ := ⟨Nat.le_refl _, _, c.g 74 _ rfl, (He.exc_ok (c.d.fact 142 (f := .exc "BadShares") rfl)).2.1, exc_fn (He.exc_ok (c.d.fact 142 (f := .exc "BadShares") rfl)).1⟩
theorem fs_BadShift (c : Ctx P w K mg base) : FnEOk P w K mg base 1 ⟨"BadShift", 1, [], 1, S_BadShift K⟩ := ⟨Nat.le_refl _, _, c.g 75 _ rfl, (He.exc_ok (c.d.fact 143 (f := .exc "BadShift") rfl)).2.1, exc_fn (He.exc_ok (c.d.fact 143 (f := .exc "BadShift") rfl)).1⟩
theorem fs_BadShows (c : Ctx P w K mg base) : FnEOk P w K mg base 1 ⟨"BadShows", 1, [], 1, S_BadShows K⟩ := ⟨Nat.le_refl _, _, c.g 76 _ rfl, (He.exc_ok (c.d.fact 144 (f := .exc "BadShows") rfl)).2.1, exc_fn (He.exc_ok (c.d.fact 144 (f := .exc "BadShows") rfl)).1⟩
theorem fs_BadSize (c : Ctx P w K mg base) : FnEOk P w K mg base 1 ⟨"BadSize", 1, [], 1, S_BadSize K⟩ := ⟨Nat.le_refl _, _, c.g 77 _ rfl, (He.exc_ok (c.d.fact 145 (f := .exc "BadSize") rfl)).2.1, exc_fn (He.exc_ok (c.d.fact 145 (f := .exc "BadSize") rfl)).1⟩
theorem fs_BadSizes (c : Ctx P w K mg base) : FnEOk P w K mg base 1 ⟨"BadSizes", 1, [], 1, S_BadSizes K⟩ := ⟨Nat.le_refl _, _, c.g 78 _ rfl, (He.exc_ok (c.d.fact 146 (f := .exc "BadSizes") rfl)).2.1, exc_fn (He.exc_ok (c.d.fact 146 (f := .exc "BadSizes") rfl)).1⟩
theorem fs_BadSpans (c : Ctx P w K mg base) : FnEOk P w K mg base 1 ⟨"BadSpans", 1, [], 1, S_BadSpans K⟩ := ⟨Nat.le_refl _, _, c.g 79 _ rfl, (He.exc_ok (c.d.fact 147 (f := .exc "BadSpans") rfl)).2.1, exc_fn (He.exc_ok (c.d.fact 147 (f := .exc "BadSpans") rfl)).1⟩
theorem fs_BadSpot (c : Ctx P w K mg base) : FnEOk P w K mg base 1 ⟨"BadSpot", 1, [], 1, S_BadSpot K⟩ := ⟨Nat.le_refl _, _, c.g 80 _ rfl, (He.exc_ok (c.d.fact 148 (f := .exc "BadSpot") rfl)).2.1, exc_fn (He.exc_ok (c.d.fact 148 (f := .exc "BadSpot") rfl)).1⟩
theorem fs_BadState (c : Ctx P w K mg base) : FnEOk P w K mg base 1 ⟨"BadState", 1, [], 1, S_BadState K⟩ := ⟨Nat.le_refl _, _, c.g 81 _ rfl, (He.exc_ok (c.d.fact 149 (f := .exc "BadState") rfl)).2.1, exc_fn (He.exc_ok (c.d.fact 149 (f := .exc "BadState") rfl)).1⟩
theorem fs_BadStock (c : Ctx P w K mg base) : FnEOk P w K mg base 1 ⟨"BadStock", 1, [], 1, S_BadStock K⟩ := ⟨Nat.le_refl _, _, c.g 82 _ rfl, (c.ini 9 _ rfl).1.T.kC, ini_fn (c.ini 9 _ rfl).1⟩
theorem fs_BadStock_k0_part (c : Ctx P w K mg base) : FnEOk P w K mg base 1 ⟨"BadStock", 0, ["part"], 1, S_BadStock_k0_part K⟩ := ⟨Nat.le_refl _, _, c.g 82 _ rfl, (c.ini 9 _ rfl).1.T.kC, ini_fnK (c.ini 9 _ rfl).1 (c.ini 9 _ rfl).2⟩
theorem fs_BadStore (c : Ctx P w K mg base) : FnEOk P w K mg base 1 ⟨"BadStore", 1, [], 1, S_BadStore K⟩ := ⟨Nat.le_refl _, _, c.g 83 _ rfl, (c.ini 10 _ rfl).1.T.kC, ini_fn (c.ini 10 _ rfl).1⟩
theorem fs_BadStore_k0_at (c : Ctx P w K mg base) : FnEOk P w K mg base 1 ⟨"BadStore", 0, ["at"], 1, S_BadStore_k0_at K⟩ := ⟨Nat.le_refl _, _, c.g 83 _ rfl, (c.ini 10 _ rfl).1.T.kC, ini_fnK (c.ini 10 _ rfl).1 (c.ini 10 _ rfl).2⟩
theorem fs_BadStream (c : Ctx P w K mg base) : FnEOk P w K mg base 1 ⟨"BadStream", 1, [], 1, S_BadStream K⟩ := ⟨Nat.le_refl _, _, c.g 84 _ rfl, (c.ini 11 _ rfl).1.T.kC, ini_fn (c.ini 11 _ rfl).1⟩
theorem fs_BadStream_k0_at (c : Ctx P w K mg base) : FnEOk P w K mg base 1 ⟨"BadStream", 0, ["at"], 1, S_BadStream_k0_at K⟩ := ⟨Nat.le_refl _, _, c.g 84 _ rfl, (c.ini 11 _ rfl).1.T.kC, ini_fnK (c.ini 11 _ rfl).1 (c.ini 11 _ rfl).2⟩
theorem fs_BadStretch (c : Ctx P w K mg base) : FnEOk P w K mg base 1 ⟨"BadStretch", 1, [], 1, S_BadStretch K⟩ := ⟨Nat.le_refl _, _, c.g 85 _ rfl, (c.ini 12 _ rfl).1.T.kC, ini_fn (c.ini 12 _ rfl).1⟩
theorem fs_BadStretch_k0_at (c : Ctx P w K mg base) : FnEOk P w K mg base 1 ⟨"BadStretch", 0, ["at"], 1, S_BadStretch_k0_at K⟩ := ⟨Nat.le_refl _, _, c.g 85 _ rfl, (c.ini 12 _ rfl).1.T.kC, ini_fnK (c.ini 12 _ rfl).1 (c.ini 12 _ rfl).2⟩
theorem fs_BadTelling (c : Ctx P w K mg base) : FnEOk P w K mg base 1 ⟨"BadTelling", 1, [], 1, S_BadTelling K⟩ := ⟨Nat.le_refl _, _, c.g 86 _ rfl, (He.exc_ok (c.d.fact 150 (f := .exc "BadTelling") rfl)).2.1, exc_fn (He.exc_ok (c.d.fact 150 (f := .exc "BadTelling") rfl)).1⟩
theorem fs_BadUpper (c : Ctx P w K mg base) : FnEOk P w K mg base 1 ⟨"BadUpper", 1, [], 1, S_BadUpper K⟩ := ⟨Nat.le_refl _, _, c.g 87 _ rfl, (He.exc_ok (c.d.fact 151 (f := .exc "BadUpper") rfl)).2.1, exc_fn (He.exc_ok (c.d.fact 151 (f := .exc "BadUpper") rfl)).1⟩
theorem fs_BadVector (c : Ctx P w K mg base) : FnEOk P w K mg base 1 ⟨"BadVector", 1, [], 1, S_BadVector K⟩ := ⟨Nat.le_refl _, _, c.g 88 _ rfl, (He.exc_ok (c.d.fact 152 (f := .exc "BadVector") rfl)).2.1, exc_fn (He.exc_ok (c.d.fact 152 (f := .exc "BadVector") rfl)).1⟩
theorem fs_BadWait (c : Ctx P w K mg base) : FnEOk P w K mg base 1 ⟨"BadWait", 1, [], 1, S_BadWait K⟩ := ⟨Nat.le_refl _, _, c.g 89 _ rfl, (He.exc_ok (c.d.fact 153 (f := .exc "BadWait") rfl)).2.1, exc_fn (He.exc_ok (c.d.fact 153 (f := .exc "BadWait") rfl)).1⟩
theorem fs_BadWanted (c : Ctx P w K mg base) : FnEOk P w K mg base 1 ⟨"BadWanted", 1, [], 1, S_BadWanted K⟩ := ⟨Nat.le_refl _, _, c.g 90 _ rfl, (He.exc_ok (c.d.fact 154 (f := .exc "BadWanted") rfl)).2.1, exc_fn (He.exc_ok (c.d.fact 154 (f := .exc "BadWanted") rfl)).1⟩
theorem fs_BadWay (c : Ctx P w K mg base) : FnEOk P w K mg base 1 ⟨"BadWay", 1, [], 1, S_BadWay K⟩ := ⟨Nat.le_refl _, _, c.g 91 _ rfl, (He.exc_ok (c.d.fact 155 (f := .exc "BadWay") rfl)).2.1, exc_fn (He.exc_ok (c.d.fact 155 (f := .exc "BadWay") rfl)).1⟩
theorem fs_BadWeb (c : Ctx P w K mg base) : FnEOk P w K mg base 1 ⟨"BadWeb", 1, [], 1, S_BadWeb K⟩ := ⟨Nat.le_refl _, _, c.g 92 _ rfl, (c.ini 13 _ rfl).1.T.kC, ini_fn (c.ini 13 _ rfl).1⟩
theorem fs_BadWeb_k0_at (c : Ctx P w K mg base) : FnEOk P w K mg base 1 ⟨"BadWeb", 0, ["at"], 1, S_BadWeb_k0_at K⟩ := ⟨Nat.le_refl _, _, c.g 92 _ rfl, (c.ini 13 _ rfl).1.T.kC, ini_fnK (c.ini 13 _ rfl).1 (c.ini 13 _ rfl).2⟩
theorem fs_BadWish (c : Ctx P w K mg base) : FnEOk P w K mg base 1 ⟨"BadWish", 1, [], 1, S_BadWish K⟩ := ⟨Nat.le_refl _, _, c.g 93 _ rfl, (He.exc_ok (c.d.fact 156 (f := .exc "BadWish") rfl)).2.1, exc_fn (He.exc_ok (c.d.fact 156 (f := .exc "BadWish") rfl)).1⟩
theorem fs_BadWorths (c : Ctx P w K mg base) : FnEOk P w K mg base 1 ⟨"BadWorths", 1, [], 1, S_BadWorths K⟩ := ⟨Nat.le_refl _, _, c.g 94 _ rfl, (He.exc_ok (c.d.fact 157 (f := .exc "BadWorths") rfl)).2.1, exc_fn (He.exc_ok (c.d.fact 157 (f := .exc "BadWorths") rfl)).1⟩
theorem fs_NotNow (c : Ctx P w K mg base) : FnEOk P w K mg base 1 ⟨"NotNow", 1, [], 1, S_NotNow K⟩ := ⟨Nat.le_refl _, _, c.g 95 _ rfl, (c.ini 14 _ rfl).1.T.kC, ini_fn (c.ini 14 _ rfl).1⟩
theorem fs_NotNow_k0_word (c : Ctx P w K mg base) : FnEOk P w K mg base 1 ⟨"NotNow", 0, ["word"], 1, S_NotNow_k0_word K⟩ := ⟨Nat.le_refl _, _, c.g 95 _ rfl, (c.ini 14 _ rfl).1.T.kC, ini_fnK (c.ini 14 _ rfl).1 (c.ini 14 _ rfl).2⟩
theorem fs_NothingDone (c : Ctx P w K mg base) : FnEOk P w K mg base 1 ⟨"NothingDone", 1, [], 1, S_NothingDone K⟩ := ⟨Nat.le_refl _, _, c.g 96 _ rfl, (He.exc_ok (c.d.fact 158 (f := .exc "NothingDone") rfl)).2.1, exc_fn (He.exc_ok (c.d.fact 158 (f := .exc "NothingDone") rfl)).1⟩
theorem fs_OtherKinds (c : Ctx P w K mg base) : FnEOk P w K mg base 1 ⟨"OtherKinds", 1, [], 1, S_OtherKinds K⟩ := ⟨Nat.le_refl _, _, c.g 97 _ rfl, (He.exc_ok (c.d.fact 159 (f := .exc "OtherKinds") rfl)).2.1, exc_fn (He.exc_ok (c.d.fact 159 (f := .exc "OtherKinds") rfl)).1⟩
theorem fs_OtherShapes (c : Ctx P w K mg base) : FnEOk P w K mg base 1 ⟨"OtherShapes", 1, [], 1, S_OtherShapes K⟩ := ⟨Nat.le_refl _, _, c.g 98 _ rfl, (He.exc_ok (c.d.fact 160 (f := .exc "OtherShapes") rfl)).2.1, exc_fn (He.exc_ok (c.d.fact 160 (f := .exc "OtherShapes") rfl)).1⟩
theorem fs_TooMany (c : Ctx P w K mg base) : FnEOk P w K mg base 1 ⟨"TooMany", 1, [], 1, S_TooMany K⟩ := ⟨Nat.le_refl _, _, c.g 100 _ rfl, (c.ini 15 _ rfl).1.T.kC, ini_fn (c.ini 15 _ rfl).1⟩
theorem fs_TooMany_k0_most (c : Ctx P w K mg base) : FnEOk P w K mg base 1 ⟨"TooMany", 0, ["most"], 1, S_TooMany_k0_most K⟩ := ⟨Nat.le_refl _, _, c.g 100 _ rfl, (c.ini 15 _ rfl).1.T.kC, ini_fnK (c.ini 15 _ rfl).1 (c.ini 15 _ rfl).2⟩
theorem fs__law_begun (c : Ctx P w K mg base) : FnEOk P w K mg base 2 ⟨"_law_begun", 1, [], 2, S__law_begun K⟩ := by
  obtain ⟨fd, F⟩ := c.d.def_ 0 (d := d__law_begun) rfl
  exact mk_fn (ix := [0]) (fun acts vs H Q E => spBegun K acts vs [] H Q E) F (c.g 0 _ rfl) sc__law_begun (fun _ _ _ _ _ _ us ws h1 h2 => match us, ws, h1, h2 with | [_], [], _, _ => rfl) (mdOf K) c.m (.inl rfl) (fl__law_begun K) (fun _ z => nomatch z) false (fun z => nomatch z) (TT K) none (fun _ z => nomatch z) (fun cells acts E => t__law_begun K cells acts (TT K) none (fun cls d _ H' => E cls d H')) (fun cells acts E => eq__law_begun K cells acts (TT K)  _) (fun cells acts vs H Q E h => ⟨ln_begun h, begun_ok rfl h⟩) (fun _ _ _ _ _ _ _ _ h => hi_begun h)
theorem fs__law_draw (c : Ctx P w K mg base) : FnEOk P w K mg base 2 ⟨"_law_draw", 2, [], 2, S__law_draw K⟩ := by
  obtain ⟨fd, F⟩ := c.d.def_ 1 (d := d__law_draw) rfl
  exact mk_fn (ix := [0, 1]) (fun acts vs H Q E => spDraw acts vs [] H Q E) F (c.g 1 _ rfl) sc__law_draw (fun _ _ _ _ _ _ us ws h1 h2 => match us, ws, h1, h2 with | [_, _], [], _, _ => rfl) (mdOf K) c.m (.inl rfl) (fl__law_draw K) (fun _ z => nomatch z) false (fun z => nomatch z) (TT K) none (fun _ z => nomatch z) (fun cells acts E => t__law_draw K cells acts (TT K) none (fun cls d _ H' => E cls d H')) (fun cells acts E => eq__law_draw K cells acts (TT K)  _) (fun cells acts vs H Q E h => ⟨ln_draw h, draw_ok rfl h⟩) (fun _ _ _ _ _ _ _ _ h => hi_draw h)
theorem fs__law_pick (c : Ctx P w K mg base) : FnEOk P w K mg base 3 ⟨"_law_pick", 2, [], 3, S__law_pick K⟩ := by
  obtain ⟨fd, F⟩ := c.d.def_ 2 (d := d__law_pick) rfl
  exact mk_fn (ix := [0, 1]) (fun acts vs H Q E => spPick acts vs [] H Q E) F (c.g 2 _ rfl) sc__law_pick (fun _ _ _ _ _ _ us ws h1 h2 => match us, ws, h1, h2 with | [_, _], [], _, _ => rfl) (mdOf K) c.m (.inl rfl) (fl__law_pick K) (List.forall_mem_cons.mpr ⟨(fs__law_draw c).mono (by decide), (fun _ z => nomatch z)⟩) false (fun z => nomatch z) (TT K) none (fun _ z => nomatch z) (fun cells acts E => t__law_pick K cells acts (TT K) none (fun cls d _ H' => E cls d H')) (fun cells acts E => eq__law_pick K cells acts (TT K)  _) (fun cells acts vs H Q E h => ⟨ln_pick h, pick_ok rfl h⟩) (fun _ _ _ _ _ _ _ _ h => hi_pick h)
theorem fs__law_odd (c : Ctx P w K mg base) : FnEOk P w K mg base 4 ⟨"_law_odd", 1, [], 4, S__law_odd K⟩ := by
  obtain ⟨fd, F⟩ := c.d.def_ 3 (d := d__law_odd) rfl
  exact mk_fn (ix := [0]) (fun _ vs H Q E => sp_odd K vs H Q E) F (c.g 3 _ rfl) sc__law_odd (fun _ _ _ _ _ _ us ws h1 h2 => match us, ws, h1, h2 with | [_], [], _, _ => rfl) (mdOf K) c.m (.inl rfl) (fl__law_odd K) (List.forall_mem_cons.mpr ⟨(fs__law_pick c).mono (by decide), (fun _ z => nomatch z)⟩) false (fun z => nomatch z) (TT K) none (fun _ z => nomatch z) (fun cells acts E => t__law_odd K cells acts (TT K) none (fun cls d _ H' => E cls d H')) (fun cells acts E => eq__law_odd K cells acts (TT K)  _) (fun cells acts vs H Q E h => ok__law_odd  h) (fun _ _ _ _ _ _ _ _ h => h)
theorem fs__law_kinds_a (c : Ctx P w K mg base) : FnEOk P w K mg base 2 ⟨"_law_kinds_a", 1, [], 2, S__law_kinds_a K⟩ := by
  obtain ⟨fd, F⟩ := c.d.def_ 4 (d := d__law_kinds_a) rfl
  exact mk_fn (ix := [0]) (fun _ vs H Q E => sp_kinds K Ga vs H Q E) F (c.g 4 _ rfl) sc__law_kinds_a (fun _ _ _ _ _ _ us ws h1 h2 => match us, ws, h1, h2 with | [_], [], _, _ => rfl) (mdOf K) c.m (.inl rfl) (fl__law_kinds_a K) (fun _ z => nomatch z) false (fun z => nomatch z) (TT K) none (fun _ z => nomatch z) (fun cells acts E => t__law_kinds_a K cells acts (TT K) none (fun cls d _ H' => E cls d H')) (fun cells acts E => eq__law_kinds_a K cells acts (TT K)  _) (fun cells acts vs H Q E h => ok__law_kinds_a c.F h) (fun _ _ _ _ _ _ _ _ h => h)
theorem fs__law_kinds_b (c : Ctx P w K mg base) : FnEOk P w K mg base 2 ⟨"_law_kinds_b", 1, [], 2, S__law_kinds_b K⟩ := by
  obtain ⟨fd, F⟩ := c.d.def_ 5 (d := d__law_kinds_b) rfl
  exact mk_fn (ix := [0]) (fun _ vs H Q E => sp_kinds K Gb vs H Q E) F (c.g 5 _ rfl) sc__law_kinds_b (fun _ _ _ _ _ _ us ws h1 h2 => match us, ws, h1, h2 with | [_], [], _, _ => rfl) (mdOf K) c.m (.inl rfl) (fl__law_kinds_b K) (fun _ z => nomatch z) false (fun z => nomatch z) (TT K) none (fun _ z => nomatch z) (fun cells acts E => t__law_kinds_b K cells acts (TT K) none (fun cls d _ H' => E cls d H')) (fun cells acts E => eq__law_kinds_b K cells acts (TT K)  _) (fun cells acts vs H Q E h => ok__law_kinds_b c.F h) (fun _ _ _ _ _ _ _ _ h => h)
theorem fs__law_kinds_c (c : Ctx P w K mg base) : FnEOk P w K mg base 2 ⟨"_law_kinds_c", 1, [], 2, S__law_kinds_c K⟩ := by
  obtain ⟨fd, F⟩ := c.d.def_ 6 (d := d__law_kinds_c) rfl
  exact mk_fn (ix := [0]) (fun _ vs H Q E => sp_kinds K Gc vs H Q E) F (c.g 6 _ rfl) sc__law_kinds_c (fun _ _ _ _ _ _ us ws h1 h2 => match us, ws, h1, h2 with | [_], [], _, _ => rfl) (mdOf K) c.m (.inl rfl) (fl__law_kinds_c K) (fun _ z => nomatch z) false (fun z => nomatch z) (TT K) none (fun _ z => nomatch z) (fun cells acts E => t__law_kinds_c K cells acts (TT K) none (fun cls d _ H' => E cls d H')) (fun cells acts E => eq__law_kinds_c K cells acts (TT K)  _) (fun cells acts vs H Q E h => ok__law_kinds_c c.F h) (fun _ _ _ _ _ _ _ _ h => h)
theorem fs__law_kinds_d (c : Ctx P w K mg base) : FnEOk P w K mg base 2 ⟨"_law_kinds_d", 1, [], 2, S__law_kinds_d K⟩ := by
  obtain ⟨fd, F⟩ := c.d.def_ 7 (d := d__law_kinds_d) rfl
  exact mk_fn (ix := [0]) (fun _ vs H Q E => sp_kinds K Gd vs H Q E) F (c.g 7 _ rfl) sc__law_kinds_d (fun _ _ _ _ _ _ us ws h1 h2 => match us, ws, h1, h2 with | [_], [], _, _ => rfl) (mdOf K) c.m (.inl rfl) (fl__law_kinds_d K) (fun _ z => nomatch z) false (fun z => nomatch z) (TT K) none (fun _ z => nomatch z) (fun cells acts E => t__law_kinds_d K cells acts (TT K) none (fun cls d _ H' => E cls d H')) (fun cells acts E => eq__law_kinds_d K cells acts (TT K)  _) (fun cells acts vs H Q E h => ok__law_kinds_d c.F h) (fun _ _ _ _ _ _ _ _ h => h)
theorem fs__law_kinds_e (c : Ctx P w K mg base) : FnEOk P w K mg base 2 ⟨"_law_kinds_e", 1, [], 2, S__law_kinds_e K⟩ := by
  obtain ⟨fd, F⟩ := c.d.def_ 8 (d := d__law_kinds_e) rfl
  exact mk_fn (ix := [0]) (fun _ vs H Q E => sp_kinds K Ge vs H Q E) F (c.g 8 _ rfl) sc__law_kinds_e (fun _ _ _ _ _ _ us ws h1 h2 => match us, ws, h1, h2 with | [_], [], _, _ => rfl) (mdOf K) c.m (.inl rfl) (fl__law_kinds_e K) (fun _ z => nomatch z) false (fun z => nomatch z) (TT K) none (fun _ z => nomatch z) (fun cells acts E => t__law_kinds_e K cells acts (TT K) none (fun cls d _ H' => E cls d H')) (fun cells acts E => eq__law_kinds_e K cells acts (TT K)  _) (fun cells acts vs H Q E h => ok__law_kinds_e c.F h) (fun _ _ _ _ _ _ _ _ h => h)
theorem fs__law_plain_a (c : Ctx P w K mg base) : FnEOk P w K mg base 2 ⟨"_law_plain_a", 1, [], 2, S__law_plain_a K⟩ := by
  obtain ⟨fd, F⟩ := c.d.def_ 9 (d := d__law_plain_a) rfl
  exact mk_fn (ix := [0]) (fun _ vs H Q E => sp_plain K vs H Q E) F (c.g 9 _ rfl) sc__law_plain_a (fun _ _ _ _ _ _ us ws h1 h2 => match us, ws, h1, h2 with | [_], [], _, _ => rfl) (mdOf K) c.m (.inl rfl) (fl__law_plain_a K) (List.forall_mem_cons.mpr ⟨(fs_BadAt c).mono (by decide), (List.forall_mem_cons.mpr ⟨(fs_BadBits c).mono (by decide), (List.forall_mem_cons.mpr ⟨(fs_BadBlock c).mono (by decide), (List.forall_mem_cons.mpr ⟨(fs_BadBook c).mono (by decide), (List.forall_mem_cons.mpr ⟨(fs_BadBounds c).mono (by decide), (List.forall_mem_cons.mpr ⟨(fs_BadChosen c).mono (by decide), (List.forall_mem_cons.mpr ⟨(fs_BadCut c).mono (by decide), (List.forall_mem_cons.mpr ⟨(fs_BadDelay c).mono (by decide), (List.forall_mem_cons.mpr ⟨(fs_BadError c).mono (by decide), (List.forall_mem_cons.mpr ⟨(fs_BadField c).mono (by decide), (List.forall_mem_cons.mpr ⟨(fs_BadFrame c).mono (by decide), (List.forall_mem_cons.mpr ⟨(fs_BadGains c).mono (by decide), (List.forall_mem_cons.mpr ⟨(fs_BadGrade c).mono (by decide), (List.forall_mem_cons.mpr ⟨(fs_BadGuess c).mono (by decide), (List.forall_mem_cons.mpr ⟨(fs_BadHold c).mono (by decide), (List.forall_mem_cons.mpr ⟨(fs_BadHurt c).mono (by decide), (List.forall_mem_cons.mpr ⟨(fs_BadIndex c).mono (by decide), (List.forall_mem_cons.mpr ⟨(fs_BadKind c).mono (by decide), (List.forall_mem_cons.mpr ⟨(fs_BadLeast c).mono (by decide), (List.forall_mem_cons.mpr ⟨(fs_BadLoss c).mono (by decide), (fun _ z => nomatch z)⟩)⟩)⟩)⟩)⟩)⟩)⟩)⟩)⟩)⟩)⟩)⟩)⟩)⟩)⟩)⟩)⟩)⟩)⟩)⟩) false (fun z => nomatch z) (TT K) none (fun _ z => nomatch z) (fun cells acts E => t__law_plain_a K cells acts (TT K) none (fun cls d _ H' => E cls d H')) (fun cells acts E => eq__law_plain_a K cells acts (TT K)  _) (fun cells acts vs H Q E h => ok__law_plain_a  h) (fun _ _ _ _ _ _ _ _ h => h)
theorem fs__law_plain_b (c : Ctx P w K mg base) : FnEOk P w K mg base 2 ⟨"_law_plain_b", 1, [], 2, S__law_plain_b K⟩ := by
  obtain ⟨fd, F⟩ := c.d.def_ 10 (d := d__law_plain_b) rfl
  exact mk_fn (ix := [0]) (fun _ vs H Q E => sp_plain K vs H Q E) F (c.g 10 _ rfl) sc__law_plain_b (fun _ _ _ _ _ _ us ws h1 h2 => match us, ws, h1, h2 with | [_], [], _, _ => rfl) (mdOf K) c.m (.inl rfl) (fl__law_plain_b K) (List.forall_mem_cons.mpr ⟨(fs_BadLosses c).mono (by decide), (List.forall_mem_cons.mpr ⟨(fs_BadLot c).mono (by decide), (List.forall_mem_cons.mpr ⟨(fs_BadLots c).mono (by decide), (List.forall_mem_cons.mpr ⟨(fs_BadMany c).mono (by decide), (List.forall_mem_cons.mpr ⟨(fs_BadMemory c).mono (by decide), (List.forall_mem_cons.mpr ⟨(fs_BadMost c).mono (by decide), (List.forall_mem_cons.mpr ⟨(fs_BadNumber c).mono (by decide), (List.forall_mem_cons.mpr ⟨(fs_BadOrder c).mono (by decide), (List.forall_mem_cons.mpr ⟨(fs_BadOther c).mono (by decide), (List.forall_mem_cons.mpr ⟨(fs_BadPlace c).mono (by decide), (List.forall_mem_cons.mpr ⟨(fs_BadPlan c).mono (by decide), (List.forall_mem_cons.mpr ⟨(fs_BadPlane c).mono (by decide), (List.forall_mem_cons.mpr ⟨(fs_BadPlanes c).mono (by decide), (List.forall_mem_cons.mpr ⟨(fs_BadPrice c).mono (by decide), (List.forall_mem_cons.mpr ⟨(fs_BadRate c).mono (by decide), (List.forall_mem_cons.mpr ⟨(fs_BadReach c).mono (by decide), (List.forall_mem_cons.mpr ⟨(fs_BadRectangle c).mono (by decide), (List.forall_mem_cons.mpr ⟨(fs_BadReferences c).mono (by decide), (List.forall_mem_cons.mpr ⟨(fs_BadRoom c).mono (by decide), (List.forall_mem_cons.mpr ⟨(fs_BadRow c).mono (by decide), (fun _ z => nomatch z)⟩)⟩)⟩)⟩)⟩)⟩)⟩)⟩)⟩)⟩)⟩)⟩)⟩)⟩)⟩)⟩)⟩)⟩)⟩)⟩) false (fun z => nomatch z) (TT K) none (fun _ z => nomatch z) (fun cells acts E => t__law_plain_b K cells acts (TT K) none (fun cls d _ H' => E cls d H')) (fun cells acts E => eq__law_plain_b K cells acts (TT K)  _) (fun cells acts vs H Q E h => ok__law_plain_b  h) (fun _ _ _ _ _ _ _ _ h => h)
theorem fs__law_plain_c (c : Ctx P w K mg base) : FnEOk P w K mg base 2 ⟨"_law_plain_c", 1, [], 2, S__law_plain_c K⟩ := by
  obtain ⟨fd, F⟩ := c.d.def_ 11 (d := d__law_plain_c) rfl
  exact mk_fn (ix := [0]) (fun _ vs H Q E => sp_plain K vs H Q E) F (c.g 11 _ rfl) sc__law_plain_c (fun _ _ _ _ _ _ us ws h1 h2 => match us, ws, h1, h2 with | [_], [], _, _ => rfl) (mdOf K) c.m (.inl rfl) (fl__law_plain_c K) (List.forall_mem_cons.mpr ⟨(fs_BadSet c).mono (by decide), (List.forall_mem_cons.mpr ⟨(fs_BadShares c).mono (by decide), (List.forall_mem_cons.mpr ⟨(fs_BadShift c).mono (by decide), (List.forall_mem_cons.mpr ⟨(fs_BadShows c).mono (by decide), (List.forall_mem_cons.mpr ⟨(fs_BadSize c).mono (by decide), (List.forall_mem_cons.mpr ⟨(fs_BadSizes c).mono (by decide), (List.forall_mem_cons.mpr ⟨(fs_BadSpans c).mono (by decide), (List.forall_mem_cons.mpr ⟨(fs_BadSpot c).mono (by decide), (List.forall_mem_cons.mpr ⟨(fs_BadState c).mono (by decide), (List.forall_mem_cons.mpr ⟨(fs_BadTelling c).mono (by decide), (List.forall_mem_cons.mpr ⟨(fs_BadUpper c).mono (by decide), (List.forall_mem_cons.mpr ⟨(fs_BadVector c).mono (by decide), (List.forall_mem_cons.mpr ⟨(fs_BadWait c).mono (by decide), (List.forall_mem_cons.mpr ⟨(fs_BadWanted c).mono (by decide), (List.forall_mem_cons.mpr ⟨(fs_BadWay c).mono (by decide), (List.forall_mem_cons.mpr ⟨(fs_BadWish c).mono (by decide), (List.forall_mem_cons.mpr ⟨(fs_BadWorths c).mono (by decide), (List.forall_mem_cons.mpr ⟨(fs_NothingDone c).mono (by decide), (List.forall_mem_cons.mpr ⟨(fs_OtherKinds c).mono (by decide), (List.forall_mem_cons.mpr ⟨(fs_OtherShapes c).mono (by decide), (fun _ z => nomatch z)⟩)⟩)⟩)⟩)⟩)⟩)⟩)⟩)⟩)⟩)⟩)⟩)⟩)⟩)⟩)⟩)⟩)⟩)⟩)⟩) false (fun z => nomatch z) (TT K) none (fun _ z => nomatch z) (fun cells acts E => t__law_plain_c K cells acts (TT K) none (fun cls d _ H' => E cls d H')) (fun cells acts E => eq__law_plain_c K cells acts (TT K)  _) (fun cells acts vs H Q E h => ok__law_plain_c  h) (fun _ _ _ _ _ _ _ _ h => h)
theorem fs__law_held (c : Ctx P w K mg base) : FnEOk P w K mg base 2 ⟨"_law_held", 1, [], 2, S__law_held K⟩ := by
  obtain ⟨fd, F⟩ := c.d.def_ 12 (d := d__law_held) rfl
  exact mk_fn (ix := [0]) (fun _ vs H Q E => sp_held K vs H Q E) F (c.g 12 _ rfl) sc__law_held (fun _ _ _ _ _ _ us ws h1 h2 => match us, ws, h1, h2 with | [_], [], _, _ => rfl) (mdOf K) c.m (.inl rfl) (fl__law_held K) (List.forall_mem_cons.mpr ⟨(fs_BadCosts c).mono (by decide), (List.forall_mem_cons.mpr ⟨(fs_BadFrames c).mono (by decide), (List.forall_mem_cons.mpr ⟨(fs_BadHead c).mono (by decide), (List.forall_mem_cons.mpr ⟨(fs_BadItem c).mono (by decide), (List.forall_mem_cons.mpr ⟨(fs_BadJobs c).mono (by decide), (List.forall_mem_cons.mpr ⟨(fs_BadMode c).mono (by decide), (List.forall_mem_cons.mpr ⟨(fs_BadReel c).mono (by decide), (List.forall_mem_cons.mpr ⟨(fs_BadRenewals c).mono (by decide), (List.forall_mem_cons.mpr ⟨(fs_BadShape c).mono (by decide), (List.forall_mem_cons.mpr ⟨(fs_BadStock c).mono (by decide), (List.forall_mem_cons.mpr ⟨(fs_BadStore c).mono (by decide), (List.forall_mem_cons.mpr ⟨(fs_BadStream c).mono (by decide), (List.forall_mem_cons.mpr ⟨(fs_BadStretch c).mono (by decide), (List.forall_mem_cons.mpr ⟨(fs_BadWeb c).mono (by decide), (List.forall_mem_cons.mpr ⟨(fs_NotNow c).mono (by decide), (List.forall_mem_cons.mpr ⟨(fs_TooMany c).mono (by decide), (fun _ z => nomatch z)⟩)⟩)⟩)⟩)⟩)⟩)⟩)⟩)⟩)⟩)⟩)⟩)⟩)⟩)⟩)⟩) false (fun z => nomatch z) (TT K) none (fun _ z => nomatch z) (fun cells acts E => t__law_held K cells acts (TT K) none (fun cls d _ H' => E cls d H')) (fun cells acts E => eq__law_held K cells acts (TT K)  _) (fun cells acts vs H Q E h => ok__law_held c.F h) (fun _ _ _ _ _ _ _ _ h => h)
theorem fs__law_held_by_name (c : Ctx P w K mg base) : FnEOk P w K mg base 2 ⟨"_law_held_by_name", 1, [], 2, S__law_held_by_name K⟩ := by
  obtain ⟨fd, F⟩ := c.d.def_ 13 (d := d__law_held_by_name) rfl
  exact mk_fn (ix := [0]) (fun _ vs H Q E => sp_held K vs H Q E) F (c.g 13 _ rfl) sc__law_held_by_name (fun _ _ _ _ _ _ us ws h1 h2 => match us, ws, h1, h2 with | [_], [], _, _ => rfl) (mdOf K) c.m (.inl rfl) (fl__law_held_by_name K) (List.forall_mem_cons.mpr ⟨(fs_BadCosts_k0_at c).mono (by decide), (List.forall_mem_cons.mpr ⟨(fs_BadFrames_k0_at c).mono (by decide), (List.forall_mem_cons.mpr ⟨(fs_BadHead_k0_part c).mono (by decide), (List.forall_mem_cons.mpr ⟨(fs_BadItem_k0_at c).mono (by decide), (List.forall_mem_cons.mpr ⟨(fs_BadJobs_k0_at c).mono (by decide), (List.forall_mem_cons.mpr ⟨(fs_BadMode_k0_mode c).mono (by decide), (List.forall_mem_cons.mpr ⟨(fs_BadReel_k0_part c).mono (by decide), (List.forall_mem_cons.mpr ⟨(fs_BadRenewals_k0_at c).mono (by decide), (List.forall_mem_cons.mpr ⟨(fs_BadShape_k0_part c).mono (by decide), (List.forall_mem_cons.mpr ⟨(fs_BadStock_k0_part c).mono (by decide), (List.forall_mem_cons.mpr ⟨(fs_BadStore_k0_at c).mono (by decide), (List.forall_mem_cons.mpr ⟨(fs_BadStream_k0_at c).mono (by decide), (List.forall_mem_cons.mpr ⟨(fs_BadStretch_k0_at c).mono (by decide), (List.forall_mem_cons.mpr ⟨(fs_BadWeb_k0_at c).mono (by decide), (List.forall_mem_cons.mpr ⟨(fs_NotNow_k0_word c).mono (by decide), (List.forall_mem_cons.mpr ⟨(fs_TooMany_k0_most c).mono (by decide), (fun _ z => nomatch z)⟩)⟩)⟩)⟩)⟩)⟩)⟩)⟩)⟩)⟩)⟩)⟩)⟩)⟩)⟩)⟩) false (fun z => nomatch z) (TT K) none (fun _ z => nomatch z) (fun cells acts E => t__law_held_by_name K cells acts (TT K) none (fun cls d _ H' => E cls d H')) (fun cells acts E => eq__law_held_by_name K cells acts (TT K)  _) (fun cells acts vs H Q E h => ok__law_held_by_name c.F h) (fun _ _ _ _ _ _ _ _ h => h)
theorem fs__law_is_alone (c : Ctx P w K mg base) : FnEOk P w K mg base 3 ⟨"_law_is_alone", 2, [], 3, S__law_is_alone K⟩ := by
  obtain ⟨fd, F⟩ := c.d.def_ 14 (d := d__law_is_alone) rfl
  exact mk_fn (ix := [0, 1]) (fun _ vs H Q E => sp_alone K vs H Q E) F (c.g 14 _ rfl) sc__law_is_alone (fun _ _ _ _ _ _ us ws h1 h2 => match us, ws, h1, h2 with | [_, _], [], _, _ => rfl) (mdOf K) c.m (.inl rfl) (fl__law_is_alone K) (List.forall_mem_cons.mpr ⟨(fs__law_kinds_a c).mono (by decide), (List.forall_mem_cons.mpr ⟨(fs__law_kinds_b c).mono (by decide), (List.forall_mem_cons.mpr ⟨(fs__law_kinds_c c).mono (by decide), (List.forall_mem_cons.mpr ⟨(fs__law_kinds_d c).mono (by decide), (List.forall_mem_cons.mpr ⟨(fs__law_kinds_e c).mono (by decide), (fun _ z => nomatch z)⟩)⟩)⟩)⟩)⟩) false (fun z => nomatch z) (TT K) none (fun _ z => nomatch z) (fun cells acts E => t__law_is_alone K cells acts (TT K) none (fun cls d _ H' => E cls d H')) (fun cells acts E => eq__law_is_alone K cells acts (TT K)  _) (fun cells acts vs H Q E h => ok__law_is_alone c.F h) (fun _ _ _ _ _ _ _ _ h => h)
theorem fs_law (c : Ctx P w K mg base) : FnEOk P w K mg base 5 ⟨"law", 1, [], 5, S_law K⟩ := by
  obtain ⟨fd, F⟩ := c.d.def_ 15 (d := d_law) rfl
  exact mk_fn (ix := [0]) (fun _ vs H Q E => sp_law K vs H Q E) F (c.g 15 _ rfl) sc_law (fun _ _ _ _ _ _ us ws h1 h2 => match us, ws, h1, h2 with | [_], [], _, _ => rfl) (mdOf K) c.m (.inl rfl) (fl_law K) (List.forall_mem_cons.mpr ⟨(fs__law_begun c).mono (by decide), (List.forall_mem_cons.mpr ⟨(fs__law_pick c).mono (by decide), (List.forall_mem_cons.mpr ⟨(fs__law_draw c).mono (by decide), (List.forall_mem_cons.mpr ⟨(fs__law_odd c).mono (by decide), (List.forall_mem_cons.mpr ⟨(fs__law_plain_a c).mono (by decide), (List.forall_mem_cons.mpr ⟨(fs__law_plain_b c).mono (by decide), (List.forall_mem_cons.mpr ⟨(fs__law_plain_c c).mono (by decide), (List.forall_mem_cons.mpr ⟨(fs__law_is_alone c).mono (by decide), (List.forall_mem_cons.mpr ⟨(fs__law_held c).mono (by decide), (List.forall_mem_cons.mpr ⟨(fs__law_held_by_name c).mono (by decide), (fun _ z => nomatch z)⟩)⟩)⟩)⟩)⟩)⟩)⟩)⟩)⟩)⟩) false (fun z => nomatch z) (TT K) none (fun _ z => nomatch z) (fun cells acts E => t_law K cells acts (TT K) none (fun cls d _ H' => E cls d H')) (fun cells acts E => eq_law K cells acts (TT K)  _) (fun cells acts vs H Q E h => ok_law c.F h) (fun _ _ _ _ _ _ _ _ h => h)
end
/-- the __init__ takes its value by name -/
def KwS (d : IniD) : Prop := ∀ (kV doc pm cda ct : Value) (an : Option Addr) (cc : Addr) (u v : Value), bindArgs (PySem.W.ksFn "__init__" d.qual d.params d.body d.scope .none kV doc pm an cda ct cc) ⟨[u], [(d.fld, v)]⟩ = pure [(("self" : Str), u), (d.fld, v)]
theorem iniK_ok {K : PySem.W.Frag} {P : Program} {d : IniD} (S : KwS d) (e : iniO K d.x = d.val) (h : iniB K P d = true) : IniK K (He.ga K d.x) d.fld := by
  unfold iniB at h
  obtain ⟨h1, h⟩ := He.ba h
  obtain ⟨h2, h⟩ := He.ba h
  obtain ⟨h3, h⟩ := He.ba h
  obtain ⟨h4, h⟩ := He.ba h
  obtain ⟨h5, h⟩ := He.ba h
  obtain ⟨h6, h⟩ := He.ba h
  obtain ⟨h7, h⟩ := He.ba h
  obtain ⟨h8, h⟩ := He.ba h
  obtain ⟨h9, h⟩ := He.ba h
  obtain ⟨h10, h⟩ := He.ba h
  obtain ⟨h11, h⟩ := He.ba h
  obtain ⟨h12, h⟩ := He.ba h
  obtain ⟨h13, h⟩ := He.ba h
  intro fI oc od fd osl f1 lk u v
  rw [He.eqO_ok h12] at f1
  cases f1
  unfold iniO at e
  rw [lk] at e h
  obtain ⟨n1, n2, n3, n4, n5, n6, n7, n8, n9, n10, n11, n12, n13, n14, n15⟩ := fd
  have e2 : (some (n1, n2, n3, n4, n5, n6, n7.map (·.1), n15) : IniW) = some (("__init__" : Str), d.qual, d.params, FuncBody.stmts d.body, d.scope, mainGlobals, [("__class__" : Str)], builtinsNs) := e
  simp only [Option.some.injEq, Prod.mk.injEq] at e2
  obtain ⟨q1, q2, q3, q4, q5, q6, q7, q8⟩ := e2
  have h' : fdB K P (He.ga K d.x) d.qual ⟨n1, n2, n3, n4, n5, n6, n7, n8, n9, n10, n11, n12, n13, n14, n15⟩ = true := h
  unfold fdB at h'
  obtain ⟨g1, h'⟩ := He.ba h'
  obtain ⟨g2, h'⟩ := He.ba h'
  obtain ⟨g3, g4⟩ := He.ba h'
  dsimp only at g1 g2 g3 g4
  have z2 := of_decide_eq_true g2
  subst z2
  obtain ⟨cda, rfl⟩ := He.codeIn_ref g1
  match n7, q7, g4 with
  | [(y, cc)], q7, g4 =>
    have y1 : y = ("__class__" : Str) := List.head_eq_of_cons_eq q7
    subst y1 q1 q2 q3 q4 q5 q6 q8
    exact S n9 n10 n11 (.ref cda) n14 n12 cc u v
theorem in0_s : IniS PR in0 where
  top := by decide +kernel
  sh := ⟨_, _, _, _, _, _, _, _, _, _, _, _, _, _, rfl, rfl, rfl, rfl, by decide +kernel, fun _ _ _ _ _ _ _ _ _ => rfl⟩
  ncell := by decide +kernel
  nco := rfl
  ngen := rfl
  kind := rfl
  s1 := by decide +kernel
  s2 := by decide +kernel
  s3 := by decide +kernel
  s4 := by decide +kernel
  hd := by decide +kernel
  hs := by decide +kernel
theorem in0_k : KwS in0 := fun _ _ _ _ _ _ _ _ _ => rfl
theorem in1_s : IniS PR in1 where
  top := by decide +kernel
  sh := ⟨_, _, _, _, _, _, _, _, _, _, _, _, _, _, rfl, rfl, rfl, rfl, by decide +kernel, fun _ _ _ _ _ _ _ _ _ => rfl⟩
  ncell := by decide +kernel
  nco := rfl
  ngen := rfl
  kind := rfl
  s1 := by decide +kernel
  s2 := by decide +kernel
  s3 := by decide +kernel
  s4 := by decide +kernel
  hd := by decide +kernel
  hs := by decide +kernel
theorem in1_k : KwS in1 := fun _ _ _ _ _ _ _ _ _ => rfl
theorem in2_s : IniS PR in2 where
  top := by decide +kernel
  sh := ⟨_, _, _, _, _, _, _, _, _, _, _, _, _, _, rfl, rfl, rfl, rfl, by decide +kernel, fun _ _ _ _ _ _ _ _ _ => rfl⟩
  ncell := by decide +kernel
  nco := rfl
  ngen := rfl
  kind := rfl
  s1 := by decide +kernel
  s2 := by decide +kernel
  s3 := by decide +kernel
  s4 := by decide +kernel
  hd := by decide +kernel
  hs := by decide +kernel
theorem in2_k : KwS in2 := fun _ _ _ _ _ _ _ _ _ => rfl
theorem in3_s : IniS PR in3 where
  top := by decide +kernel
  sh := ⟨_, _, _, _, _, _, _, _, _, _, _, _, _, _, rfl, rfl, rfl, rfl, by decide +kernel, fun _ _ _ _ _ _ _ _ _ => rfl⟩
  ncell := by decide +kernel
  nco := rfl
  ngen := rfl
  kind := rfl
  s1 := by decide +kernel
  s2 := by decide +kernel
  s3 := by decide +kernel
  s4 := by decide +kernel
  hd := by decide +kernel
  hs := by decide +kernel
theorem in3_k : KwS in3 := fun _ _ _ _ _ _ _ _ _ => rfl
theorem in4_s : IniS PR in4 where
  top := by decide +kernel
  sh := ⟨_, _, _, _, _, _, _, _, _, _, _, _, _, _, rfl, rfl, rfl, rfl, by decide +kernel, fun _ _ _ _ _ _ _ _ _ => rfl⟩
  ncell := by decide +kernel
  nco := rfl
  ngen := rfl
  kind := rfl
  s1 := by decide +kernel
  s2 := by decide +kernel
  s3 := by decide +kernel
  s4 := by decide +kernel
  hd := by decide +kernel
  hs := by decide +kernel
theorem in4_k : KwS in4 := fun _ _ _ _ _ _ _ _ _ => rfl
theorem in5_s : IniS PR in5 where
  top := by decide +kernel
  sh := ⟨_, _, _, _, _, _, _, _, _, _, _, _, _, _, rfl, rfl, rfl, rfl, by decide +kernel, fun _ _ _ _ _ _ _ _ _ => rfl⟩
  ncell := by decide +kernel
  nco := rfl
  ngen := rfl
  kind := rfl
  s1 := by decide +kernel
  s2 := by decide +kernel
  s3 := by decide +kernel
  s4 := by decide +kernel
  hd := by decide +kernel
  hs := by decide +kernel
theorem in5_k : KwS in5 := fun _ _ _ _ _ _ _ _ _ => rfl
theorem in6_s : IniS PR in6 where
  top := by decide +kernel
  sh := ⟨_, _, _, _, _, _, _, _, _, _, _, _, _, _, rfl, rfl, rfl, rfl, by decide +kernel, fun _ _ _ _ _ _ _ _ _ => rfl⟩
  ncell := by decide +kernel
  nco := rfl
  ngen := rfl
  kind := rfl
  s1 := by decide +kernel
  s2 := by decide +kernel
  s3 := by decide +kernel
  s4 := by decide +kernel
  hd := by decide +kernel
  hs := by decide +kernel
theorem in6_k : KwS in6 := fun _ _ _ _ _ _ _ _ _ => rfl
theorem in7_s : IniS PR in7 where
  top := by decide +kernel
  sh := ⟨_, _, _, _, _, _, _, _, _, _, _, _, _, _, rfl, rfl, rfl, rfl, by decide +kernel, fun _ _ _ _ _ _ _ _ _ => rfl⟩
  ncell := by decide +kernel
  nco := rfl
  ngen := rfl
  kind := rfl
  s1 := by decide +kernel
  s2 := by decide +kernel
  s3 := by decide +kernel
  s4 := by decide +kernel
  hd := by decide +kernel
  hs := by decide +kernel
theorem in7_k : KwS in7 := fun _ _ _ _ _ _ _ _ _ => rfl
theorem in8_s : IniS PR in8 where
  top := by decide +kernel
  sh := ⟨_, _, _, _, _, _, _, _, _, _, _, _, _, _, rfl, rfl, rfl, rfl, by decide +kernel, fun _ _ _ _ _ _ _ _ _ => rfl⟩
  ncell := by decide +kernel
  nco := rfl
  ngen := rfl
  kind := rfl
  s1 := by decide +kernel
  s2 := by decide +kernel
  s3 := by decide +kernel
  s4 := by decide +kernel
  hd := by decide +kernel
  hs := by decide +kernel
theorem in8_k : KwS in8 := fun _ _ _ _ _ _ _ _ _ => rfl
theorem in9_s : IniS PR in9 where
  top := by decide +kernel
  sh := ⟨_, _, _, _, _, _, _, _, _, _, _, _, _, _, rfl, rfl, rfl, rfl, by decide +kernel, fun _ _ _ _ _ _ _ _ _ => rfl⟩
  ncell := by decide +kernel
  nco := rfl
  ngen := rfl
  kind := rfl
  s1 := by decide +kernel
  s2 := by decide +kernel
  s3 := by decide +kernel
  s4 := by decide +kernel
  hd := by decide +kernel
  hs := by decide +kernel
theorem in9_k : KwS in9 := fun _ _ _ _ _ _ _ _ _ => rfl
theorem in10_s : IniS PR in10 where
  top := by decide +kernel
  sh := ⟨_, _, _, _, _, _, _, _, _, _, _, _, _, _, rfl, rfl, rfl, rfl, by decide +kernel, fun _ _ _ _ _ _ _ _ _ => rfl⟩
  ncell := by decide +kernel
  nco := rfl
  ngen := rfl
  kind := rfl
  s1 := by decide +kernel
  s2 := by decide +kernel
  s3 := by decide +kernel
  s4 := by decide +kernel
  hd := by decide +kernel
  hs := by decide +kernel
theorem in10_k : KwS in10 := fun _ _ _ _ _ _ _ _ _ => rfl
theorem in11_s : IniS PR in11 where
  top := by decide +kernel
  sh := ⟨_, _, _, _, _, _, _, _, _, _, _, _, _, _, rfl, rfl, rfl, rfl, by decide +kernel, fun _ _ _ _ _ _ _ _ _ => rfl⟩
  ncell := by decide +kernel
  nco := rfl
  ngen := rfl
  kind := rfl
  s1 := by decide +kernel
  s2 := by decide +kernel
  s3 := by decide +kernel
  s4 := by decide +kernel
  hd := by decide +kernel
  hs := by decide +kernel
theorem in11_k : KwS in11 := fun _ _ _ _ _ _ _ _ _ => rfl
theorem in12_s : IniS PR in12 where
  top := by decide +kernel
  sh := ⟨_, _, _, _, _, _, _, _, _, _, _, _, _, _, rfl, rfl, rfl, rfl, by decide +kernel, fun _ _ _ _ _ _ _ _ _ => rfl⟩
  ncell := by decide +kernel
  nco := rfl
  ngen := rfl
  kind := rfl
  s1 := by decide +kernel
  s2 := by decide +kernel
  s3 := by decide +kernel
  s4 := by decide +kernel
  hd := by decide +kernel
  hs := by decide +kernel
theorem in12_k : KwS in12 := fun _ _ _ _ _ _ _ _ _ => rfl
theorem in13_s : IniS PR in13 where
  top := by decide +kernel
  sh := ⟨_, _, _, _, _, _, _, _, _, _, _, _, _, _, rfl, rfl, rfl, rfl, by decide +kernel, fun _ _ _ _ _ _ _ _ _ => rfl⟩
  ncell := by decide +kernel
  nco := rfl
  ngen := rfl
  kind := rfl
  s1 := by decide +kernel
  s2 := by decide +kernel
  s3 := by decide +kernel
  s4 := by decide +kernel
  hd := by decide +kernel
  hs := by decide +kernel
theorem in13_k : KwS in13 := fun _ _ _ _ _ _ _ _ _ => rfl
theorem in14_s : IniS PR in14 where
  top := by decide +kernel
  sh := ⟨_, _, _, _, _, _, _, _, _, _, _, _, _, _, rfl, rfl, rfl, rfl, by decide +kernel, fun _ _ _ _ _ _ _ _ _ => rfl⟩
  ncell := by decide +kernel
  nco := rfl
  ngen := rfl
  kind := rfl
  s1 := by decide +kernel
  s2 := by decide +kernel
  s3 := by decide +kernel
  s4 := by decide +kernel
  hd := by decide +kernel
  hs := by decide +kernel
theorem in14_k : KwS in14 := fun _ _ _ _ _ _ _ _ _ => rfl
theorem in15_s : IniS PR in15 where
  top := by decide +kernel
  sh := ⟨_, _, _, _, _, _, _, _, _, _, _, _, _, _, rfl, rfl, rfl, rfl, by decide +kernel, fun _ _ _ _ _ _ _ _ _ => rfl⟩
  ncell := by decide +kernel
  nco := rfl
  ngen := rfl
  kind := rfl
  s1 := by decide +kernel
  s2 := by decide +kernel
  s3 := by decide +kernel
  s4 := by decide +kernel
  hd := by decide +kernel
  hs := by decide +kernel
theorem in15_k : KwS in15 := fun _ _ _ _ _ _ _ _ _ => rfl
theorem ini_s : ∀ (i : Nat) (d : IniD), ini[i]? = some d → IniS PR d ∧ KwS d
  | 0, _, e => by
    cases e
    exact ⟨in0_s, in0_k⟩
  | 1, _, e => by
    cases e
    exact ⟨in1_s, in1_k⟩
  | 2, _, e => by
    cases e
    exact ⟨in2_s, in2_k⟩
  | 3, _, e => by
    cases e
    exact ⟨in3_s, in3_k⟩
  | 4, _, e => by
    cases e
    exact ⟨in4_s, in4_k⟩
  | 5, _, e => by
    cases e
    exact ⟨in5_s, in5_k⟩
  | 6, _, e => by
    cases e
    exact ⟨in6_s, in6_k⟩
  | 7, _, e => by
    cases e
    exact ⟨in7_s, in7_k⟩
  | 8, _, e => by
    cases e
    exact ⟨in8_s, in8_k⟩
  | 9, _, e => by
    cases e
    exact ⟨in9_s, in9_k⟩
  | 10, _, e => by
    cases e
    exact ⟨in10_s, in10_k⟩
  | 11, _, e => by
    cases e
    exact ⟨in11_s, in11_k⟩
  | 12, _, e => by
    cases e
    exact ⟨in12_s, in12_k⟩
  | 13, _, e => by
    cases e
    exact ⟨in13_s, in13_k⟩
  | 14, _, e => by
    cases e
    exact ⟨in14_s, in14_k⟩
  | 15, _, e => by
    cases e
    exact ⟨in15_s, in15_k⟩
  | n + 16, _, e => nomatch e
abbrev hk : PySem.W.Hook := hookZ fa fn ini exx
def ob (s : PySem.W.SharedT) : AlY := obsZ fa fn ini exx (HandSHeadRun.getT s)
theorem ob_eq (s : PySem.W.SharedT) : ob s = hk.obs s.abs := obsZ_eq (HandSHeadRun.getT_eq s)
theorem fa_all {K : PySem.W.Frag} (h0 : (fa0.all fun f => f.ok K) = true) (h1 : (gvN.all fun x => (He.Fa.glo x).ok K) = true) (h2 : ((fa1.take 30).all fun f => f.ok K) = true) (h3 : ((fa1.drop 30).all fun f => f.ok K) = true) : (fa.all fun f => f.ok K) = true := by
  have e : fa1 = fa1.take 30 ++ fa1.drop 30 := (List.take_append_drop 30 fa1).symm
  show ((fa0 ++ (gvN.map He.Fa.glo ++ fa1)).all fun f => f.ok K) = true
  rw [List.all_append, h0, List.all_append, List.all_map, e, List.all_append, h2, h3, Bool.true_and, Bool.and_true]
  simpa [Function.comp] using h1
theorem ob_of {w : World} {s : PySem.W.SharedT} (a : (fn.map fun d => He.fnW (kof s) d.at_) = fn.map He.DefD.val) (a2 : (fn.all fun d => d.ok (kof s)) = true) (b : (fa.all fun f => f.ok (kof s)) = true) (c : exx (kof s) = true) (d : (ini.map fun d => iniO (kof s) d.x) = ini.map IniD.val) : ob s = hk.val w := by
  show ((((((fa.all fun f => f.ok (kof s)) && fn.all fun d => d.ok (kof s)), fn.map fun d => He.fnW (kof s) d.at_), []), exx (kof s)), ini.map fun d => iniO (kof s) d.x) = ((((true, fn.map He.DefD.val), []), true), ini.map IniD.val)
  rw [a, a2, b, c, d]
  rfl
/-- the parts, put together -/
theorem run_of {w : World} {e : Option PySem.W.SharedT} {l : PySem.W.SharedT → Bool} {β : Type} {sn : PySem.W.SharedT → β} {good : β}
    (h1 : e.map l = some true) (h2 : e.map sn = some good)
    (h3 : e.map (fun s => ((fn.map fun d => He.fnW (kof s) d.at_, (fa0.all fun f => f.ok (kof s)), fn.all fun d => d.ok (kof s)), gvN.all fun x => (He.Fa.glo x).ok (kof s))) = some ((fn.map He.DefD.val, true, true), true))
    (h4 : e.map (fun s => ((fa1.take 30).all fun f => f.ok (kof s), (fa1.drop 30).all fun f => f.ok (kof s))) = some (true, true))
    (h5 : e.map (fun s => (x1 (kof s), x2 (kof s))) = some (true, true)) (h6 : e.map (fun s => (x3 (kof s), x4 (kof s) && x5 (kof s))) = some (true, true))
    (h7 : e.map (fun s => (ini.map fun d => iniO (kof s) d.x, x6 (kof s))) = some (ini.map IniD.val, true)) :
    e.map (fun s => (l s, sn s, ob s)) = some (true, good, hk.val w) := by
  cases e with
  | none => cases h1
  | some s =>
    have a1 : l s = true := Option.some.inj h1
    have a2 : sn s = good := Option.some.inj h2
    have g3 : ((fn.map fun d => He.fnW (kof s) d.at_, (fa0.all fun f => f.ok (kof s)), fn.all fun d => d.ok (kof s)), gvN.all fun x => (He.Fa.glo x).ok (kof s)) = ((fn.map He.DefD.val, true, true), true) := Option.some.inj h3
    have g4 : ((fa1.take 30).all fun f => f.ok (kof s), (fa1.drop 30).all fun f => f.ok (kof s)) = (true, true) := Option.some.inj h4
    have g5 : (x1 (kof s), x2 (kof s)) = (true, true) := Option.some.inj h5
    have g6 : (x3 (kof s), x4 (kof s) && x5 (kof s)) = (true, true) := Option.some.inj h6
    have g7 : (ini.map fun d => iniO (kof s) d.x, x6 (kof s)) = (ini.map IniD.val, true) := Option.some.inj h7
    obtain ⟨b1, b7⟩ := Prod.mk.inj g3
    obtain ⟨b3, b4⟩ := Prod.mk.inj b1
    obtain ⟨b5, b6⟩ := Prod.mk.inj b4
    obtain ⟨b8, c1⟩ := Prod.mk.inj g4
    obtain ⟨c3, c4⟩ := Prod.mk.inj g5
    obtain ⟨d1, d3⟩ := Prod.mk.inj g6
    obtain ⟨d5, d6⟩ := Prod.mk.inj g7
    have hx : exx (kof s) = true := by
      unfold exx
      rw [c3, c4, d1, d6]
      simpa using d3
    have ho : ob s = hk.val w := ob_of b3 b6 (fa_all b5 b7 b8 c1) hx d5
    show some (l s, sn s, ob s) = some (true, good, hk.val w)
    exact congrArg some (Prod.ext a1 (Prod.ext a2 ho))
theorem run (w : World) : HandSHeadRun.RunEq R (PySem.W.view R.prog [94]) hk ob 100000 loose w := fun os => run_of (r1 w os) (r2 w os) (r3 w os) (r4 w os) (r5 w os) (r6 w os) (r7 w os)
end K00

set_option Elab.async false
set_option linter.all false
set_option maxRecDepth 100000
set_option maxHeartbeats 0
namespace K00
open PySem PySem.Spec PyProof.Rows L2 LamX G Pk
theorem ini_ni : ini.map (fun d => (d.x, d.fld)) = NI := by decide +kernel
/-! ### isinstance between the classes, from their mro -/
theorem ord_pw : ∀ (l : List Nat), ordB l = true → l.Pairwise (· < ·)
  | [], _ => .nil
  | [a], _ => List.pairwise_singleton _ _
  | a :: b :: r, h => by
    have h' : (decide (a < b) && ordB (b :: r)) = true := h
    obtain ⟨h1, h2⟩ := He.ba h'
    have p := ord_pw (b :: r) h2
    refine List.Pairwise.cons (fun x hx => ?_) p
    rcases List.mem_cons.mp hx with rfl | hx
    · exact of_decide_eq_true h1
    · exact Nat.lt_trans (of_decide_eq_true h1) (List.rel_of_pairwise_cons p hx)
theorem inj_of {f : Str → Nat} : ∀ {l : List Str}, (l.map f).Pairwise (· < ·) → ∀ x ∈ l, ∀ y ∈ l, f x = f y → x = y
  | [], _, x, hx, _, _, _ => nomatch hx
  | a :: r, p, x, hx, y, hy, e => by
    rw [List.map_cons, List.pairwise_cons] at p
    rcases List.mem_cons.mp hx with e1 | hx2
    · rcases List.mem_cons.mp hy with e2 | hy2
      · rw [e1, e2]
      · rw [e1] at e
        exact absurd e (Nat.ne_of_lt (p.1 _ (List.mem_map_of_mem hy2)))
    · rcases List.mem_cons.mp hy with e2 | hy2
      · rw [e2] at e
        exact absurd e.symm (Nat.ne_of_lt (p.1 _ (List.mem_map_of_mem hx2)))
      · exact inj_of p.2 x hx2 y hy2 e
theorem nm_no : ∀ D ∈ NM, D ∈ NO := by decide +kernel
theorem re_no : ("ReelError" : Str) ∈ NO := by decide +kernel
theorem re_nm : ("ReelError" : Str) ∉ NM := by decide +kernel
theorem ve_meta : PySem.W.kitMeta "ValueError" = true := by decide +kernel
section
variable {K : PySem.W.Frag} {a c : Addr} {L : List Value} {base : Value} {D C : Str}
theorem mro_in (h : (PySem.W.clsIn K a).map (fun c => c.mro) = some L) (hne : L.isEmpty = false) : PySem.W.subIn K (.ref a) base = some (L.contains base) := by
  obtain ⟨cd, e1, e2⟩ := Option.map_eq_some_iff.mp h
  show (PySem.W.clsIn K a).bind (fun cd => if cd.mro.isEmpty then none else some (cd.mro.contains base)) = _
  rw [e1]
  show (if cd.mro.isEmpty then none else some (cd.mro.contains base)) = _
  rw [e2, hne]
  rfl
theorem kit_ref {v : Bool} (n : (Value.ref a == Value.ref c) = false) (h1 : (PySem.W.clsIn K c).isSome = true) (h2 : PySem.W.typeIn K (.ref c) = some (.type "type")) (h3 : PySem.W.subIn K (.ref a) (.ref c) = some v) : PySem.W.kitOne K (.ref a) (.ref c) = some v := by
  unfold PySem.W.kitOne
  rw [n, if_neg Bool.false_ne_true]
  show (if ((PySem.W.clsIn K c).isSome && PySem.W.typeIn K (.ref c) == some (.type "type")) = true then PySem.W.subIn K (.ref a) (.ref c) else none) = _
  rw [h1, h2, h3, beq_self_eq_true]
  rfl
theorem kit_same : PySem.W.kitOne K (.ref a) (.ref a) = some true := by
  unfold PySem.W.kitOne
  rw [beq_self_eq_true, if_pos rfl]
theorem fc_of (h1 : x1 K = true) (h2 : x2 K = true) (h3 : x3 K = true) (h4 : x4 K = true) (h5 : x5 K = true) : Fc K := by
  have ex : ∀ D ∈ NM, exB K (He.ga K D) = true := fun D m => by
    rw [← List.take_append_drop 38 NM] at m
    rcases List.mem_append.mp m with m | m
    · exact List.all_eq_true.mp h1 D m
    · exact List.all_eq_true.mp h2 D m
  obtain ⟨g1, g2⟩ := He.ba h3
  obtain ⟨r1, r2⟩ := He.ba g2
  have mr : ∀ D ∈ NM, (PySem.W.clsIn K (He.ga K D)).map (fun c => c.mro) = some [.ref (He.ga K D), .ref (RE K), .type "ValueError", .type "Exception", .type "BaseException", .type "object"] ∧ PySem.W.typeIn K (.ref (He.ga K D)) = some (.type "type") := fun D m => by
    obtain ⟨z1, z2⟩ := He.ba (List.all_eq_true.mp g1 D m)
    exact ⟨of_decide_eq_true z1, of_decide_eq_true z2⟩
  have inj := inj_of (ord_pw _ h4)
  have ne : ∀ D ∈ NM, ∀ C ∈ NM, D ≠ C → He.ga K C ≠ He.ga K D := fun D m C m2 n e => n (inj D (nm_no D m) C (nm_no C m2) e.symm)
  have nr : ∀ C ∈ NM, He.ga K C ≠ RE K := fun C m e => re_nm (by rw [← inj C (nm_no C m) _ re_no e]; exact m)
  refine ⟨fun D m => (exB_ok (ex D m)).1, fun D m => ?_, fun D m => ?_, fun D m C m2 => ?_, fun p m => ⟨L2.xfB_ok (He.ba (List.all_eq_true.mp h5 p m)).1, He.eqO_ok (He.ba (List.all_eq_true.mp h5 p m)).2⟩⟩
  · refine kit_ref (beq_eq_false_iff_ne.mpr fun e => nr D m (Value.ref.inj e)) r1 (of_decide_eq_true r2) ?_
    rw [mro_in (mr D m).1 rfl]
    simp
  · show (if (Value.ref (He.ga K D) == Value.type "ValueError") = true then some true else PySem.W.kitCls K (.ref (He.ga K D)) (.type "ValueError")) = _
    rw [show (Value.ref (He.ga K D) == Value.type "ValueError") = false from beq_eq_false_iff_ne.mpr (fun e => by cases e), if_neg Bool.false_ne_true]
    show (if PySem.W.kitMeta "ValueError" = true then PySem.W.subIn K (.ref (He.ga K D)) (.type "ValueError") else none) = _
    rw [ve_meta, if_pos rfl, mro_in (mr D m).1 rfl]
    simp
  · by_cases e : D = C
    · subst e
      rw [decide_eq_true rfl]
      exact kit_same
    · have n1 := ne D m C m2 e
      have n2 := nr C m2
      obtain ⟨cd, e1, _⟩ := Option.map_eq_some_iff.mp (mr C m2).1
      rw [decide_eq_false e]
      refine kit_ref (beq_eq_false_iff_ne.mpr fun z => n1 (Value.ref.inj z).symm) (by rw [e1]; rfl) (mr C m2).2 ?_
      rw [mro_in (mr D m).1 rfl]
      simp [n1, n2]
end
theorem law_facts {w : World} {K : PySem.W.Frag} {mg : Str → Option Value} {f : Addr} {h : Heap} (KX : K.In h) (Gl : h.Ns mainGlobals mg) (c : SaysY fa fn [] [] ini exx w h K) (hmg : mg ("law" : Str) = some (.ref f)) :
    LawG PySem.Challenge.rw_pricedreels_k00_errors_apart w K 5 63 mg f h := by
  have csd : He.SaysD fa fn K := congrArg Prod.fst c.x.t
  obtain ⟨y1, q⟩ := He.ba c.x.more
  obtain ⟨y2, q⟩ := He.ba q
  obtain ⟨y3, q⟩ := He.ba q
  obtain ⟨y4, q⟩ := He.ba q
  obtain ⟨y5, x4⟩ := He.ba q
  refine ⟨[], S_law K, (fun p hp => nomatch hp), (fun p hp => nomatch hp), (fun p hp => nomatch hp), fun H a zs hl hb hT hS => ?_, fun base KB nb tb => ?_⟩
  · exact ⟨a, zs, rfl, hS, by omega, fun _ => rfl⟩
  · have C : Ctx PySem.Challenge.rw_pricedreels_k00_errors_apart.prog w K mg base :=
      { m := md_ok KX Gl csd
        d := csd
        g := fun i x e => He.glo_ok KX Gl (csd.fact i e)
        F := fc_of y1 y2 y3 y4 y5
        ini := fun i p e => by
          rw [← ini_ni, List.getElem?_map] at e
          obtain ⟨d, e1, e2⟩ := Option.map_eq_some_iff.mp e
          subst e2
          have b := List.all_eq_true.mp x4 d (List.mem_of_getElem? e1)
          obtain ⟨s1, s2⟩ := ini_s i d e1
          refine ⟨c.ini i e1 s1 b, iniK_ok s2 ?_ b⟩
          have z : (ini.map fun d => iniO K d.x)[i]? = (ini.map IniD.val)[i]? := by rw [c.i]
          rw [List.getElem?_map, List.getElem?_map, e1] at z
          exact Option.some.inj z }
    obtain ⟨_, f', e1, _, F⟩ := fs_law C
    have e2 := e1.symm.trans hmg
    cases e2
    exact F
end K00
open PySem PySem.W PySem.Calls PyProof.Rows
theorem PySem.Challenge.cw_pricedreels_k00_errors_apart_holds : PySem.Challenge.rw_pricedreels_k00_errors_apart.Holds := by
  w_on; o_law
  refine HandSHeadRun.head_any (r := OpenLaw.row PySem.Challenge.rw_pricedreels_k00_errors_apart) (q := view (OpenLaw.row PySem.Challenge.rw_pricedreels_k00_errors_apart).prog [94]) (H := K00.hk) (ob := K00.ob) (M := 100000) (loose := K00.loose) (d := HandSHeadRun.topDef (OpenLaw.row PySem.Challenge.rw_pricedreels_k00_errors_apart).prog 94) (kwd := []) K00.ob_eq
    (by kernel_rfl) (fun s => by kernel_rfl) K00.run (by kernel_rfl) (by kernel_rfl) (by kernel_rfl) (by rfl) (by first | assumption | decide +kernel) (by decide +kernel) ⟨rfl, rfl, rfl, rfl, rfl, by decide +kernel⟩ ?hw ?hc
  case hw => w_witness2
  case hc =>
    refine G.law_end (n := 63) (k := 5) rfl (by decide) (by kernel_rfl) ⟨⟨rfl, by decide, by decide⟩, rfl⟩ ?F
    intro w mg fa h Y G hmg0
    obtain ⟨K, KX, c⟩ := Y
    have hmg : mg ("law" : PySem.Str) = some (.ref fa) := by
      have e : (HandSHeadRun.topDef (OpenLaw.row PySem.Challenge.rw_pricedreels_k00_errors_apart).prog 94).name = ("law" : PySem.Str) := by kernel_rfl
      rw [← e]
      exact hmg0
    exact ⟨K, KX, K00.law_facts KX G c hmg⟩
