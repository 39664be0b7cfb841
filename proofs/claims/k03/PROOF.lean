import PyProof.Rows.All
import Wide.All
import OpenK.AllK
import Wide.FinOn
import HandS.ForExc
import HandS.ForDict
import HandS.ForMost
import HandS.Lambda
import HandS.Flow
import HandS.IsInst
import HandS.StrMore
import HandS.Style
import HandS.TupAny
import HandS.TupLe
import HandS.TupMul
import HandS.Wide
import HandS.ExcValue
import HandS.ExcIs
import HandS.RaiseMore
import HandS.Conv
import HandS.HeadHook4
import HandS.HeadWalk
import HandS.Head2
import HandS.EndBits
import HandS.ExcInit
import KE.KExcSuper
import HandS.ExcField
import HandS.Zip0
import KE.KDictZip
import PySem.Challenge.RW_pricedreels_k03_shapes_planes_and_turnin
set_option Elab.async false
set_option linter.all false
set_option maxRecDepth 100000
set_option maxHeartbeats 8000000
namespace G
open PySem PySem.Spec PyProof.Rows L2 LamX
/-! ## looks at what a top left: definitions alone (a text of its own: a large top's run stands ahead of all else) -/
def asY (g : Addr → Option Obj) (n : Nat) : List Addr := cStatics :: (He.asD g n ++ (He.asD g n).flatMap fun a => match g a with
  | some ⟨_, _, .func fd, _⟩ => fd.closure.map (·.2)
  | _ => [])
/-- an error class x whose __init__ keeps fld; ar, body, scope: its __init__'s -/
structure IniD where
  x : Str
  fld : Str
  qual : Str
  params : Arguments
  body : List Stmt
  scope : Scope
abbrev IniW : Type := Option (Str × Str × Arguments × FuncBody × Scope × Addr × List Str × Addr)
def iniO (K : PySem.W.Frag) (x : Str) : IniW := match K.lookup (He.fAd K (x, some "__init__")) with
  | some ⟨_, _, .func fd, _⟩ => some (fd.name, fd.qualname, fd.params, fd.body, fd.scope, fd.globals, fd.closure.map (·.1), fd.builtins)
  | _ => none
def IniD.val (d : IniD) : IniW := some ("__init__", d.qual, d.params, .stmts d.body, d.scope, mainGlobals, ["__class__"], builtinsNs)
def oexB (K : PySem.W.Frag) (C : Addr) : Bool := match K.lookup C with
  | some ⟨.type t, _, .cls cd, sl⟩ => decide (t = "type") && (match cd.mro, sl.toList with
    | .ref c2 :: bm, [_, _, _, _, some (.builtin n), _] => decide (c2 = C) && (decide (n = "ValueError.__new__") && (!cd.hasDel && (cd.hasDict && PySem.HandSPX.refsVE bm)))
    | _, _ => false)
  | _ => false
theorem oexB_ok {K : PySem.W.Frag} {C : Addr} (h : oexB K C = true) : ∃ nm q N bs bm sn sub ab col dd k0 k1 k2 k3 k5, K.lookup C = some (excClassObj nm q C N bs bm true sn sub ab col dd k0 k1 k2 k3 k5 "ValueError.__new__") ∧ PySem.HandSPX.refsVE bm = true := by
  unfold oexB at h
  split at h
  · rename_i t dd cd sl e
    obtain ⟨h1, h2⟩ := He.ba h
    split at h2
    · rename_i c2 bm s0 s1 s2 s3 n s5 hm hs
      obtain ⟨a1, h2⟩ := He.ba h2
      obtain ⟨a2, h2⟩ := He.ba h2
      obtain ⟨a3, h2⟩ := He.ba h2
      obtain ⟨a4, a5⟩ := He.ba h2
      obtain ⟨nm, bs, mro, ns, qn, hd, sn, sub, ab, col, dl⟩ := cd
      obtain ⟨l⟩ := sl
      have b1 := of_decide_eq_true a1
      have b2 := of_decide_eq_true a2
      have b0 := of_decide_eq_true h1
      dsimp only at hm hs a3 a4
      have b3 : dl = false := by cases dl <;> first | rfl | cases a3
      subst b0 b1 b2 b3 hm hs a4
      exact ⟨nm, qn, ns, bs, bm, sn, sub, ab, col, dd, s0, s1, s2, s3, s5, e, a5⟩
    · cases h2
  · cases h
def fileB (P : Program) (o : Option Obj) : Bool := match o with
  | some ⟨_, _, .fields vs, _⟩ => (match (vs[2]? : Option Value) with
    | some (Value.str file _) => (P.main.file : Str) == file
    | _ => false)
  | _ => false
def cellB (C : Addr) (o : Option Obj) : Bool := match o with
  | some ⟨_, _, .cell (some (.ref c)), _⟩ => decide (c = C)
  | _ => false
def fdB (K : PySem.W.Frag) (P : Program) (C : Addr) (qual : Str) (fd : FuncData) : Bool := PySem.W.codeIn K fd.code qual && (decide (fd.defaults = .none) && ((match fd.code with
    | .ref c => fileB P (K.lookup c)
    | _ => false) && (match fd.closure with
    | [q] => cellB C (K.lookup q.2)
    | _ => false)))
theorem fileB_ok {P : Program} {o : Option Obj} (h : fileB P o = true) : ∃ (cl : Value) (dd : Option Addr) (vs : Array Value) (sl : Array (Option Value)) (file : Str) (tf : Tok), o = some ⟨cl, dd, .fields vs, sl⟩ ∧ vs[2]? = some (.str file tf) ∧ ((P.main.file : Str) == file) = true := by
  unfold fileB at h
  split at h
  · split at h
    · rename_i e
      exact ⟨_, _, _, _, _, _, rfl, e, h⟩
    · cases h
  · cases h
theorem cellB_ok {C : Addr} {o : Option Obj} (h : cellB C o = true) : ∃ (cl : Value) (dd : Option Addr) (sl : Array (Option Value)), o = some ⟨cl, dd, .cell (some (.ref C)), sl⟩ := by
  unfold cellB at h
  split at h
  · rw [← of_decide_eq_true h]
    exact ⟨_, _, _, rfl⟩
  · cases h
/-- the rest of what is asked of the class -/
def iniB (K : PySem.W.Frag) (P : Program) (d : IniD) : Bool :=
  oexB K (He.ga K d.x) && (He.eqO (PySem.W.findIn K (.ref (He.ga K d.x)) "__setattr__") (some (some (.builtin "object.__setattr__"))) && (decide (PySem.W.subIn K (.ref (He.ga K d.x)) (.type "BaseException") = some true) &&
  (decide (PySem.W.typeIn K (.ref (He.ga K d.x)) = some (.type "type")) && (PySem.W.keepIn K (.ref (He.ga K d.x)) && (He.eqO (PySem.W.findIn K (.ref (He.ga K d.x)) d.fld) (some none) &&
  (decide (PySem.W.subIn K (.ref (He.ga K d.x)) (.type "ValueError") = some true) && (He.eqO (PySem.W.ks_superIn K (He.ga K d.x) (He.ga K d.x) "__init__") (some (some (.builtin "ValueError.__init__"))) &&
  (decide (PySem.W.mroIn K (He.ga K d.x) (.ref (He.ga K d.x)) = some true) && (He.eqO (PySem.W.nsIn K mainGlobals "super") (some none) && (He.eqO (PySem.W.nsIn K cStatics "thirdparty.any") (some none) &&
  (He.eqO (PySem.W.findIn K (.ref (He.ga K d.x)) "__init__") (some (some (.ref (He.fAd K (d.x, some "__init__"))))) && (decide (PySem.W.typeIn K (.ref (He.fAd K (d.x, some "__init__"))) = some (.type "function")) &&
  (match K.lookup (He.fAd K (d.x, some "__init__")) with
    | some ⟨_, _, .func fd, _⟩ => fdB K P (He.ga K d.x) d.qual fd
    | _ => false)))))))))))))
def exB (K : PySem.W.Frag) (D : Addr) : Bool := He.eqO (PySem.W.findIn K (.ref D) "__getattribute__") (some (some (.builtin "BaseException.__getattribute__"))) && (He.eqO (PySem.W.findIn K (.ref D) "__getattr__") (some none) &&
  (decide (PySem.W.subIn K (.ref D) (.type "BaseException") = some true) && (PySem.W.hasDictIn K D && (He.eqO (PySem.W.findIn K (.ref D) "__class__") (some (some (.builtin "object.__class__"))) &&
  (He.eqO (PySem.W.specialIn K (.builtin "object.__class__") "__get__") (some (some (.builtin "getset_descriptor.__get__"))) && (decide (PySem.W.takesIn K (.builtin "object.__class__") = some true) && (decide (PySem.W.mroIn K D (.type "object") = some true) &&
  decide (PySem.W.kitOne K (.ref D) (.ref D) = some true))))))))
theorem exB_ok {K : PySem.W.Frag} {D : Addr} (h : exB K D = true) : ExcC K D ∧ PySem.W.kitOne K (.ref D) (.ref D) = some true := by
  obtain ⟨h1, h⟩ := He.ba h
  obtain ⟨h2, h⟩ := He.ba h
  obtain ⟨h3, h⟩ := He.ba h
  obtain ⟨h4, h⟩ := He.ba h
  obtain ⟨h5, h⟩ := He.ba h
  obtain ⟨h6, h⟩ := He.ba h
  obtain ⟨h7, h⟩ := He.ba h
  obtain ⟨h8, h9⟩ := He.ba h
  exact ⟨⟨He.eqO_ok h1, He.eqO_ok h2, of_decide_eq_true h3, h4, He.eqO_ok h5, He.eqO_ok h6, of_decide_eq_true h7, of_decide_eq_true h8⟩, of_decide_eq_true h9⟩
/-- a class's member in a text -/
def clsM (s : Stmt) (i : Nat) : Stmt := match s with
  | .ClassDef _ _ _ b _ _ _ _ _ _ _ => b.getD i (.Pass ⟨0, 0, 0, 0⟩)
  | _ => .Pass ⟨0, 0, 0, 0⟩
def fnRefs (g : Addr → Option Obj) (b : Addr) : List Addr := match g b with
  | some ⟨_, _, .func fd, _⟩ => (match fd.code with
    | .ref c => c :: fd.closure.map (·.2)
    | _ => fd.closure.map (·.2))
  | _ => []
def dictRefs (g : Addr → Option Obj) (b : Addr) : List Addr := match g b with
  | some ⟨_, _, .dict es _, _⟩ => es.toList.filterMap fun e => match e.val with
    | .ref a => some a
    | _ => none
  | _ => []
def clsRefs (g : Addr → Option Obj) (b : Addr) : List Addr := match g b with
  | some ⟨_, _, .cls cd, _⟩ => cd.ns :: (dictRefs g cd.ns).flatMap fun a => a :: fnRefs g a
  | some ⟨_, _, .func _, _⟩ => fnRefs g b
  | _ => []
def asZ (g : Addr → Option Obj) : List Addr := cStatics :: mainGlobals :: ((dictRefs g mainGlobals).flatMap fun a => a :: clsRefs g a)
end G

set_option Elab.async false
set_option linter.all false
set_option maxRecDepth 100000
set_option maxHeartbeats 4000000
namespace G
open PySem PySem.Spec PyProof.Rows L2
open AutoSeq1 (wpAny_loadPart')

/-! ## values: one rule an operation, told by what the two values are -/
def rAdd (K : PySem.W.Frag) : R2 := fun x y H Q => match x, y with
  | .int i, .int j => Q (.int (i + j)) H
  | .str a, .str b => a.length + b.length ≤ sizeLine ∧ Q (.str (a ++ b)) H
  | .ref a, .ref b => rCat (.ref a) (.ref b) H Q ∨ rCatA K (.ref a) (.ref b) H Q
  | _, _ => False
def rSub : R2 := fun x y H Q => match x, y with
  | .int i, .int j => Q (.int (i - j)) H
  | _, _ => False
/-! tuple * 1 -/
theorem tuple_mul1 (l : Addr) (items : Array Value) (n : Nat) (dd : Option Addr) (sl : Array (Option Value)) (u : Tok) :
    Meets (Builtin.«tuple.__mul__» ⟨[.ref l, .int 1 u], []⟩) (fun _ R s => s.heap.get? l = some { cls := .type "tuple", dict := dd, data := .seq items n, slots := sl } ∧ R (.ok (.ret (Value.ref l))) s) :=
  .of_wp fun prog w A R s h => by
    obtain ⟨hp, g, d, tk, os⟩ := s
    obtain ⟨hl, h⟩ := h
    have f1 := AutoSeq1.idx_int
    wp_walk using wpAny_loadPart' hl
    exact ⟨_, rfl, h⟩
def rRep1 (K : PySem.W.Frag) : R2 := fun x y H Q => ∃ l xs, x = .ref l ∧ y = .int 1 ∧ SqT K H l xs ∧ Q (.ref l) H
theorem op_rep1 {X : Cx} : OpR X (binaryOp .Mult) (rRep1 X.K) := by
  intro pins s σ H x y v u Q I rx ry h
  obtain ⟨l, xs, rfl, rfl, hT, q⟩ := h
  cases rx
  obtain ⟨t, rfl⟩ := ry
  obtain ⟨its, r, ⟨⟨cls, dd, data, sl⟩, ho, hc, n, hd⟩, hs⟩ := I.tuple hT
  simp only at hc hd
  subst hc hd
  exact wpAny_binaryOp_repeat_ref (T := "tuple") (U := "int") (by decide) ⟨_, ho, rfl⟩ (fun s' => typeIs_int s' 1 t) noFill_tuple_mul F.fills_int_mul F.slot_int_rmul repeat_tuple F.slot_int_index.lookup
    (call_meets F.slot_int_rmul (typeIs_int s 1 t) F.entry_int_rmul (F.args_int_rmul_2 _ _) (int_rmul_tuple 1 t l its.toArray n dd sl)
      ⟨ho, rfl, ⟨_, ho, rfl⟩, call_meets F.slot_tuple_mul ⟨_, ho, rfl⟩ F.entry_tuple_mul (F.args_tuple_mul_2 _ _) (tuple_mul1 l its.toArray n dd sl t) ⟨ho, ⟨.ref l, H, I, rfl, q⟩⟩⟩)
def rMul (K : PySem.W.Frag) : R2 := fun x y H Q => match x, y with
  | .int i, .int j => (CMul i j ∨ CMulW i j) ∧ Q (.int (i * j)) H
  | .str a, .int k => MulOk a k ∧ Q (.str (Txt.mul a k)) H
  | .ref a, .int k => rRep (.ref a) (.int k) H Q ∨ rRepT K (.ref a) (.int k) H Q ∨ rRep1 K (.ref a) (.int k) H Q
  | _, _ => False
def rDiv : R2 := fun x y H Q => match x, y with
  | .int i, .int j => (CDiv i j ∨ CDivW i j) ∧ Q (.int (i / j)) H
  | _, _ => False
def rMod : R2 := fun x y H Q => match x, y with
  | .int i, .int j => 0 < j ∧ Q (.int (i % j)) H
  | _, _ => False
def rPow : R2 := fun x y H Q => match x, y with
  | .int i, .int j => CPow i j ∧ Q (.int (i ^ j.toNat)) H
  | _, _ => False
def rShl : R2 := fun x y H Q => match x, y with
  | .int i, .int j => CPow i j ∧ Q (.int (i * 2 ^ j.toNat)) H
  | _, _ => False
def rShr : R2 := fun x y H Q => match x, y with
  | .int i, .int j => 0 ≤ j ∧ Q (.int (i / 2 ^ j.toNat)) H
  | _, _ => False
def rNone : R2 := fun _ _ _ _ => False
def rBin (K : PySem.W.Frag) : Operator → R2
  | .Add => rAdd K
  | .Sub => rSub
  | .Mult => rMul K
  | .FloorDiv => rDiv
  | .Mod => rMod
  | .Pow => rPow
  | .LShift => rShl
  | .RShift => rShr
  | _ => rNone
section
variable {X : Cx}
theorem ok_none {f : Value → Value → Sem Value} : OpR X f rNone := fun _ _ _ _ _ _ _ _ _ _ _ _ h => h.elim
theorem ok_add : OpR X (binaryOp .Add) (rAdd X.K) := by
  intro pins s σ H x y v u Q I rx ry h
  cases x <;> cases y <;> first
    | exact False.elim h
    | exact op_add pins s σ H _ _ v u Q I rx ry ⟨_, _, rfl, rfl, h⟩
    | exact op_add_str pins s σ H _ _ v u Q I rx ry ⟨_, _, rfl, rfl, h.1, h.2⟩
    | exact h.elim (fun h => op_cat pins s σ H _ _ v u Q I rx ry h) (fun h => op_catA pins s σ H _ _ v u Q I rx ry h)
theorem ok_sub : OpR X (binaryOp .Sub) rSub := by
  intro pins s σ H x y v u Q I rx ry h
  cases x <;> cases y <;> first
    | exact False.elim h
    | exact op_sub pins s σ H _ _ v u Q I rx ry ⟨_, _, rfl, rfl, h⟩
theorem ok_mul : OpR X (binaryOp .Mult) (rMul X.K) := by
  intro pins s σ H x y v u Q I rx ry h
  cases x <;> cases y <;> first
    | exact False.elim h
    | exact h.1.elim (fun c => op_mul pins s σ H _ _ v u Q I rx ry ⟨_, _, rfl, rfl, c, h.2⟩) (fun c => op_mulW pins s σ H _ _ v u Q I rx ry ⟨_, _, rfl, rfl, c, h.2⟩)
    | exact h.elim (fun h => op_rep pins s σ H _ _ v u Q I rx ry h) (fun h => h.elim (fun h => op_repT pins s σ H _ _ v u Q I rx ry h) fun h => op_rep1 pins s σ H _ _ v u Q I rx ry h)
    | (obtain ⟨t, rfl⟩ := rx
       obtain ⟨t', rfl⟩ := ry
       exact SB.mul h.1 fun t2 k => ⟨.str _, H, I.tok k, ⟨t2, rfl⟩, h.2⟩)
theorem ok_div : OpR X (binaryOp .FloorDiv) rDiv := by
  intro pins s σ H x y v u Q I rx ry h
  cases x <;> cases y <;> first
    | exact False.elim h
    | exact h.1.elim (fun c => op_fdiv pins s σ H _ _ v u Q I rx ry ⟨_, _, rfl, rfl, c, h.2⟩) (fun c => op_fdivW pins s σ H _ _ v u Q I rx ry ⟨_, _, rfl, rfl, c, h.2⟩)
theorem ok_mod : OpR X (binaryOp .Mod) rMod := by
  intro pins s σ H x y v u Q I rx ry h
  cases x <;> cases y <;> first
    | exact False.elim h
    | exact op_mod pins s σ H _ _ v u Q I rx ry ⟨_, _, rfl, rfl, h.1, h.2⟩
theorem ok_pow : OpR X (binaryOp .Pow) rPow := by
  intro pins s σ H x y v u Q I rx ry h
  cases x <;> cases y <;> first
    | exact False.elim h
    | exact op_pow pins s σ H _ _ v u Q I rx ry ⟨_, _, rfl, rfl, h.1, h.2⟩
theorem ok_shl : OpR X (binaryOp .LShift) rShl := by
  intro pins s σ H x y v u Q I rx ry h
  cases x <;> cases y <;> first
    | exact False.elim h
    | exact op_shl pins s σ H _ _ v u Q I rx ry ⟨_, _, rfl, rfl, h.1, h.2⟩
theorem ok_shr : OpR X (binaryOp .RShift) rShr := by
  intro pins s σ H x y v u Q I rx ry h
  cases x <;> cases y <;> first
    | exact False.elim h
    | exact op_shr pins s σ H _ _ v u Q I rx ry ⟨_, _, rfl, rfl, h.1, h.2⟩
theorem ok_bin (op : Operator) : OpR X (binaryOp op) (rBin X.K op) := by
  cases op <;> first
    | exact ok_add
    | exact ok_sub
    | exact ok_mul
    | exact ok_div
    | exact ok_mod
    | exact ok_pow
    | exact ok_shl
    | exact ok_shr
    | exact ok_none
end
/-- name op= e -/
def rAug (K : PySem.W.Frag) : Operator → TIp := fun op x y H Q => match op with
  | .Add => (match x, y with
    | .int i, .int j => Q (.int (i + j)) H
    | .str a, .str b => a.length + b.length ≤ sizeLine ∧ Q (.str (a ++ b)) H
    | .ref a, .ref b => rExt2 (.ref a) (.ref b) H Q
    | _, _ => False)
  | .Sub => (match x, y with
    | .int i, .int j => Q (.int (i - j)) H
    | _, _ => False)
  | .Mult => (match x, y with
    | .int i, .int j => CMul i j ∧ Q (.int (i * j)) H
    | _, _ => False)
  | .FloorDiv => (match x, y with
    | .int i, .int j => CDiv i j ∧ Q (.int (i / j)) H
    | _, _ => False)
  | _ => False
theorem ok_aug {X : Cx} (op : Operator) : PIp X op (rAug X.K op) := by
  intro pins s σ H x y v u Q I rx ry h
  cases op <;> cases x <;> cases y <;> first
    | exact False.elim h
    | exact iop_add pins s σ H _ _ v u Q I rx ry ⟨_, _, rfl, rfl, h⟩
    | exact iop_add_str pins s σ H _ _ v u Q I rx ry ⟨_, _, rfl, rfl, h.1, h.2⟩
    | exact iop_ext pins s σ H _ _ v u Q I rx ry h
    | exact iop_sub pins s σ H _ _ v u Q I rx ry ⟨_, _, rfl, rfl, h⟩
    | exact iop_mul pins s σ H _ _ v u Q I rx ry ⟨_, _, rfl, rfl, h.1, h.2⟩
    | exact iop_fdiv pins s σ H _ _ v u Q I rx ry ⟨_, _, rfl, rfl, h.1, h.2⟩

/-! ## comparisons -/
def isV : V → V → Option Bool
  | .non, .non => some true
  | .bl a, .bl b => some (decide (a = b))
  | .non, _ => some false
  | .bl _, .non => some false
  | .int _, .non => some false
  | .str _, .non => some false
  | .ref _, .non => some false
  | _, _ => none
def rEqv (K : PySem.W.Frag) (neg : Bool) : R2 := fun x y H Q =>
  (scal x y = true ∧ Q (.bl (if neg then !decide (x = y) else decide (x = y))) H) ∨ (if neg then rNeD K x y H Q else rEqD K x y H Q)
def rOrd (K : PySem.W.Frag) (f : Int → Int → Bool) : R2 := fun x y H Q => match x, y with
  | .int i, .int j => Q (.bl (f i j)) H
  | _, _ => False
def rIsN (neg : Bool) : R2 := fun x y H Q => match x, y with
  | .bl a, .bl b => Q (.bl (if neg then !decide (a = b) else decide (a = b))) H
  | x, .non => Q (.bl (if neg then !decide (x = .non) else decide (x = .non))) H
  | _, _ => False
def rMem (K : PySem.W.Frag) (neg : Bool) : R2 := fun x y H Q => match y with
  | .ref d => rIn K neg x (.ref d) H Q ∨ ∃ o, DGet H d x o ∧ Q (.bl (if neg then !o.isSome else o.isSome)) H
  | _ => False
def rCmp (K : PySem.W.Frag) : CmpOp → R2
  | .Eq => rEqv K false
  | .NotEq => rEqv K true
  | .Lt => rOrd K fun i j => decide (i < j)
  | .LtE => rOrd K fun i j => decide (i ≤ j)
  | .Gt => rOrd K fun i j => decide (j < i)
  | .GtE => rOrd K fun i j => decide (j ≤ i)
  | .Is => rIsN false
  | .IsNot => rIsN true
  | .In => rMem K false
  | .NotIn => rMem K true
section
variable {X : Cx}
theorem ok_cmp (hu : X.A.units + 64 < cLine) (op : CmpOp) : OpR X (compareOp op) (rCmp X.K op) := by
  intro pins s σ H x y v u Q I rx ry h
  have hu1 : X.A.units + 1 < cLine := by omega
  cases op with
  | Eq => exact h.elim (fun h => op_eq pins s σ H x y v u Q I rx ry h) (fun h => op_eqD hu pins s σ H x y v u Q I rx ry h)
  | NotEq => exact h.elim (fun h => op_ne pins s σ H x y v u Q I rx ry h) (fun h => op_neD hu pins s σ H x y v u Q I rx ry h)
  | Lt => cases x <;> cases y <;> first
    | exact False.elim h
    | exact op_lt pins s σ H _ _ v u Q I rx ry ⟨_, _, rfl, rfl, h⟩
  | LtE => cases x <;> cases y <;> first
    | exact False.elim h
    | exact op_le pins s σ H _ _ v u Q I rx ry ⟨_, _, rfl, rfl, h⟩
  | Gt => cases x <;> cases y <;> first
    | exact False.elim h
    | exact op_gt pins s σ H _ _ v u Q I rx ry ⟨_, _, rfl, rfl, h⟩
  | GtE => cases x <;> cases y <;> first
    | exact False.elim h
    | exact op_ge pins s σ H _ _ v u Q I rx ry ⟨_, _, rfl, rfl, h⟩
  | Is => cases x <;> cases y <;> first
    | exact False.elim h
    | exact op_isBl pins s σ H _ _ v u Q I rx ry ⟨_, _, rfl, rfl, h⟩
    | exact op_isN pins s σ H _ _ v u Q I rx ry ⟨rfl, h⟩
  | IsNot => cases x <;> cases y <;> first
    | exact False.elim h
    | exact op_notBl pins s σ H _ _ v u Q I rx ry ⟨_, _, rfl, rfl, h⟩
    | exact op_notN pins s σ H _ _ v u Q I rx ry ⟨rfl, h⟩
  | In => cases y with
    | ref d =>
      rcases h with h | ⟨o, g, h⟩
      · exact op_in_seq pins s σ H _ _ v u Q I rx ry h
      · obtain rfl : u = Value.ref d := ry
        exact d_in hu1 I g rx fun s3 I3 => ⟨.bl o.isSome, H, I3, rfl, h⟩
    | _ => exact False.elim h
  | NotIn => cases y with
    | ref d =>
      rcases h with h | ⟨o, g, h⟩
      · exact op_notIn_seq pins s σ H _ _ v u Q I rx ry h
      · obtain rfl : u = Value.ref d := ry
        exact d_notIn hu1 I g rx fun s3 I3 => ⟨.bl (!o.isSome), H, I3, rfl, h⟩
    | _ => exact False.elim h
end
/-! ## a subscript: sequences, texts, dicts -/
def rSub2 (K : PySem.W.Frag) : R2 := fun x y H Q => rIx K x y H Q ∨ ∃ a v, x = .ref a ∧ DGet H a y (some v) ∧ Q v H
theorem ok_dget {X : Cx} (hu : X.A.units + 1 < cLine) : IxR X (fun x y H Q => ∃ a v, x = .ref a ∧ DGet H a y (some v) ∧ Q v H) := by
  intro value slice pins s σ H x y v u Q I rx ry h hs
  obtain ⟨a, z, rfl, g, q⟩ := h
  obtain rfl : v = Value.ref a := rx
  exact tail_any (dict_typeIs I g) PySem.F.slot_dict_getitem.lookup (d_getItem hu I g ry fun w' s3 I3 rw' => ⟨z, H, I3, rw', q⟩) hs
theorem ok_sub2 {X : Cx} (hu : X.A.units + 1 < cLine) : IxR X (rSub2 X.K) := ix_seq.or (ok_dget hu)
/-! ## slices: of a list, a tuple, a text -/
def rSlG (K : PySem.W.Frag) : V → Option Int → Option Int → Hp → VK → Prop := fun x l u H Q => rSlL K x l u H Q ∨ rSlA K x l u H Q ∨ rSlS x l u H Q
theorem sl_all {X : Cx} : SlR X (rSlG X.K) := sl_list.or (sl_tupA.or sl_str)
end G

set_option Elab.async false
set_option linter.all false
set_option maxRecDepth 100000
set_option maxHeartbeats 8000000
namespace G
open PySem PySem.Spec PyProof.Rows L2
/-! ## an error class whose __init__ says super().__init__(text) and keeps one value -/
abbrev iniBody (fld txt : Str) (p0 p1 p2 p3 p4 p5 p6 p7 p8 p9 : Pos) (j : Nat) : List Stmt :=
  [.Expr (.Call (.Attribute (.Call (.Name "super" p0) [] [] p1) "__init__" p2) [.Constant (.str txt) j p3] [] p4) p5, .Assign [.Attribute (.Name "self" p6) fld p7] (.Name fld p8) p9]
abbrev iniArgs (fld : Str) (a1 a2 : Arg) : Arguments := ⟨[], [a1, a2], none, [], [], none, []⟩
structure IniF (K : PySem.W.Frag) (P : Program) (C : Addr) (fld : Str) : Prop where
  T : OexC K C
  fld0 : PySem.W.findIn K (.ref C) fld = some none
  vE : PySem.W.subIn K (.ref C) (.type "ValueError") = some true
  up : PySem.W.ks_superIn K C C "__init__" = some (some (.builtin "ValueError.__init__"))
  own : PySem.W.mroIn K C (.ref C) = some true
  sup : PySem.W.nsIn K mainGlobals "super" = some none
  opq : PySem.W.nsIn K cStatics "thirdparty.any" = some none
  top : (P.main.scope.names.lookup ("super" : Str)).isSome = false
  fn : ∃ (fI cda cc : Addr) (oc ccl cl : Value) (od cdd cld : Option Addr) (osl ccs csl : Array (Option Value)) (qual txt : Str) (kV doc pm ct : Value) (an : Option Addr) (a1 a2 : Arg) (scope : Scope) (p0 p1 p2 p3 p4 p5 p6 p7 p8 p9 : Pos) (j : Nat) (vs : Array Value) (file : Str) (tf : Tok),
    PySem.W.findIn K (.ref C) "__init__" = some (some (.ref fI)) ∧ PySem.W.typeIn K (.ref fI) = some (.type "function") ∧
    K.lookup fI = some ⟨oc, od, .func (PySem.W.ksFn "__init__" qual (iniArgs fld a1 a2) (iniBody fld txt p0 p1 p2 p3 p4 p5 p6 p7 p8 p9 j) scope .none kV doc pm an (.ref cda) ct cc), osl⟩ ∧ PySem.W.codeIn K (.ref cda) qual = true ∧
    a1.arg = "self" ∧ a2.arg = fld ∧ (∀ y ∈ scope.names, y.2 ≠ .cell) ∧ scope.isCoroutine = false ∧ scope.isGenerator = false ∧ scope.kind = .function ∧
    scope.names.lookup ("super" : Str) = some .globalImplicit ∧ scope.names.lookup ("__class__" : Str) = some .free ∧ scope.names.lookup ("self" : Str) = some .local ∧ scope.names.lookup fld = some .local ∧
    K.lookup cda = some ⟨ccl, cdd, .fields vs, ccs⟩ ∧ vs[2]? = some (.str file tf) ∧ ((P.main.file : Str) == file) = true ∧ K.lookup cc = some ⟨cl, cld, .cell (some (.ref C)), csl⟩ ∧
    (∀ (L : Addr) (line : Nat), swapsWith (.Name fld p8) (some (.Attribute (.Name "self" p6) fld p7)) line (PySem.W.ksEnv qual scope L fI (.ref cda) cc) = pure false) ∧ (fld == ("__debug__" : Str)) = false ∧ fld ≠ "self" ∧ (p2.endLine == p4.line) = true ∧
    ∀ u v : Value, bindArgs (PySem.W.ksFn "__init__" qual (iniArgs fld a1 a2) (iniBody fld txt p0 p1 p2 p3 p4 p5 p6 p7 p8 p9 j) scope .none kV doc pm an (.ref cda) ct cc) ⟨[u, v], []⟩ = pure [(("self" : Str), u), (fld, v)]
/-- a call of a method, its parts in a row -/
theorem meth_eq {o : Expr} {name : Str} {apos pos : Pos} {args : List Expr} {env : Env} (hf : methodCallForm (args.length + ([] : List Keyword).length) (backTo pos (starEach args env)) (backToKw pos (keywordEach [] env)) = true) (hl : (apos.endLine == pos.line) = true) :
    eval (.Call (.Attribute o name apos) args [] pos) env = (do
      let ov ← attributeBase o name env (eval o env)
      standAt apos.atName
      let (f, first) ← holding [ov] (getMethod ov name (do return (← importBound o env).getD true))
      callWith pos f first (backTo pos (starEach args env)) []) := by
  rw [arm_eval_Call]
  unfold methodCall
  rw [hf]
  have e1 : ∀ ov, calleeOf true o env ov name = getMethod ov name (do return (← importBound o env).getD true) := fun ov => rfl
  have e2 : methodCallPos true o env apos pos = pure pos := by
    unfold methodCallPos
    rw [hl]
    rfl
  simp only [e1, e2, pure_bind]
  rfl
section
variable {P : Program} {w : World} {K : PySem.W.Frag} {A : Around} {mg mb : Str → Option Value} {C e t0 : Addr} {fld : Str} {u : Value} {hp : Heap} {g : Array GenState} {d : Drawn} {t : Nat} {os : OsState} {R : Result → Shared → Prop}
theorem ini_runA (F : IniF K P C fld) (args : Args) (hba : ∀ fI oc od fd osl, PySem.W.findIn K (.ref C) "__init__" = some (some (.ref fI)) → K.lookup fI = some ⟨oc, od, .func fd, osl⟩ → bindArgs fd args = pure [(("self" : Str), Value.ref e), (fld, u)]) (X : K.In hp) (gl : hp.Ns mainGlobals mg) (bl : hp.Ns builtinsNs mb) (bb : mb "super" = some (.type "super")) (nl : hp.NoLimit) (ni : K.lookup e = none) (he : hp.get? e = some (PySem.HandSPX.excO C t0)) (hroom : A.depth < recursionLimit)
    (hq : ∀ h' tk dx t1, (∀ b o, b ≠ e → hp.get? b = some o → h'.get? b = some o) → h'.get? e = some { cls := .ref C, dict := some dx, data := .fields #[.ref t1, .none, .none, .none, .bool false, .none] } →
      h'.Ns1 dx (fun y => if y = fld then some u else none) → hp.objs.size ≤ dx → R (.ok (.ret .none)) ⟨h', g, d, tk, os⟩) :
    ∃ fI, PySem.W.findIn K (.ref C) "__init__" = some (some (.ref fI)) ∧ PySem.W.typeIn K (.ref fI) = some (.type "function") ∧ codeAny (model P w) A (.call (.ref fI) args) R ⟨hp, g, d, t, os⟩ := by
  obtain ⟨fI, cda, cc, oc, ccl, cl, od, cdd, cld, osl, ccs, csl, qual, txt, kV, doc, pm, ct, an, a1, a2, scope, p0, p1, p2, p3, p4, p5, p6, p7, p8, p9, j, vs, file, tf, f1, f2, lk, hcd, ha1, ha2, ncell, nco, ngen, hkind, ks1, ks2, ks3, ks4, lcda, hvs, hfile, lcc, hsw, hdb, hns', hline, hbind⟩ := F.fn
  obtain ⟨nm, q, N, bs, bm, sn, sub, ab, col, dd, k0, k1, k2, k3, k5, hC, hbm⟩ := F.T.cls
  refine ⟨fI, f1, f2, ?_⟩
  have hcl : PySem.W.clsIn K C = some { name := nm, bases := bs, mro := .ref C :: bm, ns := N, qualname := q, hasDict := true, slotNames := sn, subclasses := sub, abstract := ab, collection := col, hasDel := false } := by unfold PySem.W.clsIn; rw [hC] <;> rfl
  refine PySem.ks_codeAny_call_defAt (binds := [(("self" : Str), .ref e), (fld, u)]) hroom (X _ _ lk) rfl nl (PySem.W.codeRec_of X hcd) rfl (.of_eq (hba _ _ _ _ _ f1 lk)) ncell (fun y hy => ?_) (fun h₁ hns hk => ?_) nco ngen hkind
  · rcases List.mem_cons.mp hy with rfl | hy
    · exact ks3
    · rw [List.mem_singleton.mp hy]
      exact ks4
  have envq : PySem.callEnv (PySem.W.ksFn "__init__" qual (iniArgs fld a1 a2) (iniBody fld txt p0 p1 p2 p3 p4 p5 p6 p7 p8 p9 j) scope .none kV doc pm an (.ref cda) ct cc) hp.objs.size fI = PySem.W.ksEnv qual scope hp.objs.size fI (.ref cda) cc := rfl
  rw [envq]
  have X1 : K.In h₁ := X.keeps hk
  have he1 := hk _ _ he
  have hself : (fun x => ([(("self" : Str), Value.ref e), (fld, u)] : List (Str × Value)).reverse.lookup x) ("self" : Str) = some (.ref e) := by
    show ([(fld, u), (("self" : Str), Value.ref e)] : List (Str × Value)).lookup ("self" : Str) = _
    rw [List.lookup_cons]
    have z : (("self" : Str) == fld) = false := by simpa using fun z => hns' z.symm
    rw [z]
    rfl
  have hfld : (fun x => ([(("self" : Str), Value.ref e), (fld, u)] : List (Str × Value)).reverse.lookup x) fld = some u := by
    show ([(fld, u), (("self" : Str), Value.ref e)] : List (Str × Value)).lookup fld = _
    rw [List.lookup_cons, beq_self_eq_true]
  have hint : interactive (PySem.W.ksEnv qual scope hp.objs.size fI (.ref cda) cc) = false := by
    unfold interactive
    show (scope.kind == .module && _) = false
    rw [hkind]
    rfl
  refine PySem.ks_wpAt_execs_cons (PySem.ks_wpAt_Expr_any (PySem.ks_wpAt_MethodCall ?_ (meth_eq rfl hline)) hint rfl)
  refine PySem.ks_wpAt_super_base (env := PySem.W.ksEnv qual scope hp.objs.size fI (.ref cda) cc) ks1 ks2 (by decide) rfl (X1 _ _ lk) rfl rfl rfl (X1 _ _ lcda) rfl hvs hfile F.top ?_
  refine PySem.W.ks_loadName_global hkind ks1 (PySem.Calls.loadGlobal_builtin (env := PySem.W.ksEnv qual scope hp.objs.size fI (.ref cda) cc) (gl.keeps hk) (PySem.W.mg_none_of X gl F.sup) (bl.keeps hk) bb ⟨rfl, ?_⟩)
  refine wpAny_loadName_free hkind ks2 rfl ⟨_, X1 _ _ lcc, rfl⟩ ?_
  rw [ha1]
  refine wpAny_loadName_local hkind ks3 hns hself ?_
  have hC1 := X1 _ _ hC
  refine PySem.ks_wpAny_isType_cls hC1 rfl ⟨rfl, ?_⟩
  refine PySem.ks_wpAny_call_super hC1 rfl he1 rfl (fun c z => nomatch z) (PySem.W.looks_mroIn X1 F.own) (fun h2 e2 k2 => ?_)
  have X2 : K.In h2 := X1.keeps k2
  have he2 := k2 _ _ he1
  have I2 : PySem.W.InstAt h2 e (PySem.HandSPX.excO C t0) C none := ⟨he2, rfl, rfl, trivial⟩
  have hal : PySem.W.alongIn K "__init__" (((.ref C :: bm : List Value).dropWhile (· != .ref C)).drop 1) = some (some (.builtin "ValueError.__init__")) := by
    have z := F.up
    unfold PySem.W.ks_superIn at z
    rw [hcl] at z
    exact z
  refine PySem.W.kxs_getMethod PySem.W.kxs_ValueError (so := h₁.objs.size) (D := C) (x := e) (C := C) e2 (PySem.W.looks_opaque X2 F.opq) (l₀ := .ref C :: bm) (fun A Q E s k q => wpAny_bind ((PySem.W.looks_clsIn X2 hcl) A _ E s k (wpAny_pure q))) rfl X2 hal (I2.type.andThen (PySem.W.looks_subIn X2 F.vE)) (PySem.W.ks_ne X2 I2 hcl) rfl ?_
  show wpAny _ _ (callWith p4 (.ref h2.objs.size) [] (backTo p4 (starEach [.Constant (.str txt) j p3] (PySem.W.ksEnv qual scope hp.objs.size fI (.ref cda) cc))) []) _ _ _
  have k3 : ∀ b o, h2.get? b = some o → (h2.push (PySem.W.kxs_mw "ValueError.__init__" e)).get? b = some o := fun b o z => Heap.get?_push_of_some _ z
  have hu3 : (h2.push (PySem.W.kxs_mw "ValueError.__init__" e)).get? h2.objs.size = some (PySem.W.kxs_mw "ValueError.__init__" e) := Heap.get?_push_at rfl rfl
  revert k3 hu3
  generalize h2.push (PySem.W.kxs_mw "ValueError.__init__" e) = h3
  intro k3 hu3
  refine PySem.W.kxs_callWith (i := "ValueError.__init__") (x := e) rfl ?_
  refine PySem.Calls.evalArgs_plain ?_
  refine PySem.Calls.spliced_cons (show wpAny _ _ (eval (.Constant (.str txt) j p3) _) _ _ _ from PySem.Calls.Constant_str ?_)
  refine PySem.Calls.spliced_nil ⟨hu3, ?_⟩
  have hC3 := k3 _ _ (k2 _ _ hC1)
  have he3 := k3 _ _ he2
  refine wpAny_call (codeAny_of_tree ?_)
  show wpAny _ _ (callAny (.ref h2.objs.size) ⟨[.str txt _], []⟩) _ _ _
  simp only [callAny]
  refine wpAny_bind (wpAny_load hu3 ?_)
  simp only [PySem.W.kxs_mw, show (Value.type "method-wrapper" == Value.type "method" || Value.type "method-wrapper" == Value.type "builtin_function_or_method" || Value.type "method-wrapper" == Value.type "method-wrapper") = true by decide, if_true]
  refine PySem.W.KFB.if_so (by decide) ?_
  refine wpAny_bind (PySem.W.check_bound_init PySem.F.excBase_ValueError.toExcCallFacts hC3 he3 rfl ?_)
  refine wpAny_bind (wpAny_pure (wpAny_pure ?_))
  refine ⟨plainId_quiet PySem.F.excBase_ValueError.init.plain _, codeAny_builtin PySem.F.excBase_ValueError.initEntry ?_⟩
  refine PySem.W.exc_init_tree (cls := .ref C) (t0 := t0) (dv := none) (c2 := .none) (c3 := .none) (b4 := .bool false) he3 (by rw [sizeLine_eq]; exact Nat.le_of_ble_eq_true rfl) (fun h4 k4 he4 ht4 => ?_)
  have Le : hp.objs.size ≠ e := Nat.ne_of_gt (Heap.lt_size he)
  have ns4 : h4.Ns hp.objs.size fun x => ([(("self" : Str), Value.ref e), (fld, u)] : List (Str × Value)).reverse.lookup x := by
    obtain ⟨oL, es, ep, hL, r⟩ := hns
    exact ⟨oL, es, ep, k4 _ _ Le (k3 _ _ (k2 _ _ hL)), r⟩
  have ne : ∀ b o, K.lookup b = some o → b ≠ e := fun b o z zb => by
    rw [zb, ni] at z
    cases z
  have X4 : K.In h4 := fun b o z => k4 _ _ (ne b o z) (k3 _ _ (k2 _ _ (X1 _ _ z)))
  show PySem.wpAt _ _ _ (execs _ _) _ _ _
  refine PySem.ks_wpAt_execs_cons (PySem.ks_wpAt_Assign_Attr ?_ (hsw _ _))
  refine wpAt_of_wpAny (wpAny_Name (wpAny_loadName_local hkind ks4 ns4 hfld ?_) hdb)
  refine wpAny_Name (wpAny_loadName_local hkind ks3 ns4 hself ?_) (by decide)
  refine PySem.W.set_plain X4 (ox := PySem.HandSPX.excO C h3.objs.size) (od := none) ⟨he4, rfl, rfl, trivial⟩ F.T.sa ?_
  refine PySem.HandSPX.exc_osa X4 he4 hcl (show PySem.HandSPX.refsVE (.ref C :: bm) = true from hbm) rfl F.fld0 (fun h' tk' dx k dn dne hx hn => ?_)
  refine wpAt_of_wpAny (wpAny_execs_nil ?_)
  refine hq h' _ dx _ (fun b o nb z => k b o nb (k4 b o nb (k3 _ _ (k2 _ _ (hk _ _ z))))) hx hn ?_
  obtain ⟨oL, es, ep, hL, r⟩ := ns4
  exact Nat.le_trans (Nat.le_of_lt (Heap.lt_size hL)) dn
theorem ini_run (F : IniF K P C fld) (X : K.In hp) (gl : hp.Ns mainGlobals mg) (bl : hp.Ns builtinsNs mb) (bb : mb "super" = some (.type "super")) (nl : hp.NoLimit) (ni : K.lookup e = none) (he : hp.get? e = some (PySem.HandSPX.excO C t0)) (hroom : A.depth < recursionLimit)
    (hq : ∀ h' tk dx t1, (∀ b o, b ≠ e → hp.get? b = some o → h'.get? b = some o) → h'.get? e = some { cls := .ref C, dict := some dx, data := .fields #[.ref t1, .none, .none, .none, .bool false, .none] } →
      h'.Ns1 dx (fun y => if y = fld then some u else none) → hp.objs.size ≤ dx → R (.ok (.ret .none)) ⟨h', g, d, tk, os⟩) :
    ∃ fI, PySem.W.findIn K (.ref C) "__init__" = some (some (.ref fI)) ∧ PySem.W.typeIn K (.ref fI) = some (.type "function") ∧ codeAny (model P w) A (.call (.ref fI) ⟨[.ref e, u], []⟩) R ⟨hp, g, d, t, os⟩ := by
  refine ini_runA F ⟨[.ref e, u], []⟩ (fun fI2 oc2 od2 fd2 osl2 f12 lk2 => ?_) X gl bl bb nl ni he hroom hq
  obtain ⟨fI, cda, cc, oc, ccl, cl, od, cdd, cld, osl, ccs, csl, qual, txt, kV, doc, pm, ct, an, a1, a2, scope, p0, p1, p2, p3, p4, p5, p6, p7, p8, p9, j, vs, file, tf, f1, f2, lk, hcd, ha1, ha2, ncell, nco, ngen, hkind, ks1, ks2, ks3, ks4, lcda, hvs, hfile, lcc, hsw, hdb, hns', hline, hbind⟩ := F.fn
  rw [f1] at f12
  cases f12
  rw [lk] at lk2
  cases lk2
  exact hbind _ _
end
end G

set_option Elab.async false
set_option linter.all false
set_option maxRecDepth 100000
set_option maxHeartbeats 4000000
namespace G
open PySem PySem.Spec PyProof.Rows L2 LamX

/-! ## callables -/
structure RoomG (k : Nat) (A : Around) : Prop where
  r : Room k A
  g : A.guards = some []
theorem RoomG.mono {j k : Nat} {A : Around} (h : RoomG k A) (l : j ≤ k) : RoomG j A := ⟨h.r.mono l, h.g⟩
theorem RoomG.deeper {k : Nat} {A : Around} (h : RoomG (k + 1) A) (env : Env) : RoomG k (A.deeper env) := ⟨h.r.deeper env, h.g⟩
/-- what a thunk's call wants -/
abbrev TL := XK → Hp → VK → Prop
abbrev Acts := Addr → TL → Prop
abbrev noActs : L2.St → Hp → Addr → TL → Prop := fun _ _ _ _ => False
abbrev SpG := Acts → List V → List V → Hp → VK → XK → Prop
/-- the room of a thunk -/
def lamRoom : Nat := 42
section
variable (P : Program) (w : World) (K : PySem.W.Frag) (mg : Str → Option Value) (base : Heap)
/-- the thunk at f, known at the heap h: whoever calls it later -/
def Act (h : Heap) (H : Hp) (stk : List Env) (f : Addr) (tl : TL) : Prop :=
  ∀ (A : Around) (outer : List Env) (s' : Shared) (H' : Hp), Env0 P w K mg base A outer s' H' → Un (frs stk) [] H H' h s'.heap →
    PySem.W.FnAt f s'.heap ∧ ∀ (Q : VK) (E : XK), RoomG lamRoom A → tl E H' Q → codeAny (model P w) A (.call (.ref f) ⟨[], []⟩) (CR (L2.CX P w) outer P w H' s' Q E) s'
/-- what is at f, called with n values and the keywords ks -/
def FnS (k : Nat) (f : Addr) (n : Nat) (ks : List Str) (S : SpG) : Prop :=
  ∀ (A : Around) (outer : List Env) (s : Shared) (H : Hp) (us ws : List Value) (vs zs : List V) (Q : VK) (E : XK) (acts : Acts),
    RoomG k A → Env0 P w K mg base A outer s H → Vals vs us → Vals zs ws → vs.length = n → zs.length = ks.length →
    (∀ g tl, acts g tl → Act P w K mg base s.heap H outer g tl) → S acts vs zs H Q E →
    codeAny (model P w) A (.call (.ref f) ⟨us, ks.zip ws⟩) (CR (L2.CX P w) outer P w H s Q E) s
end
theorem Act.later {P : Program} {w : World} {K : PySem.W.Frag} {mg : Str → Option Value} {base h h1 : Heap} {H H1 : Hp} {l l1 : List Env} {f : Addr} {tl : TL} (a : Act P w K mg base h H l f tl) (u : Un (frs l) [] H H1 h h1)
    (hs : ∀ b ∈ frs l, b ∈ frs l1) (hn : ∀ b ∈ frs l1, b ∉ frs l → h.get? b = none) : Act P w K mg base h1 H1 l1 f tl := by
  intro A outer s' H' e0 u2
  refine a A outer s' H' e0 ?_
  refine ⟨fun b o q n hb hx => ?_, fun b o q n hb hx => ?_, fun b o q n hx => ?_, fun b o q hx => ?_, fun b xs q => u2.tups b xs (u.tups b xs q), fun b o x q => u2.frzs b o x (u.frzs b o x q), fun b ps q => ?_⟩
  · have q1 := u.keep b o q n hb hx
    have n1 := u.free b o q n hx
    refine u2.keep b o q1 n1 (fun z => ?_) hx
    have z2 := hn b z hb
    rw [q] at z2
    cases z2
  · obtain ⟨sl, q1⟩ := u.slot b o q n hb hx
    have n1 := u.free b o q n hx
    obtain ⟨sl2, q2⟩ := u2.slot b _ q1 n1 (hs b hb) hx
    exact ⟨sl2, q2⟩
  · obtain ⟨o1, q1⟩ := u.there b o q hx
    exact u2.free b o1 q1 (u.free b o q n hx) hx
  · obtain ⟨o1, q1⟩ := u.there b o q hx
    exact u2.there b o1 q1 hx
  · obtain ⟨m1, e1⟩ := u.tbls b ps q
    obtain ⟨m2, e2⟩ := u2.tbls b _ e1
    exact ⟨m1 ++ m2, by rw [e2, Array.append_assoc]⟩

/-! ## what stands around a frame's code -/
structure Gam where
  N : List Str
  fn : Str → Nat → List Str → Option (Nat × SpG)
  mt : Str → Option (Addr → Nat → Option (Nat × SpG))
  gv : Str → Option V
  exc : Str → Option Addr
  exA : Str → Option (Addr × Str)
  free : Str → Bool
  act : Acts
  qual : Str
  cells : List (Str × Addr)
  T : List (Addr × Str)
  P : Option Addr
/-- in a block: no thunks -/
def Gam.blk (Γ : Gam) : Gam := { Γ with act := fun _ _ => False, P := none }
/-- in a thunk: the low functions alone -/
def lowM (M : Addr → Nat → Option (Nat × SpG)) : Addr → Nat → Option (Nat × SpG) := fun C n => match M C n with
  | some p => if p.1 ≤ 40 then some p else none
  | none => none
def Gam.low (Γ : Gam) : Gam := { Γ with act := fun _ _ => False, P := none, mt := fun m => (Γ.mt m).map lowM, fn := fun x n ks => match Γ.fn x n ks with
  | some p => if p.1 ≤ 40 then some p else none
  | none => none }
structure Good (k : Nat) (Γ : Gam) (sc : Scope) (W : WX) (X : Cx) : Prop where
  calm : X.calm = true
  sc : X.env.scope = sc
  N : X.N = Γ.N
  nd : Γ.N.Nodup
  room : RoomG k X.A
  fn : ∀ x n ks p, Γ.fn x n ks = some p → p.1 ≤ k ∧ ∃ f, X.mg x = some (.ref f) ∧ PySem.W.keepIn X.K (.ref f) = true ∧ FnS X.prog X.w X.K X.mg X.base p.1 f n ks p.2
  mt : ∀ m M C n p, Γ.mt m = some M → M C n = some p → p.1 + 1 ≤ k ∧ ∃ f, Cls X.K C ∧ Meth X.K C m f ∧ FnS X.prog X.w X.K X.mg X.base p.1 f (n + 1) [] p.2
  gv : ∀ x v, Γ.gv x = some v → ∃ u, X.mg x = some u ∧ RelV v u
  free : ∀ x, Γ.free x = true → X.mg x = none
  exc : ∀ x C, Γ.exc x = some C → X.mg x = some (.ref C) ∧ PySem.W.excIn X.K C He.veBase "ValueError.__new__" = true ∧ PySem.W.keepIn X.K (.ref C) = true ∧
    PySem.W.subIn X.K (.ref C) (.type "BaseException") = some true ∧ PySem.W.typeIn X.K (.ref C) = some (.type "type")
  exA : ∀ x p, Γ.exA x = some p → 1 ≤ k ∧ X.mg x = some (.ref p.1) ∧ IniF X.K X.prog p.1 p.2
  act : ∀ f tl, Γ.act f tl → Act X.prog X.w X.K X.mg X.base X.s_0.heap X.H_0 X.outer f tl
  aex : (∃ f tl, Γ.act f tl) → X.ex = [] ∧ X.stack = X.env :: X.outer ∧ X.env.frame = some X.env.locals
  aek : (∃ f tl, Γ.act f tl) → lamRoom ≤ k
  pass : PassesOwn (model X.prog X.w) X.A X.env X.xe
  takes : Takes X W
  lam : ∀ p, Γ.P = some p → ∃ c, TabB X.base X.mg c p ∧ X.env.code = .ref c ∧ (p, Γ.qual ++ "<lambda>") ∈ Γ.T ∧ (∀ q ∈ Γ.T, q.1 = p → q.2 = Γ.qual ++ "<lambda>") ∧ X.env.cells = Γ.cells ∧ X.env.qual = Γ.qual
theorem Good.units {k : Nat} {Γ : Gam} {sc : Scope} {W : WX} {X : Cx} (g : Good k Γ sc W X) : X.A.units + 64 < cLine := g.room.r.units

/-! ## names -/
def vis (sc : Scope) (x : Str) : Bool := match sc.names.lookup x with
  | some .local => true
  | some .cell => true
  | some .free => true
  | _ => false
def loc (sc : Scope) (x : Str) : Bool := match sc.names.lookup x with
  | some .local => true
  | some .cell => true
  | _ => false
def glb (sc : Scope) (x : Str) : Bool := match sc.names.lookup x with
  | some .globalImplicit => true
  | _ => false
theorem vis_ok {sc : Scope} {x : Str} (h : vis sc x = true) : Vis sc x := by
  unfold vis at h
  split at h <;> first
    | exact .inl (by assumption)
    | exact .inr (.inl (by assumption))
    | exact .inr (.inr (by assumption))
    | cases h
theorem loc_ok {sc : Scope} {x : Str} (h : loc sc x = true) : Loc sc x := by
  unfold loc at h
  split at h <;> first
    | exact .inl (by assumption)
    | exact .inr (by assumption)
    | cases h
theorem glb_ok {sc : Scope} {x : Str} (h : glb sc x = true) : sc.names.lookup x = some .globalImplicit := by
  unfold glb at h
  split at h <;> first
    | assumption
    | cases h
def slot (N : List Str) (x : Str) : Option Nat := N.findIdx? (· == x)
theorem slot_ok {N : List Str} {x : Str} {i : Nat} (h : slot N x = some i) : N[i]? = some x := by
  unfold slot at h
  obtain ⟨h1, h2, _⟩ := List.findIdx?_eq_some_iff_getElem.mp h
  rw [List.getElem?_eq_getElem h1]
  exact congrArg some (beq_iff_eq.mp h2)
def oddName (x : Str) : Bool := x == ("__debug__" : Str) || x == ("__classdict__" : Str) || x == ("__name__" : Str)
theorem oddName_no {x : Str} (h : oddName x = false) : (x == ("__debug__" : Str)) = false ∧ (x == ("__classdict__" : Str)) = false ∧ x ≠ "__name__" := by
  unfold oddName at h
  rw [Bool.or_eq_false_iff, Bool.or_eq_false_iff] at h
  exact ⟨h.1.1, h.1.2, fun e => by
    subst e
    have := h.2
    simp at this⟩
def tNo : TE := fun _ _ _ => False
def tNoS : TS := fun _ _ _ => False
theorem pe_no {X : Cx} {e : Expr} : PE X e tNo := ⟨fun _ _ _ _ _ _ h => h.elim⟩
theorem ps_no {X : Cx} {e : Stmt} : PS X e tNoS := ⟨fun _ _ _ _ _ _ h => h.elim⟩
def noStar (es : List Expr) : Bool := es.all fun e => match e with
  | .Starred .. => false
  | _ => true
theorem star_one {e : Expr} {es : List Expr} {env : Env} (h : noStar (e :: es) = true) : starEach (e :: es) env = (false, eval e env) :: starEach es env := by
  unfold noStar at h
  rw [List.all_cons] at h
  cases e <;> first
    | rfl
    | cases (Bool.and_eq_true_iff.mp h).1
theorem star_tail {e : Expr} {es : List Expr} (h : noStar (e :: es) = true) : noStar es = true := by
  unfold noStar at h ⊢
  rw [List.all_cons] at h
  exact (Bool.and_eq_true_iff.mp h).2
theorem star_any {pos : Pos} {env : Env} : ∀ {es : List Expr}, noStar es = true → (backTo pos (starEach es env)).any (·.1) = false
  | [], _ => rfl
  | e :: es, h => by
    have ih := star_any (pos := pos) (env := env) (star_tail h)
    rw [star_one h]
    show (false || (backTo pos (starEach es env)).any (·.1)) = false
    rw [ih]
    rfl
theorem star_all {pos : Pos} {env : Env} : ∀ {es : List Expr}, noStar es = true → (backTo pos (starEach es env)).all (fun x => !x.1) = true
  | [], _ => rfl
  | e :: es, h => by
    have ih := star_all (pos := pos) (env := env) (star_tail h)
    rw [star_one h]
    show (true && (backTo pos (starEach es env)).all (fun x => !x.1)) = true
    rw [ih]
    rfl
def kwNames (kws : List Keyword) : List Str := kws.filterMap (·.arg)
def kwAll (kws : List Keyword) : Bool := kws.all (·.arg.isSome)
theorem kw_all {pos : Pos} {env : Env} : ∀ {kws : List Keyword}, kwAll kws = true → (backToKw pos (keywordEach kws env)).all (·.1.isSome) = true ∧ (backToKw pos (keywordEach kws env)).any (·.1.isNone) = false ∧
    (backToKw pos (keywordEach kws env)).filterMap (·.1) = kwNames kws
  | [], _ => ⟨rfl, rfl, rfl⟩
  | ⟨none, v, p⟩ :: kws, h => by
    unfold kwAll at h
    rw [List.all_cons] at h
    cases (Bool.and_eq_true_iff.mp h).1
  | ⟨some n, v, p⟩ :: kws, h => by
    unfold kwAll at h
    rw [List.all_cons] at h
    obtain ⟨a, b, c⟩ := kw_all (pos := pos) (env := env) (kws := kws) (Bool.and_eq_true_iff.mp h).2
    refine ⟨?_, ?_, ?_⟩
    · show (true && (backToKw pos (keywordEach kws env)).all (·.1.isSome)) = true
      rw [a]
      rfl
    · show (false || (backToKw pos (keywordEach kws env)).any (·.1.isNone)) = false
      rw [b]
      rfl
    · show n :: (backToKw pos (keywordEach kws env)).filterMap (·.1) = n :: kwNames kws
      rw [c]
/-- a receiver that super() cannot be -/
def notBare (e : Expr) : Bool := match e with
  | .Call (.Name _ _) [] [] _ => false
  | _ => true
theorem base_ok {e : Expr} {m : Str} {env : Env} (h : notBare e = true) : attributeBase e m env (eval e env) = eval e env := by
  cases e with
  | Call f args kws pos =>
    cases f with
    | Name id p =>
      cases args with
      | nil =>
        cases kws with
        | nil => cases h
        | cons a b => rfl
      | cons a b => rfl
    | _ => rfl
  | _ => rfl
end G

set_option Elab.async false
set_option linter.all false
set_option maxRecDepth 100000
set_option maxHeartbeats 4000000
namespace G
open PySem PySem.Spec PyProof.Rows L2 LamX
/-! ## calls of the module's own callables -/
def tFn (S : SpG) (acts : L2.St → Hp → Acts) (W : WX) (t tk : TA) (n m : Nat) : TE := fun σ H Q =>
  t σ H fun vs H1 => tk σ H1 fun zs H2 => vs.length = n ∧ zs.length = m ∧ S (acts σ H2) vs zs H2 Q (WE W σ)
section
variable {k : Nat} {Γ : Gam} {sc : Scope} {W : WX} {X : Cx}
theorem run_s {l : Nat} {f : Addr} {n : Nat} {ks : List Str} {S : SpG} {acts : Acts} {pins : List (Addr × Obj)} {σ : L2.St} {H : Hp} {s : Shared} {Q : VK} {us ws : List Value} {vs zs : List V}
    (g : Good k Γ sc W X) (F : FnS X.prog X.w X.K X.mg X.base l f n ks S) (hl : l ≤ k) (I : Inv X pins σ H s) (r : Vals vs us) (rz : Vals zs ws) (l1 : vs.length = n) (l2 : zs.length = ks.length)
    (ha : ∀ g tl, acts g tl → Act X.prog X.w X.K X.mg X.base s.heap H X.stack g tl) (h : S acts vs zs H Q (WE W σ)) :
    wpAny (model X.prog X.w) X.A (call (.ref f) us (ks.zip ws)) (EP X pins σ Q) X.xe s := by
  have run := F X.A X.stack s H us ws vs zs Q (WE W σ) acts (g.room.mono hl) I.env0 r rz l1 l2 ha h
  refine wpAny_call (codeAny_mono run fun res s' hq => ?_)
  cases res with
  | error e => exact passAt g.takes σ pins H s e s' I hq
  | ok fl =>
    cases fl with
    | ret u => exact I.after hq
    | next => exact False.elim hq
    | brk => exact False.elim hq
    | cont => exact False.elim hq
theorem gl_of (g : Good k Γ sc W X) {x : Str} (h : glb sc x = true) : Gl X x := by
  show X.env.scope.names.lookup x = some .globalImplicit
  rw [g.sc]
  exact glb_ok h
theorem pe_fn (g : Good k Γ sc W X) {x : Str} {p pos : Pos} {es : List Expr} {kws : List Keyword} {S : SpG} {l : Nat} {acts : L2.St → Hp → Acts} {t tk : TA} (hx : oddName x = false) (hg : glb sc x = true)
    (hf : Γ.fn x es.length (kwNames kws) = some (l, S)) (hs : noStar es = true) (hk : kwAll kws = true) (ha : PA X es t) (ht : es = [] → t = tNil) (hkw : PK X kws tk)
    (hact : ∀ (pins : List (Addr × Obj)) (σ : L2.St) (H : Hp) (s : Shared), Inv X pins σ H s → ∀ f tl, acts σ H f tl → Act X.prog X.w X.K X.mg X.base s.heap H X.stack f tl) :
    PE X (.Call (.Name x p) es kws pos) (tFn S acts W t tk es.length (kwNames kws).length) := by
  obtain ⟨hl, f, hm, hkeep, F⟩ := g.fn _ _ _ _ hf
  obtain ⟨o1, o2, o3⟩ := oddName_no hx
  refine ⟨fun pins s σ H Q I h => ?_⟩
  refine wpAny_Call_Name_kw (ld_glob I (gl_of g hg) hm ?_ o1)
  obtain ⟨k1, k2, k3⟩ := kw_all (pos := pos) (env := X.env) hk
  have args := ha.run pos pins s σ H _ I h
  have hpl : ((backTo pos (starEach es X.env)).any (·.1) || (backToKw pos (keywordEach kws X.env)).any (·.1.isNone)) = false := by
    rw [star_any hs, k2]
    rfl
  cases es with
  | nil =>
    have et := ht rfl
    subst et
    refine PySem.W.callWith_KW0 (h₀ := X.base) I.ok.mod.kin hkeep k1 ?_ hpl
    refine thn (hkw.run pos pins s σ H _ I h) fun ws s2 ⟨zs, H2, I2, rz, l1, l2, q2⟩ => ⟨I2.kIn, ?_⟩
    rw [k3]
    exact run_s g F hl I2 .nil rz l1 l2 (hact pins σ H2 s2 I2) q2
  | cons e es =>
    refine PySem.W.callWith_KW (h₀ := X.base) I.ok.mod.kin hkeep k1 (thn args fun us s1 ⟨vs, H1, I1, r, q⟩ => ?_) hpl (star_one hs)
    refine thn (hkw.run pos pins s1 σ H1 _ I1 q) fun ws s2 ⟨zs, H2, I2, rz, l1, l2, q2⟩ => ⟨I2.kIn, ?_⟩
    rw [k3]
    exact run_s g F hl I2 r rz l1 l2 (hact pins σ H2 s2 I2) q2
/-! ### thunks: called by a name that got one -/
def tThunk (i : Nat) (acts : Acts) (W : WX) : TE := fun σ H Q => ∃ f tl, σ[i]? = some (some (.ref f)) ∧ acts f tl ∧ tl (WE W σ) H Q
theorem pe_thunk (g : Good k Γ sc W X) {x : Str} {i : Nat} {p pos : Pos} (hx : oddName x = false) (hv : vis sc x = true) (hi : slot Γ.N x = some i) (hk : lamRoom ≤ k) :
    PE X (.Call (.Name x p) [] [] pos) (tThunk i Γ.act W) := by
  obtain ⟨o1, o2, o3⟩ := oddName_no hx
  have hN : X.N[i]? = some x := by
    rw [g.N]
    exact slot_ok hi
  have hV : Vis X.env.scope x := by
    rw [g.sc]
    exact vis_ok hv
  refine ⟨fun pins s σ H Q I h => ?_⟩
  obtain ⟨f, tl, e1, ac, ht⟩ := h
  obtain ⟨a1, a2, a3⟩ := g.aex ⟨f, tl, ac⟩
  have A1 := g.act f tl ac
  refine wpAny_Call_Name_kw (thn ((pe_var (X := X) (pos := p) (i := i) hN hV o1 o2).run pins s σ H (fun v H1 => v = .ref f ∧ H1 = H) I ⟨.ref f, e1, rfl, rfl⟩) fun u s1 hh => ?_)
  obtain ⟨v, H1, I1, r1, ev, eH⟩ := hh
  subst ev
  rw [eH] at I1
  obtain rfl : u = Value.ref f := r1
  have ub : Un (frs X.outer) [] X.H_0 H X.s_0.heap s1.heap := by
    have b := I1.base
    rw [a1] at b
    exact b
  obtain ⟨fa, run⟩ := A1 X.A X.stack s1 H I1.env0 ub
  refine PySem.W.callWith_F0 fa ?_
  refine wpAny_call (codeAny_mono (run Q (WE W σ) (g.room.mono hk) ht) fun res s' hq => ?_)
  cases res with
  | error e => exact passAt g.takes σ pins H s1 e s' I1 hq
  | ok fl =>
    cases fl with
    | ret u => exact I1.after hq
    | next => exact False.elim hq
    | brk => exact False.elim hq
    | cont => exact False.elim hq

/-! ### thunks: made -/
abbrev noArgs : Arguments := ⟨[], [], none, [], [], none, []⟩
def LamObj (qual : Str) (cells : List (Str × Addr)) (o : Obj) (body : Expr) (scope : Scope) (c' : Addr) : Prop :=
  ∃ pm ctv : Value, o = PySem.W.kla_obj "<lambda>" (qual ++ "<lambda>") noArgs body scope (cloFrom cells scope.names []) pm c' ctv
abbrev frzO (o : Obj) : HO := .frz o (.ext fun _ => True)
def tLamV (qual : Str) (cells : List (Str × Addr)) (T : List (Addr × Str)) (body : Expr) (scope : Scope) : TE := fun _ H Q => Tabs T H ∧
  ∀ (f c' : Addr) (o : Obj) (H1 : Hp), ExtN H H1 → Tabs T H1 → H1 f = none → LamObj qual cells o body scope c' → H1 c' = some (CodeO c' (qual ++ "<lambda>")) → Q (.ref f) (upd H1 f (frzO o))
theorem frz_new {P : Program} {w : World} {H : Hp} {h : Heap} {o : Obj} (nf : o.isFreed = false := by rfl) : ObjOk P w H (h.push o) h.objs.size (frzO o) :=
  ⟨Heap.get?_push_size _ nf, ⟨trivial, ⟨_, Heap.get?_push_size _ nf⟩, fun _ _ _ _ => trivial⟩⟩
theorem pe_lamV (g : Good k Γ sc W X) {body : Expr} {scope : Scope} {pos : Pos} {p : Addr} (hP : Γ.P = some p) (L : lamSB sc scope = true) :
    PE X (.Lambda noArgs body scope pos) (tLamV Γ.qual Γ.cells Γ.T body scope) := by
  obtain ⟨c, TB, hcode, hmT, hu, hcl, hq⟩ := g.lam p hP
  have LS : LamS X.env.scope scope := by
    rw [g.sc]
    exact lamS_by L
  refine ⟨fun pins s σ H Q I h => ?_⟩
  obtain ⟨hT, fin⟩ := h
  rw [← hq] at hmT hu fin
  rw [← hcl] at fin
  obtain ⟨ps, hPs, htr, hall⟩ := hT _ hmT
  have hfree := LS.has I.ok
  refine PySem.W.kla_eval rfl ?_
  have bP := TB.bm.keeps I.bk
  have atP : s.heap.get? p = some { cls := .none, data := .fields ps } := I.hok p _ hPs
  cases hc : codeAmong pos ps.toList with
  | some cv =>
    obtain ⟨c', e, hco⟩ := hall pos cv hc
    subst e
    refine PySem.W.kla_makeFunctionHit (mg := X.mg) (c := c) (P := p) (ps := ps) (closure_ok hfree) I.ok.glob (I.mod.glob.keeps I.bk) hcode (TB.code.keeps I.bk) atP htr hc bP fun ctv h' tk hx hsz => ?_
    have J : Inv X pins σ H { s with heap := h', toks := tk } := I.kept fun b o e => hx b o e
    have nf : H h'.objs.size = none := J.hok.fresh (Nat.le_refl _)
    exact ⟨.ref h'.objs.size, _, J.laid (t' := tk) (fun b o e => Heap.get?_push_of_some _ e) (Nat.le_refl _) frz_new, rfl, fin _ c' _ H (ExtN.refl H) hT nf ⟨_, ctv, rfl⟩ hco⟩
  | none =>
    refine PySem.W.kla_makeFunction (mg := X.mg) (c := c) (P := p) (ps := ps) (closure_ok hfree) I.ok.glob (I.mod.glob.keeps I.bk) hcode (TB.code.keeps I.bk) atP htr hc TB.gP bP fun c' ctv h' tk hx hge hlt hrec htb => ?_
    obtain ⟨c2, oc, vs, t, e2, hoc, hd, hv⟩ := hrec
    cases e2
    have nC : H c' = none := I.hok.fresh hge
    have J := inv_table (t' := tk) (more := #[rawInt pos.line, rawInt pos.col, .ref c']) (h' := h') I hPs hx htb hge ⟨oc, vs, t, hoc, hd, hv⟩
    have hE : ExtN H (upd (upd H p (.tbl (ps ++ #[rawInt pos.line, rawInt pos.col, .ref c']))) c' (CodeO c' (X.env.qual ++ "<lambda>"))) := fun b o e n => by
      have nb : b ≠ p := fun z => by
        rw [z, hPs] at e
        exact n ps (Option.some.inj e).symm
      rw [upd_ne (ne_of_none e nC), upd_ne nb]
      exact e
    have eL : (ps ++ #[rawInt pos.line, rawInt pos.col, .ref c']).toList = ps.toList ++ [rawInt pos.line, rawInt pos.col, .ref c'] := by simp
    have nf := J.hok.fresh (Nat.le_refl h'.objs.size)
    refine ⟨.ref h'.objs.size, _, J.laid (t' := tk) (fun b o e => Heap.get?_push_of_some _ e) (Nat.le_refl _) frz_new, rfl, fin _ c' _ _ hE (fun q hq => ?_) nf ⟨_, ctv, rfl⟩ upd_same⟩
    by_cases hb : q.1 = p
    · rw [hu q hq hb, hb]
      refine ⟨_, by rw [upd_ne (ne_of_none hPs nC), upd_same], by rw [eL]; exact PySem.TriplesOk_snoc _ _ _ _ htr, fun p' cv hcv => ?_⟩
      rw [eL] at hcv
      rcases among_app _ htr hcv with z | z
      · obtain ⟨c0, e1, e2⟩ := hall p' cv z
        exact ⟨c0, e1, hE _ _ e2 codeO_ne⟩
      · exact ⟨c', z, upd_same⟩
    · obtain ⟨ps', a1, a2, a3⟩ := hT q hq
      refine ⟨ps', by rw [upd_ne (ne_of_none a1 nC), upd_ne hb]; exact a1, a2, fun p' cv hcv => ?_⟩
      obtain ⟨c0, e1, e2⟩ := a3 p' cv hcv
      exact ⟨c0, e1, hE _ _ e2 codeO_ne⟩
/-- a thunk of this very frame, as whoever gets it may call it -/
theorem lam_act {pins : List (Addr × Obj)} {σ : L2.St} {H : Hp} {s : Shared} {f c' : Addr} {o : Obj} {body : Expr} {scope : Scope} {tb : XK → TE} (I : Inv X pins σ H s) (L : LamS X.env.scope scope) (hf : H f = some (frzO o))
    (ho : LamObj X.env.qual X.env.cells o body scope c')
    (hbody : ∀ (A : Around) (outer : List Env) (s : Shared) (H : Hp) (E : XK), RoomG lamRoom A → PE (lamCx X A outer s H E scope f c') body (tb E)) :
    Act X.prog X.w X.K X.mg X.base s.heap H X.stack f (fun E H' Q' => H' c' = some (CodeO c' (X.env.qual ++ "<lambda>")) ∧ tb E σ H' Q') := by
  obtain ⟨pm, ctv, rfl⟩ := ho
  intro A outer s' H' e0 un
  have of1 : s'.heap.get? f = some _ := (e0.hok f _ (un.frzs f _ _ hf)).1
  refine ⟨⟨_, _, _, _, of1⟩, fun Q E hr ht => ?_⟩
  obtain ⟨hc, ht⟩ := ht
  obtain ⟨⟨oc, vs, t, hoc, hdc, hvc⟩, _, _⟩ := e0.hok c' _ hc
  have nl : s'.heap.NoLimit := e0.mod.nolimit.keeps fun b o e => (e0.bs b o e).1
  refine PySem.W.kla_callFunE hr.r.depth of1 rfl L.co L.gen rfl ⟨c', oc, vs, t, rfl, hoc, hdc, hvc⟩ ?_
  have hb : bindArgs (PySem.W.kla_fn "<lambda>" (X.env.qual ++ "<lambda>") noArgs body scope (cloFrom X.env.cells scope.names []) pm (.ref c') ctv) ⟨[], []⟩ = pure [] := rfl
  rw [hb]
  refine wpAny_pure (wpAny_newFunctionEnv (fun y hy => (L.own y hy).2) (fun y hy => absurd hy (by simp)) (fun h₁ hns hsb => ⟨nl.fresh _ hsb, ?_⟩) L.kind)
  show codeAny _ _ (.expr body (lamEnv X scope s'.heap.objs.size f c')) _ _
  have kp : ∀ b o, s'.heap.get? b = some o → h₁.get? b = some o := fun b o e =>
    hsb.extBut b o (Nat.ne_of_lt (Heap.lt_size e)) (Heap.get?_push_of_some _ e)
  have J := lam_start2 (E := E) (f := f) (c' := c') (tk := s'.toks + ([] : List (Str × Value)).length) I L e0 hr.r.hd un hns kp
  refine PySem.W.kla_codeExpr (wpAny_mono ((hbody A outer s' H' E hr).run [] _ _ H' Q J ht) (fun v s2 hq => ?_) fun e s2 hq => hq)
  obtain ⟨w', H2, J2, rv, q⟩ := hq
  exact ⟨w', H2, J2.os, J2.bare, J2.base, J2.hok, rv, q⟩
end
end G

set_option Elab.async false
set_option linter.all false
set_option maxRecDepth 100000
set_option maxHeartbeats 4000000
namespace G
open PySem PySem.Spec PyProof.Rows L2 LamX
/-! ## errors -/
/-- an error object, caught and kept -/
def ExT (cls : Value) (d : Option Addr) (a : Addr) : HO := .ext fun h => ∃ (oe : Obj) (vs : Array Value), h.get? a = some oe ∧ Zc cls d oe ∧ oe.data = .fields vs
theorem exT_ok {P : Program} {w : World} {H : Hp} {h : Heap} {a : Addr} {cls : Value} {d : Option Addr} {oe : Obj} {vs : Array Value} (e : h.get? a = some oe) (z : Zc cls d oe) (hd : oe.data = .fields vs) : ObjOk P w H h a (ExT cls d a) :=
  ⟨⟨oe, vs, e, z, hd⟩, ⟨oe, e⟩, fun _ _ ⟨o, v, q, r⟩ kp => ⟨o, v, kp o q, r⟩⟩
def tRaise0 (C : Addr) (W : WX) : TS := fun _ σ H => W (.ref C) none σ H
section
variable {k : Nat} {Γ : Gam} {sc : Scope} {W : WX} {X : Cx}
theorem ps_raise0 (g : Good k Γ sc W X) {x m : Str} {C : Addr} {j : Nat} {p p2 pos pos2 : Pos} (hx : oddName x = false) (hg : glb sc x = true) (he : Γ.exc x = some C) :
    PS X (.Raise (some (.Call (.Name x p) [.Constant (.str m) j p2] [] pos)) none pos2) (tRaise0 C W) := by
  obtain ⟨e1, e2, e3, e4, e5⟩ := g.exc x C he
  exact ps_raise g.calm g.takes (pmk_own PySem.F.excBase_ValueError e2 e1 e3 (raises_own e4 e5) (gl_of g hg) (oddName_no hx).1)
/-- what 'except x as n' wishes: the error is kept at a -/
def wKeep (K : PySem.W.Frag) (c : Value) (i : Nat) (ts : TS) (Wout : WX) (D : Ends) : WX := fun cls d σ H => ∃ b, PySem.W.exmOne K cls c = some b ∧
  (b = true → ∀ a, H a = none → ts ⟨fun σ' H' => D.nx (σ'.set i none) H', D.rt, fun σ' H' => D.bk (σ'.set i none) H', fun σ' H' => D.ct (σ'.set i none) H'⟩ (σ.set i (some (.ref a))) (upd H a (ExT cls d a))) ∧
  (b = false → Wout cls d σ H)
theorem suite_in {pins : List (Addr × Obj)} {σ : L2.St} {H : Hp} {s : Shared} (I : Inv X pins σ H s) (a : Addr) : Inv (X.suite a (X.pn ++ pins)) [] σ H s :=
  ⟨I.ok.suite _ _, I.os, I.bare, I.base, I.loc, I.cell, I.free, I.freeC, fun q hq => I.pin q (by simpa using hq), I.hok, I.len⟩
theorem suite_out {pins pn' : List (Addr × Obj)} {σ : L2.St} {H : Hp} {s : Shared} {a : Addr} (ok : X.Ok) (I : Inv (X.suite a (X.pn ++ pins)) pn' σ H s) : Inv X pins σ H s :=
  ⟨ok, I.os, I.bare, I.base, I.loc, I.cell, I.free, I.freeC, fun q hq => I.pin q (List.mem_append.mpr (.inl hq)), I.hok, I.len⟩
/-- the error that landed is tracked -/
theorem keep_err {pins : List (Addr × Obj)} {σ : L2.St} {H : Hp} {sI s' : Shared} {B : Heap} {a : Addr} {oe : Obj} {vs : Array Value} {cls : Value} {d : Option Addr} (I : Inv X pins σ H sI)
    (nb : ∀ b o, sI.heap.get? b = some o → b ∉ frs X.stack → B.get? b = some o) (st : B.StaysIn s'.heap) (up : sI.heap.UpToSlots s'.heap) (hos : s'.os = sI.os) (ag : AllBare s'.gens) (na : H a = none) (nB : B.get? a = none) (nst : a ∉ frs X.stack)
    (he : s'.heap.get? a = some oe) (hz : Zc cls d oe) (hd : oe.data = .fields vs) : Inv X pins σ (upd H a (ExT cls d a)) s' := by
  have J := I.landed nb st up hos ag
  have nI : ∀ b o, sI.heap.get? b = some o → b ≠ a := fun b o e z => by
    rw [z] at e
    have z2 := nb a o e nst
    rw [nB] at z2
    cases z2
  have sl : ∀ b ∈ frs X.stack, ∀ o, sI.heap.get? b = some o → ∃ q, s'.heap.get? b = some { o with slots := q } := fun b hb o e => by
    obtain ⟨_, o', e', hnf⟩ := I.stack.mem hb
    rw [e] at e'
    cases e'
    exact up b o e hnf
  have un : Un (frs X.stack) [] H (upd H a (ExT cls d a)) sI.heap s'.heap := by
    refine ⟨fun b o e _ hb _ => st b o (nb b o e hb), fun b o e _ hb _ => sl b hb o e, fun b o e n _ => ?_, fun b o e _ => ?_, fun b xs e => ?_, fun b o xs e => ?_, fun b ps e => ⟨#[], ?_⟩⟩
    · rw [upd_ne (nI b o e)]
      exact n
    · by_cases hb : b ∈ frs X.stack
      · obtain ⟨q, z⟩ := sl b hb o e
        exact ⟨_, z⟩
      · exact ⟨o, st b o (nb b o e hb)⟩
    · rw [upd_ne (ne_of_none e na)]
      exact e
    · rw [upd_ne (ne_of_none e na)]
      exact e
    · rw [upd_ne (ne_of_none e na), e]
      simp
  exact I.call' (ch := []) hos un (J.hok.laidN (fun _ _ q => q) na (exT_ok he hz hd)) ag (fun _ z => nomatch z)
theorem ps_tryK {x n : Str} {c : Value} {i : Nat} {body suite : List Stmt} {b₀ : Stmt} {np pos pos' : Pos} {tb : WX → TS} {ts : TS} {Wout : WX} (hs : X.stack = X.env :: X.outer) (hf : X.env.frame = some X.env.locals) (hN : X.N.Nodup)
    (hi : X.N[i]? = some n) (hln : X.env.kindOf n = some .local) (hc : Names X x c) (tk : Takes X Wout)
    (hb : ∀ (W : WX) (pn : List (Addr × Obj)) (xe : Value → Shared → Prop), Takes (X.tr pn xe) W → PassesOwn (model X.prog X.w) X.A X.env xe → PSs (X.tr pn xe) body (tb W))
    (hsu : ∀ (a : Addr) (pn : List (Addr × Obj)), PSs (X.suite a pn) (b₀ :: suite) ts) :
    PS X (.Try body [.ExceptHandler (some (.Name x np)) (some n) (b₀ :: suite) pos'] [] [] pos) (fun D σ H => tb (wKeep X.K c i ts Wout D) D σ H) := by
  refine ⟨fun pins s σ H D I h => ?_⟩
  have ok := I.ok
  have frm : X.A.frames = some (X.env :: X.outer) := by rw [ok.frames, hs]
  have nloc : Loc X.env.scope n := .inl hln
  refine wpAny_Try_except ?_
  have run := (hb (wKeep X.K c i ts Wout D) (X.pn ++ pins) (fun e s₁ => wpAny (model X.prog X.w) X.A (noteFrame e X.env) (fun _ s₂ => wpAny (model X.prog X.w) X.A (setFlight e none) (fun _ s₃ =>
    wpAny (model X.prog X.w) X.A (handleBy e X.env [.ExceptHandler (some (.Name x np)) (some n) (b₀ :: suite) pos']) (SP X pins D) X.xe s₃) X.xe s₂) X.xe s₁) (fun u s' xx => ?_) PassesOwn.looking).run [] s σ H D (I.toTry _) h
  · refine wpAny_mono run (fun f s1 hsp => ?_) (fun e s1 he => he)
    cases f with
    | next =>
      obtain ⟨σ2, H2, J2, q⟩ := hsp
      exact wpAny_execs_nil ⟨σ2, H2, J2.ofTry ok, q⟩
    | brk =>
      obtain ⟨σ2, H2, J2, q⟩ := hsp
      exact ⟨σ2, H2, J2.ofTry ok, q⟩
    | cont =>
      obtain ⟨σ2, H2, J2, q⟩ := hsp
      exact ⟨σ2, H2, J2.ofTry ok, q⟩
    | ret u =>
      obtain ⟨v, σ2, H2, J2, r, q⟩ := hsp
      exact ⟨v, σ2, H2, J2.ofTry ok, r, q⟩
  · obtain ⟨a, B, sI, pins', σ', H', cls, d, rfl, J', nb, up, sky, na, os, ag, b, hb1, hyes, hno⟩ := xx
    have J : Inv X pins σ' H' sI := J'.ofTry ok
    have sky2 : Sky B (X.env :: X.outer) a (Zc cls d) X.env.locals s'.heap := by
      rw [← hs]
      exact sky
    show wpAny (model X.prog X.w) X.A (noteFrame (.ref a) X.env) _ _ _
    refine Sky.land Zc.steady frm hf sky2 fun h3 fl3 up3 => ?_
    have J3 : Inv X pins σ' H' { s' with heap := h3 } := J.landed nb fl3.1 (up.trans up3) os ag
    obtain ⟨oe3, vs3, he3, hz3, hd3⟩ := fl3.there
    have nofr : a ∉ frs (X.env :: X.outer) := fun hm => by
      obtain ⟨_, o', e', hnf⟩ := fl3.2.2.1.mem hm
      rw [he3] at e'
      cases e'
      exact hnf _ hd3
    have nst : a ∉ frs X.stack := by
      rw [hs]
      exact nofr
    have S3 := suite_in J3 a
    refine wpAny_handleBy_cons (codeAny_handlers_test ?_) (by intro q; cases q)
    have LT : PySem.W.Looks (model X.prog X.w) h3 (typeOf (.ref a)) cls := fun A Q E s k q =>
      wpAny_typeOf_ref (k _ _ he3) (by rw [hz3.1]; exact q)
    have LM := PySem.W.exm_one (M := model X.prog X.w) (J3.kIn) LT hb1
    have test : ∀ {Q : Value → Shared → Prop} {E : Value → Shared → Prop}, Q c { s' with heap := h3 } →
        wpAny (model X.prog X.w) (X.A.mark (some (.ref a))) (eval (.Name x np) X.env) Q E { s' with heap := h3 } := fun {Q E} q => by
      obtain ⟨hg, hdbg, hm | ⟨hm, hv, hnn⟩⟩ := hc
      · exact ld_glob (X := X.suite a (X.pn ++ pins)) S3 hg hm q hdbg
      · exact ld_blt (X := X.suite a (X.pn ++ pins)) S3 hg hm hv q hnn hdbg
    refine test (LM.here ?_)
    cases b with
    | true =>
      refine codeAny_handlers_suite_as ?_
      refine HandSPX.lands_againZ fl3 fun h4 fl4 up4 => ?_
      obtain ⟨oe4, vs4, he4, hz4, hd4⟩ := fl4.there
      have J4 : Inv X pins σ' (upd H' a (ExT cls d a)) { s' with heap := h4 } := keep_err (s' := { s' with heap := h4 }) J nb fl4.1 ((up.trans up3).trans up4) os ag na fl4.2.1 nst he4 hz4 hd4
      refine store_ok (X := X.suite a (X.pn ++ pins)) (v := .ref a) (suite_in J4 a) hN hi nloc rfl (fun s5 S5 => ?_) (.inr hln)
      refine wpAny_mono ((hsu a (X.pn ++ pins)).run [] s5 _ _ _ S5 (hyes rfl a na)) (fun f s6 hsp => ?_) (fun _ _ z => False.elim z)
      have fin : ∀ {σ6 : L2.St} {H6 : Hp} {Q : Shared → Prop}, Inv (X.suite a (X.pn ++ pins)) [] σ6 H6 s6 → (∀ s7, Inv X pins (σ6.set i none) H6 s7 → Q s7) →
          wpAny (model X.prog X.w) X.A (do bindName X.env n .none; unbindBehindTheSuite X.env n pos') (fun _ s7 => Q s7) X.xe s6 := fun {σ6 H6 Q} S6 hq => gone_ok (suite_out ok S6) hN hi hln hq
      cases f with
      | next =>
        obtain ⟨σ6, H6, S6, q6⟩ := hsp
        exact fin S6 fun s7 J7 => ⟨_, _, J7, q6⟩
      | brk =>
        obtain ⟨σ6, H6, S6, q6⟩ := hsp
        exact fin S6 fun s7 J7 => ⟨_, _, J7, q6⟩
      | cont =>
        obtain ⟨σ6, H6, S6, q6⟩ := hsp
        exact fin S6 fun s7 J7 => ⟨_, _, J7, q6⟩
      | ret u =>
        obtain ⟨v6, σ6, H6, S6, r6, q6⟩ := hsp
        exact fin S6 fun s7 J7 => ⟨_, _, _, J7, r6, q6⟩
    | false =>
      show wpAny _ X.A (handleBy (.ref a) X.env []) _ _ _
      refine wpAny_handleBy_nil ?_
      obtain ⟨k1, k2, k3, oe, vs, T, oT, ts', he, hz, hd, h1, hr⟩ := id fl3
      unfold PySem.passOn
      refine wpAny_bind (wpAny_field he hd h1 ?_)
      rw [if_neg (show ¬ ((Value.ref T == Value.none) = true) from by simp)]
      have go : wpAny (model X.prog X.w) X.A (setFlight (.ref a) X.env.frame) (fun _ s4 => wpAny (model X.prog X.w) X.A (throw (.ref a) : Sem Flow) (SP X pins D) X.xe s4) X.xe { s' with heap := h3 } := by
        rw [hf]
        refine HandSPX.setFlight_upZ fl3 fun h4 hh4 up4 => wpAny_throw (tk _ _ ?_)
        refine ⟨a, B, sI, pins, σ', H', cls, d, rfl, J, nb, (up.trans up3).trans up4, .inr (.inr ?_), na, os, ag, hno rfl⟩
        rw [hs]
        exact hh4
      first
        | exact wpAny_bind (wpAny_pure (wpAny_bind go))
        | exact wpAny_bind go
end
/-! ## isinstance of an error, with its dict or without -/
section
variable {P : Program} {w : World} {A : Around} {E : Value → Shared → Prop} {st : Shared} {K : PySem.W.Frag} {a C : Addr} {oa : Obj} {od : Option Obj}
theorem find_cls (c : ExcC K C) : PySem.W.findObj K C od "__class__" = some (.bind (.builtin "getset_descriptor.__get__") (.builtin "object.__class__")) := by
  obtain ⟨cd, hc, _⟩ := PySem.W.any_some c.hd
  cases od with
  | none => exact PySem.W.findObj_dataN (by rw [hc]; rfl) c.ha c.hn c.ht
  | some ob =>
    unfold PySem.W.findObj
    rw [hc, Option.bind_some, c.ha, Option.bind_some]
    simp [c.hn, c.ht]
theorem cls_err (c : ExcC K C) (X : K.In st.heap) (J : PySem.W.InstAt st.heap a oa C od) {Q : Option Value → Shared → Prop} (h : Q (some (.ref C)) { st with toks := st.toks + 1 }) : wpAny (model P w) A (getAttr? (.ref a) "__class__") Q E st := by
  have hf := find_cls (od := od) c
  obtain ⟨hh, gg, dd, tt, oo⟩ := st
  have T0 := J.type (M := model P w)
  have T1 := PySem.W.looks_findIn (M := model P w) X c.hg
  have T2 := PySem.W.looks_findIn (M := model P w) X c.hk
  have T3 := PySem.W.looks_find (M := model P w) X J hf
  have isB : PySem.W.Looks (model P w) hh (isInstance (.ref a) (.type "BaseException")) true := T0.andThen (PySem.W.looks_subIn X c.hs)
  have n2 : (Value.builtin "BaseException.__getattribute__" == Value.builtin "object.__getattribute__") = false := by decide +kernel
  have n1 : (onTheHeap (Value.ref C) && Value.builtin "BaseException.__getattribute__" == Value.builtin "object.__getattribute__") = false := by
    rw [n2]
    rfl
  have n0 : (false && onTheHeap (Value.builtin "BaseException.__getattribute__")) = false := rfl
  unfold getAttr? getAttrBy? getAttrBy
  refine wpAny_bind (wpAny_mkText (wpAny_bind (wpAny_attempt (wpAny_holding (wpAny_bind (T0.at (wpAny_bind (T1.at ?_))))))))
  show wpAny _ _ (if (onTheHeap (Value.ref C) && Value.builtin "BaseException.__getattribute__" == Value.builtin "object.__getattribute__") = true then _ else _) _ _ _
  rw [n1, if_neg Bool.false_ne_true]
  unfold getAttrByItsOwn hookBefore
  refine wpAny_bind ?_
  rw [if_pos (show onTheHeap (Value.ref C) = true from rfl)]
  refine T2.at ?_
  refine wpAny_bind (wpAny_attempt (wpAny_holding ?_))
  unfold callGetattribute
  rw [n0, if_neg Bool.false_ne_true]
  unfold boundAndCalled
  rw [PySem.F.excAttr_ValueError.ga.bind (.ref a)]
  refine wpAny_bind (wpAny_pure ?_)
  show wpAny _ _ (call (.builtin "BaseException.__getattribute__") [.ref a, .str "__class__" tt]) _ _ _
  refine wpAny_call (codeAny_call_builtin PySem.F.excAttr_ValueError.ga.plain PySem.F.entry_bexc_ga ?_)
  refine @PySem.W.check_slot (model P w) _ _ ⟨hh, gg, dd, tt + 1, oo⟩ "BaseException.__getattribute__" "BaseException" "__getattribute__" (.ref a) [.str "__class__" tt] [] _ (by decide +kernel) (by decide +kernel) isB (PySem.F.args_bexc_ga (.ref a) (.str "__class__" tt)) ?_
  unfold Builtin.«object.__getattribute__»
  refine wpAny_bind (wpAny_of_eq (a := ((Value.ref a : Value), [Value.str "__class__" tt])) (by first | rfl | (simp only [slotArgs]; rfl)) ?_)
  refine wpAny_bind (wpAny_pure (wpAny_bind (T0.at (wpAny_bind (T3.at ?_)))))
  show wpAny _ _ (holding [Value.builtin "object.__class__"] (call (.builtin "getset_descriptor.__get__") [.builtin "object.__class__", .ref a, .ref C]) >>= ret) _ _ _
  refine wpAny_bind (wpAny_holding (wpAny_call (PySem.W.class_get (s := ⟨hh, gg, dd, tt + 1, oo⟩) (ox := oa) (od := od) X J c.hm ?_)))
  refine wpAny_pure ?_
  show wpAny _ _ (handedOut (.ref C)) _ _ _
  rw [PySem.W.handedOut_of (v := .ref C) rfl]
  first
    | exact wpAny_pure (wpAny_pure h)
    | exact wpAny_pure h
    | exact wpAny_pure (wpAny_bind (wpAny_pure (wpAny_pure h)))
theorem kitx_err (c : ExcC K C) : PySem.W.KitX K (.ref a) (.ref C) (fun h => PySem.W.InstAt h a oa C od) :=
  { PySem.W.handS_kitx_exc (x := a) (ox := oa) c.hg c.hk c.hs c.hd c.ha c.hn c.ht c.hm with
    ty := fun _ _ _ J => J.type
    it := fun M h X _ => by
      obtain ⟨cd, hc, _⟩ := PySem.W.any_some c.hd
      unfold PySem.W.clsIn at hc
      split at hc
      · rename_i t1 t2 t3 t4 lk
        intro A1 Q1 E1 s1 kk qq
        unfold isType loadHead
        refine wpAny_bind (wpAny_loadPart (kk _ _ (X _ _ lk)) ?_)
        exact wpAny_pure qq
      · cases hc
    ca := fun X J k => cls_err c X J k }
end
/-! ## isinstance, repr -/
/-- an error of the module's own, kept -/
def rIsX (K : PySem.W.Frag) : List V → Hp → VK → Prop := fun xs H Q => rIsi K xs H Q ∨ rIsiT K xs H Q ∨
  ∃ (a D : Addr) (d : Option Addr) (c : V) (cv : Value) (b : Bool), xs = [.ref a, c] ∧ H a = some (ExT (.ref D) d a) ∧ (∀ dd, d = some dd → ∃ fs, H dd = some (.xd fs)) ∧ ExcC K D ∧ ClsV c cv ∧ PySem.W.kitOne K (.ref D) cv = some b ∧ Q (.bl b) H
theorem call_isX {X : Cx} : CallR X (.builtin "isinstance") (rIsX X.K) := by
  intro pins s σ H xs us Q I r h
  rcases h with h | h | h
  · exact call_isi pins s σ H xs us Q I r h
  · exact call_isiT pins s σ H xs us Q I r h
  · obtain ⟨a, D, d, c, cv, b, rfl, ha, hd, C, hc, e, q⟩ := h
    obtain ⟨u1, u2, rfl, r1, r2⟩ := vals2 r
    cases r1
    have e2 := hc.eq r2
    subst e2
    obtain ⟨⟨oe, vs, hget, hz, hv⟩, _, _⟩ := I.hok a _ ha
    have J : ∃ od, PySem.W.InstAt s.heap a oe D od := by
      obtain ⟨oc, od, oda, osl⟩ := oe
      obtain ⟨h1, h2⟩ := hz
      dsimp only at h1 h2 hv
      subst h1 h2 hv
      cases od with
      | none => exact ⟨none, hget, rfl, rfl, trivial⟩
      | some dd =>
        obtain ⟨fs, e3⟩ := hd dd rfl
        obtain ⟨mA, hns, _⟩ := (show ObjOk X.prog X.w H s.heap dd (.xd fs) from I.hok dd _ e3)
        obtain ⟨ob, ho, _⟩ := lookIn_ns hns
        exact ⟨some ob, hget, rfl, rfl, ho⟩
    obtain ⟨od, J⟩ := J
    exact PySem.W.kia_one (kitx_err (od := od) C) I.kIn J e (fun z => nomatch z) fun tk => ⟨.bl b, H, I.kept (t' := tk) fun _ _ z => z, rfl, q⟩
def rRepr0 (K : PySem.W.Frag) : List V → Hp → VK → Prop := fun xs H Q => ∃ x d, xs = [x] ∧ Dp K H x d ∧ d.showable = true ∧ d.hasDict = false ∧ d.depth ≤ 30 ∧ d.shown.length ≤ sizeLine ∧ (∃ a, x = .ref a) ∧ Q (.str d.shown) H
theorem call_repr0 {X : Cx} (hg : X.A.guards = some []) (hu : X.A.units + 64 < cLine) : CallR X (.builtin "repr") (rRepr0 X.K) := by
  intro pins s σ H xs us Q I r h
  obtain ⟨x, d, rfl, hd, h1, h2, h3, h4, ⟨a, rfl⟩, q⟩ := h
  obtain ⟨u, rfl, rx⟩ := vals1 r
  cases rx
  obtain ⟨as, rr⟩ := Dp.reads I d _ _ hd rfl
  refine repr_of_reads' rr h1 (PyData.noDict_hsm h2) hg (by omega) (fun _ _ e => e) (fun h' u tk hk => ?_) h4
  exact ⟨.str d.shown, H, I.kept (t' := tk) hk, ⟨u, rfl⟩, q⟩
/-- repr of a value that is no object -/
def rReprS : List V → Hp → VK → Prop := fun xs H Q => ∃ x, xs = [x] ∧ match x with
  | .non => Q (.str "None") H
  | .bl b => Q (.str (if b then "True" else "False")) H
  | .int i => i.natAbs.log2 < 1920 ∧ Q (.str (toString i)) H
  | .str s => (reprText s).length ≤ sizeLine ∧ Q (.str (reprText s)) H
  | _ => False
theorem call_reprS {X : Cx} : CallR X (.builtin "repr") rReprS := by
  intro pins s σ H xs us Q I r h
  obtain ⟨x, rfl, h⟩ := h
  obtain ⟨u, rfl, rx⟩ := vals1 r
  cases x with
  | non =>
    cases rx
    exact PySem.P.repr_of_none ⟨.str _, H, I.tok _, ⟨_, rfl⟩, h⟩
  | bl b =>
    cases rx
    exact PySem.P.repr_of_bool ⟨.str _, H, I.tok _, ⟨_, rfl⟩, h⟩
  | int i =>
    obtain ⟨t, rfl⟩ := rx
    exact PySem.P.repr_of_int h.1 ⟨.str _, H, I.tok _, ⟨_, rfl⟩, h.2⟩
  | str x =>
    obtain ⟨t, rfl⟩ := rx
    exact PySem.P.repr_of_str (hsz := h.1) ⟨.str _, H, I.tok _, ⟨_, rfl⟩, h.2⟩
  | _ => exact h.elim
/-- repr of a small dict -/
def rReprD : List V → Hp → VK → Prop := fun xs H Q => ∃ a, xs = [.ref a] ∧ ((H a = some (.dK []) ∧ Q (.str (PyData.shown (.dict []))) H) ∨ (H a = some (.dK [(.inl 0, .int 0)]) ∧ Q (.str (PyData.shown (.dict [(.int 0, .int 0)]))) H))
theorem call_reprD {X : Cx} (hg : X.A.guards = some []) (hu : X.A.units + 64 < cLine) : CallR X (.builtin "repr") rReprD := by
  intro pins s σ H xs us Q I r h
  obtain ⟨a, rfl, h⟩ := h
  obtain ⟨u, rfl, rx⟩ := vals1 r
  cases rx
  rcases h with ⟨ea, q⟩ | ⟨ea, q⟩
  · obtain ⟨_, hsm, vs, kv, o, es, ep, h1, h2, h3, h4, h5, h6⟩ := dk_of I.hok ea
    cases kv
    have ee : es.toList = [] := List.length_eq_zero_iff.mp h5.length
    have R : Reads s.heap (.ref a) (.dict []) (a :: [] ++ []) := Reads.dict h1 h2.1 h3 (by rw [ee]; exact ReadsAll.nil) (by rw [ee]; exact ReadsAll.nil)
    refine repr_of_reads' R (by rfl) (fun _ z => ?_) hg (Nat.lt_of_le_of_lt (Nat.add_le_add_left (show PyData.depth (.dict []) + 1 ≤ 64 by decide +kernel) _) hu) (fun _ _ e => e) (fun h' u tk hk => ?_) (by rw [sizeLine_eq]; decide +kernel)
    · rw [beq_eq_false_iff_ne] at hsm
      simp only [List.append_nil, List.mem_singleton] at z
      exact hsm z.symm
    · exact ⟨.str _, H, I.kept (t' := tk) hk, ⟨u, rfl⟩, q⟩
  · obtain ⟨_, hsm, vs, kv, o, es, ep, h1, h2, h3, h4, h5, h6⟩ := dk_of I.hok ea
    obtain ⟨k2, v2, rfl, e1, rv⟩ : ∃ k v, vs = [(k, v)] ∧ k = Sum.inl 0 ∧ RelV (.int 0) v := by
      cases kv with
      | cons hh tt =>
        cases tt
        rename_i p
        exact ⟨p.1, p.2, rfl, hh.1.symm, hh.2⟩
    subst e1
    obtain ⟨t1, rfl⟩ := rv
    obtain ⟨e, t2, ee, e3, e4⟩ : ∃ e t2, es.toList = [e] ∧ e.key = .int 0 t2 ∧ e.val = .int 0 t1 := by
      revert h5
      generalize es.toList = l
      intro h5
      cases h5 with
      | cons w1 w2 w3 =>
        rename_i e es2
        cases w3
        have w1' : keyIs (Sum.inl 0) e.key = true := w1
        rcases keyIs_shape w1' with ⟨i, t, z1, z2⟩ | ⟨x, t, z1, z2⟩
        · injection z1 with z1
          subst z1
          exact ⟨_, t, rfl, z2, w2⟩
        · exact nomatch z1
    have R : Reads s.heap (.ref a) (.dict [(.int 0, .int 0)]) (a :: ([] ++ []) ++ ([] ++ [])) := Reads.dict h1 h2.1 h3 (by rw [ee]; exact ReadsAll.cons (by show Reads s.heap e.key (PyData.int 0) []; rw [e3]; exact Reads.int 0 t2) ReadsAll.nil) (by rw [ee]; exact ReadsAll.cons (by show Reads s.heap e.val (PyData.int 0) []; rw [e4]; exact Reads.int 0 t1) ReadsAll.nil)
    refine repr_of_reads' R (by decide +kernel) (fun _ z => ?_) hg (Nat.lt_of_le_of_lt (Nat.add_le_add_left (show PyData.depth (.dict [(.int 0, .int 0)]) + 1 ≤ 64 by decide +kernel) _) hu) (fun _ _ e => e) (fun h' u tk hk => ?_) (by rw [sizeLine_eq]; decide +kernel)
    · rw [beq_eq_false_iff_ne] at hsm
      simp only [List.append_nil, List.mem_singleton] at z
      exact hsm z.symm
    · exact ⟨.str _, H, I.kept (t' := tk) hk, ⟨u, rfl⟩, q⟩
def rRepr (K : PySem.W.Frag) : List V → Hp → VK → Prop := fun xs H Q => rRepr0 K xs H Q ∨ rReprS xs H Q ∨ rReprD xs H Q
theorem call_reprG {X : Cx} (hg : X.A.guards = some []) (hu : X.A.units + 64 < cLine) : CallR X (.builtin "repr") (rRepr X.K) := by
  intro pins s σ H xs us Q I r h
  rcases h with h | h | h
  · exact call_repr0 hg hu pins s σ H xs us Q I r h
  · exact call_reprS pins s σ H xs us Q I r h
  · exact call_reprD hg hu pins s σ H xs us Q I r h
end G

set_option Elab.async false
set_option linter.all false
set_option maxRecDepth 100000
set_option maxHeartbeats 4000000
namespace G
open PySem PySem.Spec PyProof.Rows L2 LamX
/-! ## the built-in names -/
def rLen (K : PySem.W.Frag) : List V → Hp → VK → Prop := fun xs H Q =>
  (∃ x n, xs = [x] ∧ LenV K x H n ∧ Q (.int n) H) ∨ ∃ a kvs, xs = [V.ref a] ∧ H a = some (.dK kvs) ∧ Q (.int kvs.length) H
def rInt1 : List V → Hp → VK → Prop := fun xs H Q => match xs with
  | [.int i] => Q (.int i) H
  | [.bl b] => Q (.int (if b then 1 else 0)) H
  | _ => False
def rStr1 : List V → Hp → VK → Prop := fun xs H Q => match xs with
  | [.int i] => i.natAbs.log2 < 1920 ∧ Q (.str (toString i)) H
  | _ => False
def rAbs1 : List V → Hp → VK → Prop := fun xs H Q => match xs with
  | [.int i] => Q (.int (if i < 0 then -i else i)) H
  | _ => False
def rMin2 (K : PySem.W.Frag) : List V → Hp → VK → Prop := fun xs H Q => match xs with
  | [.int i, .int j] => Q (.int (if j < i then j else i)) H
  | [.ref a] => rMin K [.ref a] H Q
  | _ => False
def rMax2 (K : PySem.W.Frag) : List V → Hp → VK → Prop := fun xs H Q => match xs with
  | [.int i, .int j] => Q (.int (if j > i then j else i)) H
  | [.ref a] => rMax K [.ref a] H Q
  | _ => False
def rListOf (K : PySem.W.Frag) : List V → Hp → VK → Prop := fun xs H Q => ∃ p ys, xs = [.ref p] ∧ (SqL K H p ys ∨ SqT K H p ys) ∧ ∀ l, H l = none → Q (.ref l) (upd H l (.lst ys))
def rTupOf (K : PySem.W.Frag) : List V → Hp → VK → Prop := fun xs H Q => ∃ p ys, xs = [.ref p] ∧ ((SqL K H p ys ∧ ∀ l, H l = none → Q (.ref l) (upd H l (.tup ys))) ∨ (SqT K H p ys ∧ Q (.ref p) H))
inductive Bk where
  | fn (id : String)
  | ty (T : String)
def Bk.val : Bk → Value
  | .fn id => .builtin id
  | .ty T => .type T
def bTab (K : PySem.W.Frag) (x : Str) : Option (Bk × (List V → Hp → VK → Prop)) :=
  if x = "len" then some (.fn "len", rLen K)
  else if x = "int" then some (.ty "int", rInt1)
  else if x = "str" then some (.ty "str", rStr1)
  else if x = "abs" then some (.fn "abs", rAbs1)
  else if x = "min" then some (.fn "min", rMin2 K)
  else if x = "max" then some (.fn "max", rMax2 K)
  else if x = "isinstance" then some (.fn "isinstance", rIsX K)
  else if x = "repr" then some (.fn "repr", rRepr K)
  else if x = "list" then some (.ty "list", rListOf K)
  else if x = "tuple" then some (.ty "tuple", rTupOf K)
  else if x = "sum" then some (.fn "sum", rSum K)
  else if x = "all" then some (.fn "all", rAll K)
  else if x = "any" then some (.fn "any", rAny K)
  else if x = "sorted" then some (.fn "sorted", rSorted K)
  else none
def tyTab (x : Str) : Option String :=
  if x = "int" then some "int" else if x = "bool" then some "bool" else if x = "str" then some "str" else if x = "list" then some "list"
  else if x = "tuple" then some "tuple" else if x = "dict" then some "dict" else if x = "ValueError" then some "ValueError" else none
theorem boot_ValueError1 : bootBuiltins "ValueError" = some (.type "ValueError") := by decide +kernel
theorem if_some {c : Prop} [Decidable c] {α : Type} {a r : α} {b : Option α} (h : (if c then some a else b) = some r) : (c ∧ a = r) ∨ b = some r := by
  by_cases e : c
  · rw [if_pos e] at h
    exact .inl ⟨e, Option.some.inj h⟩
  · rw [if_neg e] at h
    exact .inr h
theorem tyTab_ok {x : Str} {T : String} (h : tyTab x = some T) : bootBuiltins x = some (.type T) := by
  unfold tyTab at h
  repeat (rcases if_some h with ⟨e, q⟩ | h; (subst e; subst q; first | exact PyProof.Rows.boot_int | exact PyProof.Rows.boot_bool | exact PyProof.Rows.boot_str | exact PyProof.Rows.boot_list | exact PyProof.Rows.boot_tuple | exact PyProof.Rows.boot_dict | exact boot_ValueError1))
  cases h
theorem boot_min' : bootBuiltins "min" = some (.builtin "min") := by decide +kernel
theorem boot_max' : bootBuiltins "max" = some (.builtin "max") := by decide +kernel
theorem boot_sum' : bootBuiltins "sum" = some (.builtin "sum") := by decide +kernel
theorem boot_all' : bootBuiltins "all" = some (.builtin "all") := by decide +kernel
theorem boot_any' : bootBuiltins "any" = some (.builtin "any") := by decide +kernel
section
variable {X : Cx}
theorem c_int1 : CallR X (.type "int") rInt1 := by
  intro pins s σ H xs us Q I r h
  match xs, h with
  | [.int i], h => exact call_int1 pins s σ H _ us Q I r (.inl ⟨i, rfl, h⟩)
  | [.bl b], h => exact call_int1 pins s σ H _ us Q I r (.inr ⟨b, rfl, h⟩)
theorem c_str1 : CallR X (.type "str") rStr1 := by
  intro pins s σ H xs us Q I r h
  match xs, h with
  | [.int i], h => exact call_str_int pins s σ H _ us Q I r ⟨i, rfl, h.1, h.2⟩
theorem c_abs1 : CallR X (.builtin "abs") rAbs1 := by
  intro pins s σ H xs us Q I r h
  match xs, h with
  | [.int i], h => exact call_abs pins s σ H _ us Q I r ⟨i, rfl, h⟩
theorem c_min (hc : X.calm = true) : CallR X (.builtin "min") (rMin2 X.K) := by
  intro pins s σ H xs us Q I r h
  match xs, h with
  | [.int i, .int j], h => exact call_min2 hc pins s σ H _ us Q I r ⟨i, j, rfl, h⟩
  | [.ref a], h => exact cr_min hc pins s σ H _ us Q I r h
theorem c_max (hc : X.calm = true) : CallR X (.builtin "max") (rMax2 X.K) := by
  intro pins s σ H xs us Q I r h
  match xs, h with
  | [.int i, .int j], h => exact call_max2 hc pins s σ H _ us Q I r ⟨i, j, rfl, h⟩
  | [.ref a], h => exact cr_max hc pins s σ H _ us Q I r h
theorem bTab_ok {k : Nat} {Γ : Gam} {sc : Scope} {W : WX} (g : Good k Γ sc W X) {x : Str} {b : Bk} {r : List V → Hp → VK → Prop} (h : bTab X.K x = some (b, r)) :
    bootBuiltins x = some b.val ∧ CallR X b.val r := by
  unfold bTab at h
  have hc := g.calm
  rcases if_some h with ⟨e, q⟩ | h
  · subst e; cases q
    exact ⟨PySem.boot_len, call_len.or call_lenD⟩
  rcases if_some h with ⟨e, q⟩ | h
  · subst e; cases q
    exact ⟨PyProof.Rows.boot_int, c_int1⟩
  rcases if_some h with ⟨e, q⟩ | h
  · subst e; cases q
    exact ⟨PyProof.Rows.boot_str, c_str1⟩
  rcases if_some h with ⟨e, q⟩ | h
  · subst e; cases q
    exact ⟨PyProof.Rows.boot_abs, c_abs1⟩
  rcases if_some h with ⟨e, q⟩ | h
  · subst e; cases q
    exact ⟨boot_min', c_min hc⟩
  rcases if_some h with ⟨e, q⟩ | h
  · subst e; cases q
    exact ⟨boot_max', c_max hc⟩
  rcases if_some h with ⟨e, q⟩ | h
  · subst e; cases q
    exact ⟨PyProof.Rows.boot_isinstance, call_isX⟩
  rcases if_some h with ⟨e, q⟩ | h
  · subst e; cases q
    exact ⟨PyProof.Rows.boot_repr, call_reprG g.room.g g.units⟩
  rcases if_some h with ⟨e, q⟩ | h
  · subst e; cases q
    exact ⟨PyProof.Rows.boot_list, call_list_of⟩
  rcases if_some h with ⟨e, q⟩ | h
  · subst e; cases q
    exact ⟨PyProof.Rows.boot_tuple, call_tuple_of⟩
  rcases if_some h with ⟨e, q⟩ | h
  · subst e; cases q
    exact ⟨boot_sum', cr_sum hc⟩
  rcases if_some h with ⟨e, q⟩ | h
  · subst e; cases q
    exact ⟨boot_all', cr_all hc⟩
  rcases if_some h with ⟨e, q⟩ | h
  · subst e; cases q
    exact ⟨boot_any', cr_any hc⟩
  rcases if_some h with ⟨e, q⟩ | h
  · subst e; cases q
    exact ⟨PyProof.Rows.boot_sorted, cr_sorted⟩
  cases h
theorem pe_bi (g : Good k Γ sc W X) {x : Str} {p pos : Pos} {e : Expr} {es : List Expr} {t : TA} {b : Bk} {r : List V → Hp → VK → Prop} (hx : oddName x = false) (hg : glb sc x = true) (hf : Γ.free x = true) (ht : bTab X.K x = some (b, r))
    (hs : noStar (e :: es) = true) (ha : PA X (e :: es) t) : PE X (.Call (.Name x p) (e :: es) [] pos) (tCB r t) := by
  obtain ⟨h1, h2⟩ := bTab_ok g ht
  obtain ⟨o1, o2, o3⟩ := oddName_no hx
  have fm := g.free x hf
  cases b with
  | fn id => exact pe_callB h2 (gl_of g hg) fm h1 ha o3 o1 (star_one hs) (star_any (star_tail hs))
  | ty T => exact pe_callTy h2 (gl_of g hg) fm h1 ha o3 o1 (star_one hs) (star_any (star_tail hs))
end
/-! ## methods of the built-in types -/
def rJoin (K : PySem.W.Frag) : V → List V → Hp → VK → Prop := fun x xs H Q => ∃ a p, ∃ ys : List Str, x = .str a ∧ xs = [.ref p] ∧ (SqL K H p (ys.map V.str) ∨ SqT K H p (ys.map V.str)) ∧
    (ys.map (·.length)).sum + ys.length * a.length ≤ 16777216 ∧ Q (.str (Txt.join a ys)) H
def rStripC : V → List V → Hp → VK → Prop := fun x xs H Q => ∃ a b, x = .str a ∧ xs = [.str b] ∧ a.length ≤ sizeLine ∧ Q (.str (Txt.stripChars a b)) H
def mTab (K : PySem.W.Frag) (m : Str) (args : List Expr) (to : TE) (ta : TA) : TE :=
  match args with
  | [] => if m = "pop" then tBM0 K "list" rPop to else tNo
  | [_] => if m = "append" then tBM K "list" rAppend to ta
    else if m = "pop" then tBM K "list" rPopAt to ta
    else if m = "extend" then tBM K "list" rExtend to ta
    else if m = "join" then tBM K "str" (rJoin K) to ta
    else if m = "strip" then tBM K "str" rStripC to ta
    else tNo
  | _ => tNo
theorem pe_mtab {X : Cx} {o : Expr} {m : Str} {args : List Expr} {to : TE} {ta : TA} {apos cpos : Pos} (ho : PE X o to) (ha : PA X args ta) (hb : notBare o = true) (hs : noStar args = true) (hl : (apos.endLine == cpos.line) = true) :
    PE X (.Call (.Attribute o m apos) args [] cpos) (mTab X.K m args to ta) := by
  match args, ha, hs with
  | [], ha, hs =>
    show PE X _ (if m = "pop" then _ else _)
    split
    · rename_i e; subst e
      exact pe_bm0 PySem.F.plainAttrs_list PySem.F.slot_list_pop PySem.F.type_list_pop mt_pop ho (base_ok hb) hl
    · exact pe_no
  | [e], ha, hs =>
    have few : ((backTo cpos (starEach [e] X.env)).all (fun x => !x.1) && (backToKw cpos (keywordEach [] X.env)).all (fun x => x.1.isSome)
        && decide (([e] : List Expr).length + ([] : List Keyword).length + (if ([] : List Keyword).isEmpty then 0 else 1) < 30)) = true := by
      rw [star_all hs]
      rfl
    show PE X _ (if m = "append" then _ else _)
    split
    · rename_i q; subst q
      exact pe_bm PySem.F.plainAttrs_list PySem.F.slot_list_append PySem.F.type_list_append mt_append ho ha (base_ok hb) few hl (star_one hs) (star_any (star_tail hs))
    split
    · rename_i q; subst q
      exact pe_bm PySem.F.plainAttrs_list PySem.F.slot_list_pop PySem.F.type_list_pop mt_popAt ho ha (base_ok hb) few hl (star_one hs) (star_any (star_tail hs))
    split
    · rename_i q; subst q
      exact pe_bm PySem.F.plainAttrs_list PySem.F.slot_list_extend PySem.F.type_list_extend mt_extend ho ha (base_ok hb) few hl (star_one hs) (star_any (star_tail hs))
    split
    · rename_i q; subst q
      exact pe_bm PySem.F.plainAttrs_str PySem.F.slot_str_join PySem.F.type_str_join mt_join ho ha (base_ok hb) few hl (star_one hs) (star_any (star_tail hs))
    split
    · rename_i q; subst q
      exact pe_bm PySem.F.plainAttrs_str PySem.F.slot_str_strip PySem.F.type_str_strip mt_stripChars ho ha (base_ok hb) few hl (star_one hs) (star_any (star_tail hs))
    · exact pe_no
  | _ :: _ :: _, _, _ => exact pe_no
end G

set_option Elab.async false
set_option linter.all false
set_option maxRecDepth 100000
set_option maxHeartbeats 8000000
namespace G
open PySem PySem.Spec PyProof.Rows L2 LamX
/-! ## raising such an error -/
theorem boot_super' : bootBuiltins "super" = some (.type "super") := by decide +kernel
def tMkA (C : Addr) (fld : Str) (ta : TA) : L2.St → Hp → XK → Prop := fun σ H Q => ta σ H fun vs H1 => ∃ v, vs = [v] ∧ ∀ d, H1 d = none → Q (.ref C) (some d) (upd H1 d (.xd [(fld, v)]))
section
variable {X : Cx} {e : Expr} {ta : TA} {x fld : Str} {C : Addr} {p pos : Pos} {k : Nat}
theorem pmk_ini (F : IniF X.K X.prog C fld) (hr : Room (k + 1) X.A) (hg : Gl X x) (hm : X.mg x = some (.ref C)) (ha : PA X [e] ta) (hdb : (x == ("__debug__" : Str)) = false) (hst : noStar [e] = true) :
    PMk X (.Call (.Name x p) [e] [] pos) (tMkA C fld ta) := by
  intro pins s σ H Q I h
  obtain ⟨nm, q, N, bs, bm, sn, sub, ab, col, dd, k0, k1, k2, k3, k5, hC, hbm⟩ := F.T.cls
  refine wpAny_Call_Name_kw (ld_glob I hg hm ?_ hdb)
  refine PySem.W.callWith_K (h₀ := X.base) I.ok.mod.kin F.T.kC (thn (ha.run pos pins s σ H _ I h) fun us s1 hus => ?_) (star_one hst) (star_any (star_tail hst))
  obtain ⟨vs, H1, I1, r1, v, ev, q1⟩ := hus
  subst ev
  obtain ⟨u, rfl, ru⟩ := vals1 r1
  refine ⟨I1.kIn, ?_⟩
  show wpAny _ _ (call (.ref C) [u]) _ _ _
  obtain ⟨mb, hmb, hbb⟩ := I1.mod.blt
  have bl := hmb.keeps I1.bk
  have gl := I1.mod.glob.keeps I1.bk
  have nl := I1.mod.nolimit.keeps I1.bk
  have KI := I1.kIn
  obtain ⟨hp, g, dr, tk, os⟩ := s1
  have up2 : ∀ b o, hp.get? b = some o → ((hp.push (PySem.W.kdv_tup [u])).push (PySem.HandSPX.excO C hp.objs.size)).get? b = some o := fun b o z => Heap.get?_push_of_some _ (Heap.get?_push_of_some _ z)
  have got : ((hp.push (PySem.W.kdv_tup [u])).push (PySem.HandSPX.excO C hp.objs.size)).get? (hp.objs.size + 1) = some (PySem.HandSPX.excO C hp.objs.size) := by heap_get
  have nK : X.K.lookup (hp.objs.size + 1) = none := by
    cases z : X.K.lookup (hp.objs.size + 1) with
    | none => rfl
    | some o => exact absurd (Heap.lt_size (KI _ _ z)) (by show ¬ (hp.objs.size + 1 < hp.objs.size); omega)
  have sz := Nat.le_succ hp.objs.size
  have fr1 : H1 (hp.objs.size + 1) = none := I1.hok.fresh sz
  have J := I1.laid (t' := tk) (a := hp.objs.size + 1) (o := exo (hp.objs.size + 1) C none) up2 sz (exo_ok got)
  have room := (hr.make C [u] []).depth
  revert got J
  revert up2
  generalize hE : (hp.push (PySem.W.kdv_tup [u])).push (PySem.HandSPX.excO C hp.objs.size) = h1
  intro up2 got J
  have back : ∀ (h2 : Heap) (t2 dx : Nat) (t1 : Addr), (∀ b o, b ≠ hp.objs.size + 1 → h1.get? b = some o → h2.get? b = some o) →
      h2.get? (hp.objs.size + 1) = some { cls := .ref C, dict := some dx, data := .fields #[.ref t1, .none, .none, .none, .bool false, .none] } →
      h2.Ns1 dx (fun y => if y = fld then some u else none) → h1.objs.size ≤ dx → MkP X pins σ Q (.ref (hp.objs.size + 1)) ⟨h2, g, dr, t2, os⟩ := by
    intro h2 t2 dx t1 kp hx hn hsz
    have lt1 : hp.objs.size + 1 < h1.objs.size := Heap.lt_size got
    have nd1 : H1 dx = none := I1.hok.fresh (Nat.le_trans sz (Nat.le_trans (Nat.le_of_lt lt1) hsz))
    have nda : dx ≠ hp.objs.size + 1 := by omega
    have ndb : ∀ {b : Addr} {o : Obj}, h1.get? b = some o → b ≠ dx := fun {b o} z => Nat.ne_of_lt (Nat.lt_of_lt_of_le (Heap.lt_size z) hsz)
    have dn2 : (upd H1 (hp.objs.size + 1) (exo (hp.objs.size + 1) C none)) dx = none := by rw [upd_ne nda]; exact nd1
    have ea : (upd H1 (hp.objs.size + 1) (exo (hp.objs.size + 1) C none)) (hp.objs.size + 1) = some (exo (hp.objs.size + 1) C none) := upd_same
    have nae : ∀ {b : Addr}, (upd H1 (hp.objs.size + 1) (exo (hp.objs.size + 1) C none)) b = none → b ≠ hp.objs.size + 1 := fun {b} n z => by
      rw [z, upd_same] at n
      cases n
    have UN : Un (frs X.stack) [] (upd H1 (hp.objs.size + 1) (exo (hp.objs.size + 1) C none)) (upd (upd (upd H1 (hp.objs.size + 1) (exo (hp.objs.size + 1) C none)) dx (exd dx [(fld, v)])) (hp.objs.size + 1) (exo (hp.objs.size + 1) C (some dx))) h1 h2 := by
      refine ⟨fun b o z n _ _ => kp b o (nae n) z, fun b o z n _ _ => ⟨o.slots, kp b o (nae n) z⟩, fun b o z n _ => ?_, fun b o z _ => ?_, fun b xs z => ?_, fun b o w z => ?_, fun b ps z => ⟨#[], ?_⟩⟩
      · rw [upd_ne (nae n), upd_ne (ndb z)]
        exact n
      · by_cases hb : b = hp.objs.size + 1
        · exact ⟨_, by rw [hb]; exact hx⟩
        · exact ⟨o, kp b o hb z⟩
      · rw [upd_ne (at_ne ea z exo_tup), upd_ne (ne_of_none z dn2)]
        exact z
      · rw [upd_ne (at_ne ea z exo_frz), upd_ne (ne_of_none z dn2)]
        exact z
      · rw [upd_ne (at_ne ea z exo_tbl), upd_ne (ne_of_none z dn2), z]
        simp
    have HK : HOk X.prog X.w (upd (upd (upd H1 (hp.objs.size + 1) (exo (hp.objs.size + 1) C none)) dx (exd dx [(fld, v)])) (hp.objs.size + 1) (exo (hp.objs.size + 1) C (some dx))) h2 := fun b o z => by
      by_cases hb : b = hp.objs.size + 1
      · subst hb
        rw [upd_same] at z
        cases z
        exact exo_ok hx
      · rw [upd_ne hb] at z
        by_cases hd : b = dx
        · subst hd
          rw [upd_same] at z
          cases z
          exact exd_ok hn (relO_put (fs := []) ru fun _ => True.intro)
        · rw [upd_ne hd] at z
          refine (J.hok b o z).stay (fun c w hc y => kp c w ?_ y) (fun c hc => ?_) fun c xs hc => ?_
          · rcases hc with rfl | hc
            · exact hb
            · exact at_ne ea hc exo_own
          · rw [upd_ne (at_ne ea hc exo_own), upd_ne (ne_of_none hc dn2)]
            exact hc
          · rw [upd_ne (at_ne ea hc exo_tup), upd_ne (ne_of_none hc dn2)]
            exact hc
    have fin := mk_end (d2 := dr) (t2 := t2) (Q := Q) (raises_own F.T.exC F.T.tyC) I1 sz up2 UN HK rfl I1.bare (C := C) (d := dx) (fs := [(fld, v)]) upd_same (by rw [upd_ne nda, upd_same]) nd1 ?_
    · exact fin
    · have eq : upd (del (upd (upd (upd H1 (hp.objs.size + 1) (exo (hp.objs.size + 1) C none)) dx (exd dx [(fld, v)])) (hp.objs.size + 1) (exo (hp.objs.size + 1) C (some dx))) (hp.objs.size + 1)) dx (.xd [(fld, v)]) = upd H1 dx (.xd [(fld, v)]) := by
        funext b
        by_cases hd : b = dx
        · rw [hd, upd_same, upd_same]
        · rw [upd_ne hd, upd_ne hd]
          by_cases hb : b = hp.objs.size + 1
          · rw [hb, del_same, fr1]
          · rw [del_ne hb, upd_ne hb, upd_ne hd, upd_ne hb]
      rw [eq]
      exact q1 dx nd1
  obtain ⟨fI, f1, f2, run⟩ := ini_run (P := X.prog) (w := X.w) (A := X.A.under (.builtin "type.__call__" ⟨[.ref C, u], []⟩)) (u := u) (g := g) (d := dr) (t := tk) (os := os) (R := PySem.W.InitBack (hp.objs.size + 1) fun r s' => match r with
      | .ok (.ret w') => MkP X pins σ Q w' s'
      | .ok _ => False
      | .error er => X.xe er s') F (fun b o z => up2 _ _ (KI b o z)) (gl.keeps up2) (bl.keeps up2) ((hbb _ (by decide)).trans boot_super') (nl.keeps up2) nK got room (fun h2 t2 dx t1 kp hx hn hsz => ⟨rfl, back h2 t2 dx t1 kp hx hn hsz⟩)
  refine wpAny_call (PySem.HandSPX.call_own PySem.F.excBase_ValueError (fun Y => PySem.HandSPX.refsVE_contains Y bm hbm) (KI _ _ hC) (PySem.W.looks_findIn KI f1) (fun self => PySem.W.bind_fn KI self f2) (by rw [sizeLine_eq]; exact Nat.le_of_ble_eq_true rfl) ?_)
  rw [hE]
  refine codeAny_mono run fun r s' z => ?_
  cases r with
  | error er => exact z
  | ok fl => cases fl <;> exact z
end
end G

set_option Elab.async false
set_option linter.all false
set_option maxRecDepth 100000
set_option maxHeartbeats 8000000
namespace G
open PySem PySem.Spec PyProof.Rows L2 LamX
/-! ## x.f: of an instance, of an error that was kept -/
def rFld (K : PySem.W.Frag) (f : Str) : V → Hp → VK → Prop := fun x H Q =>
  (∃ a C dx fs v, x = .ref a ∧ H a = some (.ins C dx fs) ∧ Cls K C ∧ NoAttr K C f ∧ fs.lookup f = some v ∧ Q v H) ∨
  ∃ (a C d : Addr) (fs : List (Str × V)) (v : V), x = .ref a ∧ H a = some (ExT (.ref C) (some d) a) ∧ H d = some (.xd fs) ∧ fs.lookup f = some v ∧ XfC K C ∧ PySem.W.findIn K (.ref C) f = some none ∧ Q v H
def tAttr (K : PySem.W.Frag) (f : Str) (te : TE) : TE := fun σ H Q => te σ H fun x H1 => rFld K f x H1 Q
section
variable {k : Nat} {Γ : Gam} {sc : Scope} {W : WX} {X : Cx}
theorem pe_attr {e : Expr} {te : TE} {f : Str} {pos : Pos} (he : PE X e te) (hb : notBare e = true) : PE X (.Attribute e f pos) (tAttr X.K f te) := by
  refine ⟨fun pins s σ H Q I h => ?_⟩
  refine attr_of (base_ok hb) (thn (he.run pins s σ H _ I h) fun u s1 hh => ?_)
  obtain ⟨x, H1, I1, rx, ⟨a, C, dx, fs, v, rfl, ea, c, n, l, q⟩ | ⟨a, C, d, fs, v, rfl, ea, ed, l, T, hno, q⟩⟩ := hh
  · obtain rfl : u = Value.ref a := rx
    exact getattr_ok I1 ea c n l fun u' s2 I2 ru => ⟨v, H1, I2, ru, q⟩
  · obtain rfl : u = Value.ref a := rx
    obtain ⟨⟨oe, vs, hget, hz, hv⟩, _, _⟩ := I1.hok a _ ea
    obtain ⟨mA, hns, hr⟩ := (show ObjOk X.prog X.w H1 s1.heap d (.xd fs) from I1.hok d _ ed)
    obtain ⟨od, ho, hl⟩ := lookIn_ns hns
    obtain ⟨u, hu, ru⟩ := RelO.some_of (v := v) (o := mA f) (by rw [← l]; exact hr f)
    have J : PySem.W.InstAt s1.heap a oe C (some od) := by
      refine ⟨hget, hz.1, ?_, ?_⟩
      · unfold PySem.W.notCls
        rw [hv] <;> rfl
      · rw [hz.2]
        exact ho
    exact HandSPX.exc_get I1.kIn J T.ga T.gg T.exC (PySem.W.findObj_own T.hdC hno rfl (by rw [hl, hu])) (handed_of ru) ⟨v, H1, I1.tok _, ru, q⟩
/-! ## raise X(v) -/
def tRaiseA (C : Addr) (fld : Str) (W : WX) (ta : TA) : TS := fun _ σ H => ta σ H fun vs H1 => ∃ v, vs = [v] ∧ ∀ d, H1 d = none → W (.ref C) (some d) σ (upd H1 d (.xd [(fld, v)]))
theorem ps_raiseA (g : Good k Γ sc W X) {x fld : Str} {C : Addr} {e : Expr} {ta : TA} {p pos pos2 : Pos} (hx : oddName x = false) (hg : glb sc x = true) (hm : X.mg x = some (.ref C)) (F : IniF X.K X.prog C fld) (hk : 1 ≤ k) (ha : PA X [e] ta) (hst : noStar [e] = true) :
    PS X (.Raise (some (.Call (.Name x p) [e] [] pos)) none pos2) (tRaiseA C fld W ta) :=
  ps_raise g.calm g.takes (pmk_ini F (k := 0) (g.room.r.mono hk) (gl_of g hg) hm ha (oddName_no hx).1 hst)
end
end G

set_option Elab.async false
set_option linter.all false
set_option maxRecDepth 100000
set_option maxHeartbeats 8000000
namespace G
open PySem PySem.Spec PyProof.Rows L2 LamX
/-! ## methods of own classes, an own == -/
abbrev MtT := Addr → Nat → Option (Nat × SpG)
def tMt (M : MtT) (m : Str) (n : Nat) (W : WX) (to : TE) (ta : TA) : TE := fun σ H Q => to σ H fun x H1 => ∃ a C dx fs p, x = .ref a ∧ H1 a = some (.ins C dx fs) ∧ fs.lookup m = none ∧ M C n = some p ∧
  ta σ H1 fun vs H2 => vs.length = n ∧ p.2 (fun _ _ => False) (.ref a :: vs) [] H2 Q (WE W σ)
/-- what the other side of an own == may be, by its type -/
def eqTys : List String := ["NoneType", "bool", "int", "str", "list", "tuple", "dict"]
def Oth (K : PySem.W.Frag) (C : Addr) (H : Hp) (y : V) : Prop := (∃ b dx fs, y = .ref b ∧ H b = some (.ins C dx fs)) ∨ (y = .non ∧ PySem.W.notFirst K C (.type "NoneType") = true) ∨
  ∃ b xs, y = .ref b ∧ SqT K H b xs ∧ PySem.W.notFirst K C (.type "tuple") = true
structure NeC (K : PySem.W.Frag) (C : Addr) : Prop where
  at_ : PySem.W.findIn K (.ref C) "__ne__" = some (some (.builtin "object.__ne__"))
  mo : PySem.W.mroIn K C (.type "object") = some true
def rOwnEq (K : PySem.W.Frag) (M : MtT) (neg : Bool) : R2 := fun x y H Q => ∃ a C dx fs p, x = .ref a ∧ H a = some (.ins C dx fs) ∧ M C 1 = some p ∧ Oth K C H y ∧ (neg = true → NeC K C) ∧
  p.2 (fun _ _ => False) [x, y] [] H (fun v H' => ∃ b, v = .bl b ∧ Q (.bl (if neg then !b else b)) H') (fun _ _ _ => False)
def rCmpM (K : PySem.W.Frag) (M : MtT) : CmpOp → R2
  | .Eq => fun x y H Q => G.rCmp K .Eq x y H Q ∨ rOwnEq K M false x y H Q
  | .NotEq => fun x y H Q => G.rCmp K .NotEq x y H Q ∨ rOwnEq K M true x y H Q
  | op => G.rCmp K op
def wCmp (K : PySem.W.Frag) (Γ : Gam) (op : CmpOp) : R2 := match Γ.mt "__eq__" with
  | some M => rCmpM K M op
  | none => G.rCmp K op
theorem call_eq {o : Expr} {m : Str} {apos pos : Pos} {es : List Expr} {env : Env} (hb : notBare o = true) (hs : noStar es = true) (hl : (apos.endLine == pos.line) = true) (hn : es.length < 29) :
    eval (.Call (.Attribute o m apos) es [] pos) env = (do
      let ov ← eval o env
      standAt apos.atName
      let (f, first) ← holding [ov] (getMethod ov m (do return (← importBound o env).getD true))
      callWith pos f first (backTo pos (starEach es env)) (backToKw pos (keywordEach [] env))) := by
  have hf : methodCallForm (es.length + ([] : List Keyword).length) (backTo pos (starEach es env)) (backToKw pos (keywordEach [] env)) = true := by
    unfold methodCallForm
    rw [star_all hs]
    show (true && true && decide (es.length + 0 + 0 < 30)) = true
    rw [decide_eq_true (by omega)]
    rfl
  show (do
    let ov ← attributeBase o m env (eval o env)
    standAt apos.atName
    methodCall o m apos pos env ov (es.length + ([] : List Keyword).length) (backTo pos (starEach es env)) (backToKw pos (keywordEach [] env))) = _
  rw [base_ok hb]
  unfold methodCall calleeOf methodCallPos
  rw [hf, hl]
  rfl
section
variable {k : Nat} {Γ : Gam} {sc : Scope} {W : WX} {X : Cx}
theorem pe_mt (g : Good k Γ sc W X) {M : MtT} {m : Str} {o : Expr} {es : List Expr} {to : TE} {ta : TA} {apos pos : Pos} (hM : Γ.mt m = some M) (ho : PE X o to) (hb : notBare o = true) (ha : PA X es ta) (ht : es = [] → ta = tNil) (hs : noStar es = true) (hl : (apos.endLine == pos.line) = true) (hn : es.length < 29) :
    PE X (.Call (.Attribute o m apos) es [] pos) (tMt M m es.length W to ta) := by
  refine ⟨fun pins s σ H Q I h => ?_⟩
  have ht' := call_eq (m := m) (o := o) (env := X.env) hb hs hl hn
  refine PySem.W.methodCall_KW (pl := (do return (← importBound o X.env).getD true)) (thn (ho.run pins s σ H _ I h) fun u s1 ⟨x, H1, I1, rx, a, C, dx, fs, p, ex, ea, l, hp, q⟩ => ?_) ht'
  subst ex
  obtain rfl : u = Value.ref a := rx
  obtain ⟨hle, f, c, hm, F⟩ := g.mt m M C es.length p hM hp
  refine getmeth_ok I1 ea c hm l ?_
  cases es with
  | nil =>
    have et := ht rfl
    subst et
    refine PySem.W.callWith_K0 (first := [.ref a]) I1.kIn hm.kp ?_
    exact run_s (us := [Value.ref a]) (vs := [V.ref a]) (ws := []) (zs := []) (acts := fun _ _ => False) g F (Nat.le_of_succ_le hle) I1 (.cons rfl .nil) .nil rfl rfl (fun _ _ z => z.elim) q.2
  | cons e es =>
    refine PySem.W.callWith_K (first := [.ref a]) (h₀ := X.base) I.ok.mod.kin hm.kp (thn (ha.run pos pins s1 σ H1 _ I1 q) fun us s2 ⟨vs, H2, I2, r, hl2, q2⟩ => ⟨I2.kIn, ?_⟩) (star_one hs) (star_any (star_tail hs))
    exact run_s (us := Value.ref a :: us) (vs := V.ref a :: vs) (ws := []) (zs := []) (acts := fun _ _ => False) g F (Nat.le_of_succ_le hle) I2 (.cons rfl r) .nil (by rw [List.length_cons, hl2]) rfl (fun _ _ z => z.elim) q2
end
section
variable {k : Nat} {Γ : Gam} {sc : Scope} {W : WX} {X : Cx}
/-- the callee runs, and cannot raise -/
theorem run_q {l n : Nat} {f : Addr} {S : SpG} {pins : List (Addr × Obj)} {σ : L2.St} {H : Hp} {s : Shared} {Q : VK} {us : List Value} {vs : List V} {A : Around}
    (F : FnS X.prog X.w X.K X.mg X.base l f n [] S) (hr : RoomG l A) (hf : A.frames = X.A.frames) (I : Inv X pins σ H s) (r : Vals vs us) (l1 : vs.length = n) (h : S (fun _ _ => False) vs [] H Q (fun _ _ _ => False)) :
    wpAny (model X.prog X.w) A (call (.ref f) us) (EP X pins σ Q) X.xe s := by
  have e0 : Env0 X.prog X.w X.K X.mg X.base A X.stack s H := by
    have e := I.env0
    exact ⟨by rw [hf]; exact e.frames, e.mod, e.bs, e.bsz, e.funs, e.frf, e.hok, e.bare⟩
  have run := F A X.stack s H us [] vs [] Q (fun _ _ _ => False) (fun _ _ => False) hr e0 r .nil l1 rfl (fun _ _ z => z.elim) h
  refine wpAny_call (codeAny_mono run fun res s' hq => ?_)
  cases res with
  | error e =>
    obtain ⟨_, _, _, _, _, _, _, _, _, _, _, _, z⟩ := hq
    exact z.elim
  | ok fl =>
    cases fl with
    | ret u => exact I.after hq
    | next => exact False.elim hq
    | brk => exact False.elim hq
    | cont => exact False.elim hq
theorem oth_ty {pins : List (Addr × Obj)} {σ : L2.St} {H : Hp} {s : Shared} {C : Addr} {y : V} {u : Value} (I : Inv X pins σ H s) (h : Oth X.K C H y) (ry : RelV y u) :
    ∃ tb, PySem.W.Looks (model X.prog X.w) s.heap (typeOf u) tb ∧ PySem.W.notFirst X.K C tb = true := by
  rcases h with ⟨b, dx, fs, rfl, hb⟩ | ⟨rfl, hn⟩ | ⟨b, xs, rfl, hb, hn⟩
  · obtain rfl : u = Value.ref b := ry
    obtain ⟨m, J, _⟩ := ins_get I.hok hb
    obtain ⟨od, J, _⟩ := J.look
    exact ⟨_, J.type, by simp [PySem.W.notFirst]⟩
  · obtain rfl : u = Value.none := ry
    exact ⟨_, PySem.W.Looks.of_pure rfl, hn⟩
  · obtain rfl : u = Value.ref b := ry
    obtain ⟨its, r, p, z⟩ := I.tuple hb
    obtain ⟨o, e, hc, _⟩ := p
    exact ⟨.type "tuple", fun A Q E s' k q => wpAny_typeOf_ref (k _ _ e) (by rw [hc]; exact q), hn⟩
theorem check_ne {M : Model} {A : Around} {E : Value → Shared → Prop} {s : Shared} {K : PySem.W.Frag} {x C : Addr} {ox : Obj} {od : Option Obj} {b : Value} {Q : Unit → Shared → Prop} (X : K.In s.heap) (I : PySem.W.InstAt s.heap x ox C od) (hm : PySem.W.mroIn K C (.type "object") = some true) (hq : Q () s) :
    wpAny M A (checkBuiltinCall "object.__ne__" ⟨[.ref x, b], []⟩) Q E s := by
  have sub : PySem.W.Looks M s.heap (isInstance (.ref x) (.type "object")) true := I.type.andThen (PySem.W.looks_mroIn X hm)
  simp only [checkBuiltinCall, F.cmpKind_ne, F.cmpSplit_ne]
  refine wpAny_bind (sub.here ?_)
  have ha : argsOk "object.__ne__" ⟨[.ref x, b], []⟩ := F.cmpArgs_ne _ _
  cases hsig : Manifest.signature? "object.__ne__" with
  | none => exact wpAny_pure hq
  | some sig =>
    simp only [argsOk, hsig] at ha
    have h2 : Bind.checkArgs "object.__ne__" sig ⟨.ref x :: [b], []⟩ = pure () := ha
    show wpAny M A (Bind.checkArgs "object.__ne__" sig ⟨.ref x :: [b], []⟩) Q E _
    rw [h2]
    exact wpAny_pure hq
theorem plain_ne : plainId "object.__ne__" = true := by decide +kernel
theorem bind_ne (self : Value) : bindSpecial (.builtin "object.__ne__") self = pure (.builtin "object.__ne__", [self]) :=
  (Slot.of (T := "object") (name := "__ne__") (owner := "object") (n := "__ne__") (by rw [typeLookup_type, builtinLookup_eq_fast]; kernel_rfl) (by decide +kernel) (by decide +kernel) (by decide +kernel)
    (.inl (by decide +kernel)) (by rw [isSubtype_type]; kernel_rfl)).bind self
/-- x == y, x != y by an own == -/
theorem back_own {P : Program} {w : World} {A : Around} {E : Value → Shared → Prop} {s : Shared} {K : PySem.W.Frag} {x C : Addr} {ox : Obj} {od : Option Obj} {b : Value} {name : Str} {Q : Option Value → Shared → Prop} (X : K.In s.heap) (I : PySem.W.InstAt s.heap x ox C od)
    (hs : PySem.W.findIn K (.ref C) name = some (some (.builtin "object.__ne__"))) (h : wpAny (model P w) A (call (.builtin "object.__ne__") [.ref x, b]) (fun v => Q (some v)) E s) : wpAny (model P w) A (callSpecialIfBound? (.ref x) name [b]) Q E s := by
  simp only [callSpecialIfBound?, bindSpecialIfBound?]
  refine wpAny_holding (wpAny_bind (wpAny_bind (wpAny_bind (I.type.here ((PySem.W.looks_findIn X hs).here ?_)))))
  refine wpAny_bind (wpAny_askSetting (wpAny_ite ?_))
  have fin : wpAny (model P w) A (call (.builtin "object.__ne__") ([.ref x] ++ [b]) >>= fun v => pure (some v)) Q E s := wpAny_bind (wpAny_mono h (fun v s' h' => wpAny_pure h') fun _ _ h' => h')
  rw [bind_ne]
  split
  · exact wpAny_bind (wpAny_pure (wpAny_pure (by exact fin)))
  · exact wpAny_tryCatch (wpAny_bind (wpAny_pure (wpAny_pure (by exact fin))))
theorem op_ownEq (g : Good k Γ sc W X) {M : MtT} (hM : Γ.mt "__eq__" = some M) : OpR X (compareOp .Eq) (rOwnEq X.K M false) := by
  intro pins s σ H x y v u Q I rx ry h
  obtain ⟨a, C, dx, fs, p, rfl, ea, hp, ho, _, q⟩ := h
  obtain rfl : v = Value.ref a := rx
  obtain ⟨hle, f, c, hm, F⟩ := g.mt _ M C 1 p hM hp
  obtain ⟨tb, hb, hn⟩ := oth_ty I ho ry
  obtain ⟨m, J, _⟩ := ins_get I.hok ea
  obtain ⟨od, J, _⟩ := J.look
  obtain ⟨mm, hF⟩ := I.fr
  show wpAny (model X.prog X.w) X.A (richCompare .Eq (.ref a) u) (EP X pins σ Q) X.xe s
  refine PySem.W.cmp_K (op := .Eq) (tb := tb) g.room.r.units0 hF I.ok.mod.kin J hb hn hm.at_ hm.fn ?_
  refine wpAny_mono (run_q (us := [.ref a, u]) (vs := [.ref a, y]) F (g.room.mono (Nat.le_of_succ_le hle)) rfl I (.cons rfl (.cons ry .nil)) rfl q) (fun w s' z => ?_) fun _ _ x => x
  obtain ⟨z', H', I', rz, b, rfl, qz⟩ := z
  obtain rfl : w = Value.bool b := rz
  exact ⟨.bl b, H', I', rfl, qz⟩
theorem op_ownNe (g : Good k Γ sc W X) {M : MtT} (hM : Γ.mt "__eq__" = some M) : OpR X (compareOp .NotEq) (rOwnEq X.K M true) := by
  intro pins s σ H x y v u Q I rx ry h
  obtain ⟨a, C, dx, fs, p, rfl, ea, hp, ho, nc, q⟩ := h
  obtain rfl : v = Value.ref a := rx
  obtain ⟨hle, f, c, hm, FF⟩ := g.mt _ M C 1 p hM hp
  obtain ⟨n1, n2⟩ := nc rfl
  obtain ⟨tb, hb, hn⟩ := oth_ty I ho ry
  obtain ⟨m, J, _⟩ := ins_get I.hok ea
  obtain ⟨od, J, _⟩ := J.look
  have hu : X.A.units + 64 < cLine := g.units
  have KI := I.kIn
  show wpAny (model X.prog X.w) X.A (richCompare .NotEq (.ref a) u) (EP X pins σ Q) X.xe s
  have one : wpAny (model X.prog X.w) X.A (tryCompare (.ref a) (cmpInfo .NotEq).2.1 u) (fun r s' => ∃ v, r = some v ∧ EP X pins σ Q v s') X.xe s := by
    unfold tryCompare
    refine wpAny_bind (back_own KI J n1 ?_)
    refine wpAny_call (codeAny_call_builtin plain_ne F.cmpEntry_ne (check_ne KI J n2 ?_))
    have run := run_q (A := X.A.in1) (us := [.ref a, u]) (vs := [.ref a, y]) FF (⟨(g.room.r.mono hle).in1, g.room.g⟩) rfl I (.cons rfl (.cons ry .nil)) rfl q
    unfold Builtin.«object.__ne__»
    repeat (first
      | with_reducible refine wpAny_cRoomFor (by have := (g.room.r.mono hle).in1.un; omega) ?_
      | (refine wpAny_bind (m := callSpecialIfBound? (.ref a) (Str.ofString "__eq__") [u])
          (PySem.W.ifBound_K KI J hm.at_ hm.fn (wpAny_mono run (fun r s' hr => by
            obtain ⟨z', H', I', rz, b, rfl, qz⟩ := hr
            obtain rfl : r = Value.bool b := rz
            repeat (first | exact wpAny_truthy_bool ⟨rfl, _, rfl, .bl (!b), H', I', rfl, qz⟩ | (refine wpAny_bind (m := truthy (.bool _)) (wpAny_truthy_bool ?_)) | wp_step)
            exact ⟨_, rfl, .bl (!b), H', I', rfl, qz⟩) fun _ _ e => e)))
      | wp_step)
  unfold richCompare
  simp only [oneThing_ref]
  refine wpAny_holding (wpAny_bind (wpAny_cRoomFor (by omega) ?_))
  refine wpAny_bind (J.type.here (wpAny_bind (hb.here ?_)))
  split
  · rename_i q
    have e : PySem.W.subIn X.K tb (.ref C) = some false := by
      rcases Bool.or_eq_true_iff.mp hn with e | e
      · rw [beq_iff_eq.mp e] at q; simp at q
      · exact beq_iff_eq.mp e
    refine wpAny_bind ((PySem.W.looks_subIn KI e).here ?_)
    simp only [Bool.false_eq_true, if_false]
    refine wpAny_bind (wpAny_mono one (fun r s' z => ?_) fun _ _ e => e)
    obtain ⟨v, rfl, hq⟩ := z
    exact wpAny_pure hq
  · refine wpAny_bind (wpAny_pure ?_)
    simp only [Bool.false_eq_true, if_false]
    refine wpAny_bind (wpAny_mono one (fun r s' z => ?_) fun _ _ e => e)
    obtain ⟨v, rfl, hq⟩ := z
    exact wpAny_pure hq
theorem ok_cmpM (g : Good k Γ sc W X) {M : MtT} (hM : Γ.mt "__eq__" = some M) (op : CmpOp) : OpR X (compareOp op) (rCmpM X.K M op) := by
  have b := ok_cmp (X := X) g.units
  cases op with
  | Eq => exact OpR.or (b .Eq) (op_ownEq g hM)
  | NotEq => exact OpR.or (b .NotEq) (op_ownNe g hM)
  | _ => exact b _
theorem ok_wCmp (g : Good k Γ sc W X) (op : CmpOp) : OpR X (compareOp op) (wCmp X.K Γ op) := by
  unfold wCmp
  cases h : Γ.mt "__eq__" with
  | some M => exact ok_cmpM g h op
  | none => exact ok_cmp g.units op
end
/-! ## t[::-1] of a tuple, tuple * 1 -/
section
variable {prog : Program} {w : World} {A : Around} {E : Value → Shared → Prop} {s : Shared}
theorem revIx (n : Nat) : Builtin.Slice.sliceAdjust none none (-1) (n : Int) = ((n : Int) - 1, -1) := by
  unfold Builtin.Slice.sliceAdjust
  simp
theorem revPl (n : Nat) : Builtin.Slice.slicePlaces ((n : Int) - 1) (-1) (-1) = n := by
  unfold Builtin.Slice.slicePlaces
  simp
  omega
open HT in
theorem revApplied {sl : Addr} {vl vu vs : Value} {n : Nat} {Q : Int × Int × Nat → Shared → Prop} (hs : s.heap.IsSliceOf sl vl vu vs) (pl : IsPart vl none) (pu : IsPart vu none) (ps : IsPart vs (some (-1)))
    (h : Q ((n : Int) - 1, -1, n) s) : wpAny (model prog w) A (Builtin.Slice.sliceApplied (.ref sl) (pure (n : Int))) Q E s := by
  obtain ⟨os, hos, hcs, hds⟩ := id hs
  unfold Builtin.Slice.sliceApplied Builtin.Slice.sliceFields
  refine wpAny_bind (wpAny_bind (wpAny_field hos hds (x := vl) rfl (wpAny_bind (wpAny_field hos hds (x := vu) rfl (wpAny_bind (wpAny_field hos hds (x := vs) rfl (wpAny_pure ?_)))))))
  refine wpAny_bind (slicePart_ ps ?_)
  show wpAny _ _ (if ((-1 : Int) == 0) = true then _ else _) _ _ s
  rw [if_neg (by decide)]
  refine wpAny_bind (slicePart_ pl (wpAny_bind (slicePart_ pu (wpAny_bind (wpAny_pure ?_)))))
  show wpAny _ _ (match Builtin.Slice.sliceAdjust none none (-1) (n : Int) with | (lo, hi) => pure (lo, (-1 : Int), Builtin.Slice.slicePlaces lo hi (-1))) _ _ s
  rw [revIx n]
  show wpAny _ _ (pure ((n : Int) - 1, (-1 : Int), Builtin.Slice.slicePlaces ((n : Int) - 1) (-1) (-1))) _ _ s
  rw [revPl]
  exact wpAny_pure h
theorem fm_congr {α β : Type} {f g : α → Option β} : ∀ {l : List α}, (∀ x ∈ l, f x = g x) → l.filterMap f = l.filterMap g
  | [], _ => rfl
  | x :: r, h => by
    rw [List.filterMap_cons, List.filterMap_cons, h x List.mem_cons_self, fm_congr fun y hy => h y (List.mem_cons_of_mem _ hy)]
theorem rev_pick (xs : Array Value) : ((List.range xs.size).filterMap fun (m : Nat) => xs[((xs.size : Int) - 1 + (m : Int) * (-1)).toNat]?).toArray = xs.toList.reverse.toArray := by
  have e : (List.range xs.size).filterMap (fun (m : Nat) => xs[((xs.size : Int) - 1 + (m : Int) * (-1)).toNat]?) = xs.toList.reverse := by
    rw [← PySem.W.krv_all xs, ← List.filterMap_reverse, ← PySem.W.krv_range, List.filterMap_map]
    refine fm_congr fun m hm => ?_
    have := List.mem_range.mp hm
    show _ = xs[xs.size - 1 - m]?
    have q : ((xs.size : Int) - 1 + (m : Int) * (-1)).toNat = xs.size - 1 - m := by omega
    rw [q]
  rw [e]
open HT in
theorem getItem_tuple_rev {t sl : Addr} {items : Array Value} {vl vu vs : Value} {Q : Value → Shared → Prop} (ht : IsTup s.heap t items) (hs : s.heap.IsSliceOf sl vl vu vs) (pl : IsPart vl none) (pu : IsPart vu none) (ps : IsPart vs (some (-1)))
    (h : Q (.ref s.heap.objs.size) { s with heap := s.heap.push { cls := .type "tuple", data := .seq items.toList.reverse.toArray } })
    (hsz : items.size ≤ sizeLine) : wpAny (model prog w) A (getItem (.ref t) (.ref sl)) Q E s := by
  have htake : sizeOk (.seq items.toList.reverse.toArray) := by
    show items.toList.reverse.toArray.size ≤ sizeLine
    rw [List.size_toArray, List.length_reverse, Array.length_toList]
    exact hsz
  obtain ⟨os, hos, hcs, hds⟩ := id hs
  have hTs : s.TypeIs (.ref sl) "slice" := ⟨os, hos, hcs⟩
  unfold getItem
  try with_reducible refine wpAny_holding ?_
  first | refine wpAny_bind (wpAny_pure ?_) | skip
  refine wpAny_bind (wpAny_sequenceKey ht.typeIs (by decide) ?_)
  refine wpAny_bind (wpAny_callSpecial?_slot (name := Str.ofString "__getitem__") ht.typeIs PyProof.Rows.slot_tuple_getitem
    (wpAny_call_entry PyProof.Rows.slot_tuple_getitem ht.typeIs entry_tuple_getitem ?_ (args_tuple_getitem _ _)))
  show wpAny _ _ (Builtin.Tuple.tupleItemsOf (.ref t) >>= _) _ _ s
  refine wpAny_bind (tupleItemsOf_ ht ?_)
  refine wpAny_bind (wpAny_typeOf hTs ?_)
  rw [if_pos (by decide)]
  refine wpAny_bind (revApplied hs pl pu ps ?_)
  have hno : ¬ ((((items.size : Int) - 1) == 0 && (-1 : Int) == 1 && items.size == items.size) = true) := by
    intro q
    rw [Bool.and_eq_true, Bool.and_eq_true] at q
    exact absurd q.1.2 (by decide)
  show wpAny _ _ (if (((items.size : Int) - 1) == 0 && (-1 : Int) == 1 && items.size == items.size) = true then _ else _) _ _ s
  rw [if_neg hno, rev_pick]
  first
    | exact wpAny_bind (m := Builtin.Tuple.tupleExact _) (wpAny_newObj_type (wpAny_pure ⟨_, rfl, wpAny_pure h⟩) htake)
    | exact wpAny_bind (m := Builtin.Tuple.tupleExact _) (wpAny_newObj_type (wpAny_bind (wpAny_pure (wpAny_pure ⟨_, rfl, wpAny_pure h⟩))) htake)
    | exact wpAny_bind (wpAny_bind (m := Builtin.Tuple.tupleExact _) (wpAny_newObj_type (wpAny_pure (wpAny_pure ⟨_, rfl, wpAny_pure h⟩)) htake))
    | exact wpAny_bind (wpAny_bind (m := Builtin.Tuple.tupleExact _) (wpAny_newObj_type (wpAny_pure ⟨_, rfl, wpAny_pure h⟩) htake))
end
def isM1 (e : Expr) : Bool := match e with
  | .UnaryOp .USub (.Constant (.int 1) _ _) _ => true
  | _ => false
def tRevT (K : PySem.W.Frag) (te : TE) : TE := fun σ H Q => te σ H fun x H1 => ∃ a xs, x = .ref a ∧ SqT K H1 a xs ∧ ∀ p, H1 p = none → Q (.ref p) (upd H1 p (.tup xs.reverse))
def tRevA (K : PySem.W.Frag) (te : TE) : TE := fun σ H Q => tRevL K te σ H Q ∨ tRevT K te σ H Q
section
variable {X : Cx}
theorem pe_revT {e z : Expr} {te : TE} {p3 pos : Pos} (he : PE X e te) (hz : isM1 z = true) : PE X (.Subscript e (.Slice none none (some z) p3) pos) (tRevT X.K te) := by
  obtain ⟨k, p1, p2, rfl⟩ : ∃ k p1 p2, z = .UnaryOp .USub (.Constant (.int 1) k p1) p2 := by
    unfold isM1 at hz
    split at hz
    · exact ⟨_, _, _, rfl⟩
    · cases hz
  refine ⟨fun pins s σ H Q I h => ?_⟩
  refine Subscript_ (thn (he.run pins s σ H _ I h) fun v s1 ⟨x, H1, I1, r1, q1⟩ => ?_)
  obtain ⟨a, xs, ex, hx, q⟩ := q1
  subst ex
  cases r1
  have hst : PO X (some (.UnaryOp .USub (.Constant (.int 1) k p1) p2)) (tPart (tUn (rU fun i => .int (-i)) (tC (.int 1)))) := po_some (pe_un un_neg pe_int)
  refine wpAny_Slice (thn (po_none.run pins s1 σ H1 (fun o H2 => o = none ∧ H2 = H1) I1 ⟨rfl, rfl⟩) fun vl s2 ⟨l, H2, I2, pl, el, e2⟩ => ?_)
  subst el e2
  refine thn (po_none.run pins s2 σ H2 (fun o H3 => o = none ∧ H3 = H2) I2 ⟨rfl, rfl⟩) fun vu s3 ⟨u, H3, I3, pu, eu, e3⟩ => ?_
  subst eu e3
  refine thn (hst.run pins s3 σ H3 (fun o H4 => o = some (-1) ∧ H4 = H3) I3 ⟨1, rfl, -1, rfl, rfl, rfl⟩) fun vs s4 ⟨o, H4, I4, ps, eo, e4⟩ => ?_
  subst eo e4
  have I5 : Inv X pins σ H4 { s4 with heap := s4.heap.push { cls := .type "slice", data := .fields #[vl, vu, vs] } } := I4.kept (t' := s4.toks) fun b ob q => Heap.get?_push_of_some _ q
  obtain ⟨its, r, ht, hz⟩ := I5.tuple hx
  have hlen := r.length
  show wpAny (model X.prog X.w) X.A (subscriptTail e (.Slice none none (some (.UnaryOp .USub (.Constant (.int 1) k p1) p2)) p3) (.ref a) (.ref s4.heap.objs.size)) (EP X pins σ Q) X.xe { s4 with heap := s4.heap.push { cls := .type "slice", data := .fields #[vl, vu, vs] } }
  refine tail_any (ops := [.ref a, .ref s4.heap.objs.size]) ht.typeIs (PyProof.Rows.slot_tuple_getitem.lookup) ?_ (by with_unfolding_all rfl)
  refine getItem_tuple_rev ht (Heap.IsSliceOf.new _ vl vu vs) pl pu ps ?_ (by rw [List.size_toArray]; omega)
  refine ⟨.ref _, _, I5.laid (t' := s4.toks) (o := .tup xs.reverse) (fun b ob q => Heap.get?_push_of_some _ q) (Nat.le_refl _) ?_, rfl, q _ (I5.hok.fresh (Nat.le_refl _))⟩
  exact ⟨by rw [List.length_reverse]; exact hz, _, r.reverse, IsTup.new _ _⟩
theorem pe_revA {e z : Expr} {te : TE} {p3 pos : Pos} (he : PE X e te) (hz : isM1 z = true) : PE X (.Subscript e (.Slice none none (some z) p3) pos) (tRevA X.K te) := by
  have h2 := pe_revT (p3 := p3) (pos := pos) he hz
  obtain ⟨k, p1, p2, rfl⟩ : ∃ k p1 p2, z = .UnaryOp .USub (.Constant (.int 1) k p1) p2 := by
    unfold isM1 at hz
    split at hz
    · exact ⟨_, _, _, rfl⟩
    · cases hz
  exact ⟨fun pins s σ H Q I h => h.elim (fun h => (pe_revL he).run pins s σ H Q I h) fun h => h2.run pins s σ H Q I h⟩
end
end G

set_option Elab.async false
set_option linter.all false
set_option maxRecDepth 100000
set_option maxHeartbeats 8000000
namespace G
open PySem PySem.Spec PyProof.Rows L2 LamX
/-! ## list(zip(*rows)): as many tuples as there are -/
theorem zs_type (vs : List Value) : checkTypeCall "zip" ⟨vs, []⟩ = pure () := by kernel_rfl
theorem zs_init (obj : Value) (vs : List Value) : argsOk "object.__init__" ⟨obj :: vs, []⟩ := by unfold argsOk; kernel_rfl
theorem zip_no_len : typeLookup (.type "zip") "__len__" = pure none := by rw [typeLookup_type, builtinLookup_eq_fast]; kernel_rfl
theorem zip_no_hint : typeLookup (.type "zip") "__length_hint__" = pure none := by rw [typeLookup_type, builtinLookup_eq_fast]; kernel_rfl
def zsP : List Manifest.Param := [⟨"iterables", .varPos, false⟩, ⟨"strict", .kwOnly, false⟩]
def zsSig : Manifest.Signature := ⟨.keywordsApart, "zip", "zip", .cls, zsP⟩
theorem zs_count (n : Nat) : Bind.checkCount "zip" zsSig.params n = pure () := by
  unfold Bind.checkCount
  have e1 : (List.filter Bind.isPositional zsSig.params) = [] := rfl
  have e2 : List.filter (fun p => Bind.isPositional p && p.required) zsSig.params = [] := rfl
  have e3 : (zsSig.params.any fun x => x.kind == .varPos) = true := rfl
  simp only [e1, e2, e3, List.length_nil, Nat.not_lt_zero, if_false, Bool.not_true, Bool.and_false, Bool.false_eq_true]
theorem zs_check (n : Nat) : Bind.check zsSig "zip" "zip" n [] = pure () := by
  show (do Bind.checkCount "zip" zsSig.params n; Bind.checkKeywords "zip" (zsSig.params.filter (·.kind == .kwOnly)) 0 [] : Sem Unit) = pure ()
  rw [zs_count]
  kernel_rfl
theorem zs_args (vs : List Value) : Bind.checkArgs "zip.__new__" zsSig ⟨.type "zip" :: vs, []⟩ = pure () := by
  have q : Bind.checkArgs "zip.__new__" zsSig ⟨.type "zip" :: vs, []⟩ = ((Bind.check zsSig "zip" "zip" vs.length []).onRaise fun _ => do
    if ← Bind.nameInDoubt zsSig (some (.type "zip")) then unsupported "bind:dotted-class-name-under-the-short-mark") := by
    rfl
  rw [q, zs_check]
  rfl
theorem zs_new (vs : List Value) : checkBuiltinCall "zip.__new__" ⟨.type "zip" :: vs, []⟩ = pure () := by
  have q : checkBuiltinCall "zip.__new__" ⟨.type "zip" :: vs, []⟩ = Bind.checkArgs "zip.__new__" zsSig ⟨.type "zip" :: vs, []⟩ := by kernel_rfl
  rw [q, zs_args]
def itO (l : Addr) : Obj := { cls := .type "tuple_iterator", data := .fields #[.ref l, .int 0 0] }
def zsIt (h : Heap) (ls : List Addr) : Heap := ls.foldl (fun h l => h.push (itO l)) h
theorem zsIt_app (h : Heap) (a b : List Addr) : zsIt h (a ++ b) = zsIt (zsIt h a) b := List.foldl_append
theorem zsIt_size : ∀ (ls : List Addr) (h : Heap), (zsIt h ls).objs.size = h.objs.size + ls.length
  | [], h => rfl
  | l :: r, h => by
    show (zsIt (h.push (itO l)) r).objs.size = _
    rw [zsIt_size r, Heap.size_push, List.length_cons]
    omega
theorem zsIt_keep : ∀ (ls : List Addr) {h : Heap} {b : Addr} {o : Obj}, h.get? b = some o → (zsIt h ls).get? b = some o
  | [], h, b, o, e => e
  | l :: r, h, b, o, e => zsIt_keep r (h := h.push (itO l)) (Heap.get?_push_of_some _ e)
theorem zsIt_at : ∀ (ls : List Addr) {h : Heap} {j : Nat} {l : Addr}, ls[j]? = some l → (zsIt h ls).get? (h.objs.size + j) = some (itO l)
  | x :: r, h, 0, l, e => by
    simp only [List.getElem?_cons_zero, Option.some.injEq] at e
    subst e
    exact zsIt_keep r (h := h.push (itO x)) (Heap.get?_push_size _ rfl)
  | x :: r, h, j + 1, l, e => by
    have z := zsIt_at r (h := h.push (itO x)) (j := j) (l := l) (by simpa using e)
    rw [Heap.size_push] at z
    have q : h.objs.size + 1 + j = h.objs.size + (j + 1) := by omega
    rw [q] at z
    exact z
def rfs (B n : Nat) : List Value := (List.range n).map fun j => Value.ref (B + j)
section
variable {prog : Program} {w : World} {A : Around} {E : Value → Shared → Prop} {s : Shared}
theorem zs_iterAll {ls : List Addr} {Q : List Value → Shared → Prop} (hl : ∀ l ∈ ls, ∃ xs, s.heap.IsTuple l xs) (hQ : Q (rfs s.heap.objs.size ls.length) { s with heap := zsIt s.heap ls }) :
    wpAny (model prog w) A (Builtin.SmallTypes.iterAll (ls.map Value.ref)) Q E s := by
  unfold Builtin.SmallTypes.iterAll
  refine wpAny_bind ?_
  refine wpAny_forIn_list _ (fun rest b s' => ∃ dn rs, ls = dn ++ rs ∧ rest = rs.map Value.ref ∧ b = (rfs s.heap.objs.size dn.length).toArray ∧ s' = { s with heap := zsIt s.heap dn }) _ ?_ ?_ _ _ ⟨[], ls, rfl, rfl, rfl, rfl⟩
  · rintro x rest b s' ⟨dn, rs, e1, e2, rfl, rfl⟩
    cases rs with
    | nil => cases e2
    | cons l rs =>
      rw [List.map_cons] at e2
      cases e2
      obtain ⟨xs, hx⟩ := hl l (by rw [e1]; simp)
      refine wpAny_bind (wpAny_holding (wpAny_pyIter_tuple (s := { s with heap := zsIt s.heap dn }) (hx.at fun o e => zsIt_keep dn e) ?_))
      refine wpAny_pure ⟨dn ++ [l], rs, by rw [e1, List.append_assoc]; rfl, rfl, ?_, ?_⟩
      · show (rfs s.heap.objs.size dn.length).toArray.push (.ref (zsIt s.heap dn).objs.size) = _
        rw [zsIt_size, List.length_append]
        unfold rfs
        rw [show dn.length + [l].length = dn.length + 1 from rfl, List.range_succ, List.map_append]
        simp
      · rw [zsIt_app]
        rfl
  · rintro b s' ⟨dn, rs, e1, e2, rfl, rfl⟩
    have : rs = [] := List.map_eq_nil_iff.mp e2.symm
    subst this
    rw [List.append_nil] at e1
    subst e1
    refine wpAny_pure ?_
    exact hQ
def zsT (h : Heap) (ls : List Addr) : Heap := (zsIt h ls).push { cls := .type "tuple", data := .seq (rfs h.objs.size ls.length).toArray }
def zsO (h : Heap) (ls : List Addr) : Heap := (zsT h ls).push { cls := .type "tuple", data := .seq ((rfs h.objs.size ls.length).map fun _ => Value.none).toArray }
def zsZ (h : Heap) (ls : List Addr) : Heap := (zsO h ls).push { cls := .type "zip", data := .fields #[.none, .bool false, .bool false, .ref (zsIt h ls).objs.size, .ref (zsT h ls).objs.size] }
end
theorem rfs_len (B n : Nat) : (rfs B n).length = n := by unfold rfs; rw [List.length_map, List.length_range]
theorem rfs_none (B n : Nat) : ((rfs B n).map fun _ => Value.none).length = n := by rw [List.length_map, rfs_len]
theorem meets_zs (ls : List Addr) (hn : ls.length ≤ 16) :
    Meets (Builtin.«zip.__new__» ⟨.type "zip" :: ls.map Value.ref, []⟩) (fun _ R s => (∀ l ∈ ls, ∃ xs, s.heap.IsTuple l xs) ∧
      R (.ok (.ret (.ref (zsO s.heap ls).objs.size))) { s with heap := zsZ s.heap ls }) :=
  .of_wp fun prog w A R s h => by
    obtain ⟨hl, h⟩ := h
    have hsub := sub_zip
    have it : ∀ {A' : Around} {E : Value → Shared → Prop} {Q : List Value → Shared → Prop}, Q (rfs s.heap.objs.size ls.length) { s with heap := zsIt s.heap ls } → wpAny (model prog w) A' (Builtin.SmallTypes.iterAll (ls.map Value.ref)) Q E s :=
      fun q => zs_iterAll hl q
    have c1 : ¬ (rfs s.heap.objs.size ls.length).toArray.size > sizeLine := by rw [List.size_toArray, rfs_len, sizeLine_eq]; omega
    have c2 : ¬ ((rfs s.heap.objs.size ls.length).map fun _ => Value.none).toArray.size > sizeLine := by rw [List.size_toArray, rfs_none, sizeLine_eq]; omega
    unfold Builtin.«zip.__new__»
    wp_walk using it
    rw [if_neg c1]
    wp_walk
    rw [if_neg c2]
    wp_walk
    exact ⟨_, rfl, h⟩
section
variable {prog : Program} {w : World} {A : Around} {E : Value → Shared → Prop} {s : Shared}
/-- the cells of a zip over the tuples at ls, its own ones from B on, i items drawn from each -/
structure ZS (h : Heap) (B : Nat) (ls : List Addr) (rr : List (Array Value)) (i : Nat) : Prop where
  lt : ∀ l ∈ ls, l < B
  it : ∀ (j : Nat) (l : Addr), ls[j]? = some l → h.IsTupleIter (B + j) l i
  tup : ∀ (j : Nat) (l : Addr), ls[j]? = some l → ∃ xs, rr[j]? = some xs ∧ h.IsTuple l xs
  ti : h.get? (B + ls.length) = some { cls := .type "tuple", data := .seq (rfs B ls.length).toArray }
abbrev ZO (h : Heap) (B n : Nat) : Prop := ∃ vs : Array Value, vs.size = n ∧ h.get? (B + n + 1) = some { cls := .type "tuple", data := .seq vs }
abbrev ZZ (h : Heap) (B n : Nat) (f0 : Value) (f : Bool) : Prop := h.get? (B + n + 2) = some { cls := .type "zip", dict := none, data := .fields #[f0, .bool f, .bool false, .ref (B + n), .ref (B + n + 1)], slots := #[] }
theorem call_zs {ls : List Addr} {rr : List (Array Value)} {Q : Value → Shared → Prop} (hn : ls.length ≤ 16) (hl : ∀ (j : Nat) (l : Addr), ls[j]? = some l → ∃ xs, rr[j]? = some xs ∧ s.heap.IsTuple l xs)
    (h : ∀ h', ZS h' s.heap.objs.size ls rr 0 → ZO h' s.heap.objs.size ls.length → ZZ h' s.heap.objs.size ls.length .none false → h'.objs.size = s.heap.objs.size + ls.length + 3 →
      (∀ c o, s.heap.get? c = some o → h'.get? c = some o) → Q (.ref (s.heap.objs.size + ls.length + 2)) { s with heap := h' }) :
    wpAny (model prog w) A (call (.type "zip") (ls.map Value.ref)) Q E s := by
  have hl2 : ∀ l ∈ ls, ∃ xs, s.heap.IsTuple l xs := fun l hm => by
    obtain ⟨j, hj⟩ := List.mem_iff_getElem?.mp hm
    obtain ⟨xs, _, z⟩ := hl j l hj
    exact ⟨xs, z⟩
  refine callType_new F.called_zip (by decide) (zs_type _) (zs_new _) (fun obj => zs_init obj _) F.entry_zip_new (meets_zs ls hn) ⟨hl2, ?_⟩
  have z1 := zsIt_size ls s.heap
  have z2 : (zsT s.heap ls).objs.size = s.heap.objs.size + ls.length + 1 := by unfold zsT; rw [Heap.size_push, z1]
  have z3 : (zsO s.heap ls).objs.size = s.heap.objs.size + ls.length + 2 := by unfold zsO; rw [Heap.size_push, z2]
  have z4 : (zsZ s.heap ls).objs.size = s.heap.objs.size + ls.length + 3 := by unfold zsZ; rw [Heap.size_push, z3]
  have k3 : ∀ c o, (zsO s.heap ls).get? c = some o → (zsZ s.heap ls).get? c = some o := fun c o e => Heap.get?_push_of_some _ e
  have k2 : ∀ c o, (zsT s.heap ls).get? c = some o → (zsZ s.heap ls).get? c = some o := fun c o e => k3 c o (Heap.get?_push_of_some _ e)
  have k1 : ∀ c o, (zsIt s.heap ls).get? c = some o → (zsZ s.heap ls).get? c = some o := fun c o e => k2 c o (Heap.get?_push_of_some _ e)
  have k0 : ∀ c o, s.heap.get? c = some o → (zsZ s.heap ls).get? c = some o := fun c o e => k1 c o (zsIt_keep ls e)
  have gT : (zsZ s.heap ls).get? (zsIt s.heap ls).objs.size = some { cls := .type "tuple", data := .seq (rfs s.heap.objs.size ls.length).toArray } := k2 _ _ (Heap.get?_push_size _ rfl)
  have gO : (zsZ s.heap ls).get? (zsT s.heap ls).objs.size = some { cls := .type "tuple", data := .seq ((rfs s.heap.objs.size ls.length).map fun _ => Value.none).toArray } := k3 _ _ (Heap.get?_push_size _ rfl)
  have gZ : (zsZ s.heap ls).get? (zsO s.heap ls).objs.size = some { cls := .type "zip", data := .fields #[.none, .bool false, .bool false, .ref (zsIt s.heap ls).objs.size, .ref (zsT s.heap ls).objs.size] } := Heap.get?_push_size _ rfl
  have e2 := z2
  have e3 := z3
  rw [z1] at gT gZ
  rw [z2] at gO gZ
  rw [z3] at gZ
  show _ ∧ _
  rw [z3]
  refine ⟨⟨_, gZ, rfl⟩, h _ ⟨fun l hm => ?_, fun j l hj => ?_, fun j l hj => ?_, gT⟩ ⟨_, by rw [List.size_toArray, rfs_none], gO⟩ gZ z4 k0⟩
  · obtain ⟨xs, o, e, _⟩ := hl2 l hm
    exact Heap.lt_size e
  · exact ⟨_, k1 _ _ (zsIt_at ls hj), rfl, rfl⟩
  · obtain ⟨xs, e, z⟩ := hl j l hj
    exact ⟨xs, e, z.at fun o q => k0 _ o q⟩
/-- k of the iterators have drawn already -/
structure ZK (h0 h : Heap) (B : Nat) (ls : List Addr) (i k : Nat) : Prop where
  it : ∀ (j : Nat) (l : Addr), ls[j]? = some l → h.IsTupleIter (B + j) l (if j < k then i + 1 else i)
  keep : ∀ (c : Addr) (o : Obj), (∀ j, j < ls.length + 3 → j ≠ ls.length → c ≠ B + j) → h0.get? c = some o → h.get? c = some o
  sz : h.objs.size = h0.objs.size
def colZ (rr : List (Array Value)) (i k : Nat) : List Value := (rr.take k).map fun xs => xs.getD i .none
theorem colZ_succ {rr : List (Array Value)} {i k : Nat} {xs : Array Value} {x : Value} (h : rr[k]? = some xs) (hx : xs[i]? = some x) : colZ rr i (k + 1) = colZ rr i k ++ [x] := by
  unfold colZ
  rw [List.take_add_one, h, List.map_append]
  congr 1
  show [xs.getD i .none] = [x]
  rw [Array.getD_eq_getD_getElem?, hx]
  rfl
theorem ne_add {B a b : Nat} (h : a ≠ b) : B + a ≠ B + b := fun e => h (Nat.add_left_cancel e)
theorem rfs_get {B n k : Nat} (h : k < n) : (rfs B n)[k]? = some (.ref (B + k)) := by
  unfold rfs
  rw [List.getElem?_map, List.getElem?_range h]
  rfl
theorem rfs_drop {B n k : Nat} {x : Value} {rest : List Value} (h : x :: rest = (rfs B n).drop k) : k < n ∧ x = .ref (B + k) ∧ rest = (rfs B n).drop (k + 1) := by
  have hk : k < n := by
    rcases Nat.lt_or_ge k n with c | c
    · exact c
    · rw [List.drop_of_length_le (by rw [rfs_len]; exact c)] at h
      cases h
  have hk2 : k < (rfs B n).length := by rw [rfs_len]; exact hk
  rw [List.drop_eq_getElem_cons hk2] at h
  injection h with h1 h2
  have g := rfs_get (B := B) hk
  rw [List.getElem?_eq_getElem hk2] at g
  exact ⟨hk, h1.trans (Option.some.inj g), h2⟩
theorem ZK.step {h0 : Heap} {B i k : Nat} {ls : List Addr} {rr : List (Array Value)} {l : Addr} {xs : Array Value} {x : Value} {Q : Value → Shared → Prop} (Z : ZS h0 B ls rr i) (z : ZK h0 s.heap B ls i k) (hl : ls[k]? = some l) (ht : h0.IsTuple l xs) (hx : xs[i]? = some x)
    (hQ : ∀ h', ZK h0 h' B ls i (k + 1) → Heap.SameBut (B + k) s.heap h' → Q x { s with heap := h' }) : wpAny (model prog w) A (Builtin.SmallTypes.nextOf (.ref (B + k))) Q E s := by
  have a := z.it k l hl
  rw [if_neg (Nat.lt_irrefl k)] at a
  have lk : k < ls.length := (List.getElem?_eq_some_iff.mp hl).1
  have ht2 : s.heap.IsTuple l xs := ht.at fun o e => z.keep l o (fun j _ _ q => by
    have := Z.lt l (List.mem_of_getElem? hl)
    rw [q] at this
    exact absurd this (Nat.not_lt.mpr (Nat.le_add_right _ _))) e
  refine RZ.nextOf_tuple_item a ht2 hx fun h' h1 sb => hQ h' ⟨fun j l' hj => ?_, fun c o hc e => (sb.2 c (hc k (Nat.lt_of_lt_of_le lk (Nat.le_add_right _ _)) (Nat.ne_of_lt lk))).trans (z.keep c o hc e), sb.1.trans z.sz⟩ sb
  by_cases q : j = k
  · subst q
    rw [hl] at hj
    cases hj
    rw [if_pos (Nat.lt_succ_self j)]
    exact h1
  · have b := z.it j l' hj
    have e : (if j < k + 1 then i + 1 else i) = if j < k then i + 1 else i := by
      by_cases c : j < k
      · rw [if_pos c, if_pos (by omega)]
      · rw [if_neg c, if_neg (by omega)]
    rw [e]
    exact b.extBut sb.extBut fun e => q (Nat.add_left_cancel e)
theorem ZS.zk {h0 : Heap} {B i : Nat} {ls : List Addr} {rr : List (Array Value)} (Z : ZS h0 B ls rr i) : ZK h0 h0 B ls i 0 :=
  ⟨fun j l hj => by rw [if_neg (Nat.not_lt_zero j)]; exact Z.it j l hj, fun _ _ _ e => e, rfl⟩
/-- what a turn leaves -/
structure ZN (h0 h : Heap) (B : Nat) (ls : List Addr) (rr : List (Array Value)) (i : Nat) : Prop where
  it : ∀ (j : Nat) (l : Addr), ls[j]? = some l → h.IsTupleIter (B + j) l (i + 1)
  keep : ∀ (c : Addr) (o : Obj), (∀ j, j < ls.length + 3 → j ≠ ls.length → c ≠ B + j) → h0.get? c = some o → h.get? c = some o
  sz : h.objs.size = h0.objs.size + 1
  new : h.get? h0.objs.size = some { cls := .type "tuple", data := .seq (colZ rr i ls.length).toArray }
theorem colZ_len {rr : List (Array Value)} {i k : Nat} : (colZ rr i k).length ≤ k := by
  unfold colZ
  rw [List.length_map, List.length_take]
  exact Nat.min_le_left _ _
theorem colZ_fit {rr : List (Array Value)} {i k : Nat} (h : k ≤ 16) : (colZ rr i k).length ≤ sizeLine := Nat.le_trans colZ_len (by rw [sizeLine_eq]; omega)
theorem ZN.cell {h0 h : Heap} {B : Nat} {ls : List Addr} {rr : List (Array Value)} {i : Nat} (z : ZN h0 h B ls rr i) (Z : ZS h0 B ls rr i) : ZS h B ls rr (i + 1) where
  lt := Z.lt
  it := z.it
  tup := fun j l hj => by
    obtain ⟨xs, e, t⟩ := Z.tup j l hj
    exact ⟨xs, e, t.at fun o q => z.keep l o (fun k _ _ q => by
      have := Z.lt l (List.mem_of_getElem? hj)
      rw [q] at this
      exact absurd this (Nat.not_lt.mpr (Nat.le_add_right _ _))) q⟩
  ti := z.keep _ _ (fun j _ hj => ne_add (Ne.symm hj)) Z.ti
/-- a row's items that are drawn, all long enough -/
def Full (ls : List Addr) (rr : List (Array Value)) (i : Nat) : Prop := rr.length = ls.length ∧ ∀ xs ∈ rr, i < xs.size
theorem Full.at {ls : List Addr} {rr : List (Array Value)} {i k : Nat} (f : Full ls rr i) (h : k < ls.length) : ∃ xs x, rr[k]? = some xs ∧ xs[i]? = some x := by
  have hk : k < rr.length := by rw [f.1]; exact h
  refine ⟨rr[k], rr[k][i]'(f.2 _ (List.getElem_mem hk)), List.getElem?_eq_getElem hk, Array.getElem?_eq_getElem _⟩
theorem zs_held {B i : Nat} {ls : List Addr} {rr : List (Array Value)} {T : Addr} {oT : Obj} {f : Bool} {Q : Value → Shared → Prop} (hn : ls.length ≤ 16) (h1 : 1 ≤ ls.length) (Z : ZS s.heap B ls rr i) (hz : ZZ s.heap B ls.length (rawInt T) f) (hT : s.heap.get? T = some oT) (F : Full ls rr i)
    (hQ : ∀ h', ZN s.heap h' B ls rr i → ZZ h' B ls.length (rawInt T) true → Q (.ref s.heap.objs.size) { s with heap := h' }) :
    wpAny (model prog w) A (Builtin.«zip.__next__» ⟨[.ref (B + ls.length + 2)], []⟩) (fun fin s' => ∃ v, fin = .done (.ret v) ∧ Q v s') E s := by
  show wpAny _ _ (field (.ref (B + ls.length + 2)) 2 >>= _) _ _ _
  refine wpAny_bind (wpAny_field hz rfl (x := .bool false) rfl ?_)
  show wpAny _ _ (field (.ref (B + ls.length + 2)) 3 >>= _) _ _ _
  refine wpAny_bind (wpAny_field hz rfl (x := .ref (B + ls.length)) rfl ?_)
  refine wpAny_bind (wpAny_seqItems Z.ti rfl ?_)
  have ne : (rfs B ls.length).toArray.isEmpty = false := by
    unfold Array.isEmpty
    rw [List.size_toArray, rfs_len]
    exact decide_eq_false (by omega)
  simp only [ne, Bool.false_eq_true, if_false]
  refine wpAny_bind (wpAny_tupleHeld_zip hz hT fun h₁ hz₁ hs₁ => ?_)
  simp only [Bool.false_eq_true, if_false]
  have Z1 : ZK s.heap h₁ B ls i 0 := ⟨fun j l hj => by
    rw [if_neg (Nat.not_lt_zero j)]
    exact (Z.it j l hj).extBut hs₁.extBut (ne_add (b := ls.length + 2) (by have := (List.getElem?_eq_some_iff.mp hj).1; omega)), fun c o hc e => (hs₁.2 c (hc (ls.length + 2) (by omega) (by omega))).trans e, hs₁.1⟩
  refine wpAny_bind ?_
  rw [← Array.forIn_toList]
  refine wpAny_forIn_list _ (fun rest b s' => b.1 = none ∧ ∃ k h2, k ≤ ls.length ∧ rest = (rfs B ls.length).drop k ∧ b.2.toList = colZ rr i k ∧ s' = { s with heap := h2 } ∧ ZK s.heap h2 B ls i k ∧ ZZ h2 B ls.length (rawInt T) true) _ ?_ ?_ _ _ ⟨rfl, 0, h₁, Nat.zero_le _, rfl, rfl, rfl, Z1, hz₁⟩
  · rintro x rest ⟨b1, b2⟩ s' ⟨e0, k, h2, lk, er, eb, rfl, zk, hz2⟩
    obtain ⟨hk, rfl, er2⟩ := rfs_drop er
    obtain ⟨xs, x0, hxs, hx0⟩ := F.at hk
    obtain ⟨xs', hxs', ht⟩ := Z.tup k _ (List.getElem?_eq_getElem hk)
    rw [hxs] at hxs'
    cases hxs'
    refine wpAny_bind (wpAny_holding ?_)
    show wpAny _ _ (Builtin.SmallTypes.nextOf (.ref (B + k)) >>= _) _ _ _
    refine wpAny_bind (ZK.step (s := { s with heap := h2 }) Z zk (List.getElem?_eq_getElem hk) ht hx0 fun h3 z3 sb3 => wpAny_pure ?_)
    refine wpAny_pure ⟨rfl, k + 1, h3, hk, er2, ?_, rfl, z3, (sb3.2 _ (ne_add (a := ls.length + 2) (by omega))).trans hz2⟩
    show (b2.push x0).toList = _
    rw [colZ_succ hxs hx0, ← eb, Array.toList_push]
  · rintro ⟨b1, b2⟩ s' ⟨e0, k, h2, lk, er, eb, rfl, zk, hz2⟩
    have hk : k = ls.length := by
      rcases Nat.lt_or_ge k ls.length with c | c
      · have hk2 : k < (rfs B ls.length).length := by rw [rfs_len]; exact c
        rw [List.drop_eq_getElem_cons hk2] at er
        cases er
      · omega
    subst hk
    have e0' : b1 = none := e0
    subst e0'
    have eb' : b2.toList = colZ rr i ls.length := eb
    show wpAny _ _ (newTuple b2.toList >>= _) _ _ _
    rw [eb']
    refine wpAny_bind (wpAny_newTuple ?_ (hsz := colZ_fit hn))
    refine wpAny_pure ⟨_, rfl, ?_⟩
    show Q (.ref h2.objs.size) _
    have sz := zk.sz
    have nw : (h2.push { cls := .type "tuple", data := .seq (colZ rr i ls.length).toArray }).get? h2.objs.size = some { cls := .type "tuple", data := .seq (colZ rr i ls.length).toArray } := Heap.get?_push_size _ rfl
    have sz2 : (h2.push { cls := .type "tuple", data := .seq (colZ rr i ls.length).toArray }).objs.size = h2.objs.size + 1 := Heap.size_push ..
    rw [sz] at nw sz2 ⊢
    exact hQ _ ⟨fun j l hj => by
      have a := zk.it j l hj
      rw [if_pos (List.getElem?_eq_some_iff.mp hj).1] at a
      exact a.at fun o e => Heap.get?_push_of_some _ e, fun c o hc e => Heap.get?_push_of_some _ (zk.keep c o hc e), sz2, nw⟩ (Heap.get?_push_of_some _ hz2)
theorem zi_drop {B n k : Nat} {x : Value × Nat} {rest : List (Value × Nat)} (h : x :: rest = (rfs B n).zipIdx.drop k) : k < n ∧ x = (.ref (B + k), k) ∧ rest = (rfs B n).zipIdx.drop (k + 1) := by
  have ln : (rfs B n).zipIdx.length = n := by rw [List.length_zipIdx, rfs_len]
  have hk : k < n := by
    rcases Nat.lt_or_ge k n with c | c
    · exact c
    · rw [List.drop_of_length_le (by rw [ln]; exact c)] at h
      cases h
  have hk2 : k < (rfs B n).zipIdx.length := by rw [ln]; exact hk
  rw [List.drop_eq_getElem_cons hk2] at h
  injection h with h1 h2
  have g : (rfs B n).zipIdx[k]? = some (.ref (B + k), k) := by
    rw [List.getElem?_zipIdx, rfs_get hk]
    simp
  rw [List.getElem?_eq_getElem hk2] at g
  exact ⟨hk, h1.trans (Option.some.inj g), h2⟩
theorem set_take {vs : List Value} {k : Nat} {x : Value} {cs : List Value} (hk : k < vs.length) (h : vs.take k = cs) : (vs.set k x).take (k + 1) = cs ++ [x] := by
  rw [List.take_add_one, List.take_set_of_le (Nat.le_refl k), h, List.getElem?_set_self hk]
  rfl
theorem zs_first {B i : Nat} {ls : List Addr} {rr : List (Array Value)} {Q : Value → Shared → Prop} (hn : ls.length ≤ 16) (h1 : 1 ≤ ls.length) (Z : ZS s.heap B ls rr i) (hz : ZZ s.heap B ls.length .none false) (hO : ZO s.heap B ls.length) (F : Full ls rr i)
    (hQ : ∀ h', ZN s.heap h' B ls rr i → ZZ h' B ls.length (rawInt s.heap.objs.size) false → Q (.ref s.heap.objs.size) { s with heap := h' }) :
    wpAny (model prog w) A (Builtin.«zip.__next__» ⟨[.ref (B + ls.length + 2)], []⟩) (fun fin s' => ∃ v, fin = .done (.ret v) ∧ Q v s') E s := by
  obtain ⟨vs0, hv0, hTO⟩ := hO
  show wpAny _ _ (field (.ref (B + ls.length + 2)) 2 >>= _) _ _ _
  refine wpAny_bind (wpAny_field hz rfl (x := .bool false) rfl ?_)
  show wpAny _ _ (field (.ref (B + ls.length + 2)) 3 >>= _) _ _ _
  refine wpAny_bind (wpAny_field hz rfl (x := .ref (B + ls.length)) rfl ?_)
  refine wpAny_bind (wpAny_seqItems Z.ti rfl ?_)
  have ne : (rfs B ls.length).toArray.isEmpty = false := by
    unfold Array.isEmpty
    rw [List.size_toArray, rfs_len]
    exact decide_eq_false (by omega)
  simp only [ne, Bool.false_eq_true, if_false]
  refine wpAny_bind ?_
  unfold Builtin.SmallTypes.ownedTupleIsFree
  refine wpAny_bind (wpAny_field hz rfl (x := .none) rfl (wpAny_pure ?_))
  simp only [if_true]
  refine wpAny_bind (wpAny_rule ?_)
  refine wpAny_bind (wpAny_field hz rfl (x := .ref (B + ls.length + 1)) rfl ?_)
  refine wpAny_bind (wpAny_setField_rec hz (by simp) fun h₁ hz₁ hs₁ => ?_)
  replace hz₁ : ZZ h₁ B ls.length .ellipsis false := hz₁
  have Z1 : ZK s.heap h₁ B ls i 0 := ⟨fun j l hj => by
    rw [if_neg (Nat.not_lt_zero j)]
    exact (Z.it j l hj).extBut hs₁.extBut (ne_add (b := ls.length + 2) (by have := (List.getElem?_eq_some_iff.mp hj).1; omega)), fun c o hc e => (hs₁.2 c (hc (ls.length + 2) (by omega) (by omega))).trans e, hs₁.1⟩
  have hTO1 : h₁.get? (B + ls.length + 1) = some { cls := .type "tuple", data := .seq vs0 } := (hs₁.2 _ (ne_add (a := ls.length + 1) (b := ls.length + 2) (by omega))).trans hTO
  refine wpAny_bind ?_
  refine wpAny_forIn_list _ (fun rest b s' => b.1 = none ∧ ∃ k h2, ∃ vs : Array Value, k ≤ ls.length ∧ rest = (rfs B ls.length).zipIdx.drop k ∧ s' = { s with heap := h2 } ∧ ZK s.heap h2 B ls i k ∧ ZZ h2 B ls.length .ellipsis false ∧
    vs.size = ls.length ∧ h2.get? (B + ls.length + 1) = some { cls := .type "tuple", data := .seq vs } ∧ vs.toList.take k = colZ rr i k) _ ?_ ?_ _ _ ⟨rfl, 0, h₁, vs0, Nat.zero_le _, rfl, rfl, Z1, hz₁, hv0, hTO1, rfl⟩
  · rintro x rest b s' ⟨e0, k, h2, vs, lk, er, rfl, zk, hz2, hv, hT2, hc⟩
    obtain ⟨hk, rfl, er2⟩ := zi_drop er
    obtain ⟨xs, x0, hxs, hx0⟩ := F.at hk
    obtain ⟨xs', hxs', ht⟩ := Z.tup k _ (List.getElem?_eq_getElem hk)
    rw [hxs] at hxs'
    cases hxs'
    refine wpAny_bind (wpAny_onRaise ?_)
    show wpAny _ _ (Builtin.SmallTypes.nextOf (.ref (B + k)) >>= _) _ _ _
    refine wpAny_bind (ZK.step (s := { s with heap := h2 }) Z zk (List.getElem?_eq_getElem hk) ht hx0 fun h3 z3 sb3 => wpAny_pure ?_)
    have hT3 : h3.get? (B + ls.length + 1) = some { cls := .type "tuple", data := .seq vs } := (sb3.2 _ (ne_add (a := ls.length + 1) (by omega))).trans hT2
    have hz3 : ZZ h3 B ls.length .ellipsis false := (sb3.2 _ (ne_add (a := ls.length + 2) (by omega))).trans hz2
    refine wpAny_bind (wpAny_seqItems hT3 rfl ?_)
    have sb4 : Heap.SameBut (B + ls.length + 1) h3 (h3.update (B + ls.length + 1) (Obj.mapSeq (·.setIfInBounds k x0))) := Heap.SameBut.update ..
    have hT4 : (h3.update (B + ls.length + 1) (Obj.mapSeq (·.setIfInBounds k x0))).get? (B + ls.length + 1) = some { cls := .type "tuple", data := .seq (vs.setIfInBounds k x0) } := by
      rw [Heap.get?_update_self _ hT3 rfl]
      simp [Obj.mapSeq]
    refine wpAny_bind (wpAny_updateSeq hT3 rfl ?_)
    refine wpAny_bind (wpAny_letGo (wpAny_pure ⟨rfl, k + 1, _, vs.setIfInBounds k x0, hk, er2, rfl, ⟨fun j l hj => (z3.it j l hj).extBut sb4.extBut (ne_add (b := ls.length + 1) (by have := (List.getElem?_eq_some_iff.mp hj).1; omega)),
      fun c o hc e => (sb4.2 c (hc (ls.length + 1) (by omega) (by omega))).trans (z3.keep c o hc e), sb4.1.trans z3.sz⟩, (sb4.2 _ (ne_add (a := ls.length + 2) (b := ls.length + 1) (by omega))).trans hz3, by rw [Array.size_setIfInBounds]; exact hv, hT4, ?_⟩))
    rw [Array.toList_setIfInBounds, colZ_succ hxs hx0]
    exact set_take (by rw [Array.length_toList, hv]; exact hk) hc
  · rintro b s' ⟨e0, k, h2, vs, lk, er, rfl, zk, hz2, hv, hT2, hc⟩
    have hk : k = ls.length := by
      rcases Nat.lt_or_ge k ls.length with c | c
      · have hk2 : k < (rfs B ls.length).zipIdx.length := by rw [List.length_zipIdx, rfs_len]; exact c
        rw [List.drop_eq_getElem_cons hk2] at er
        cases er
      · omega
    subst hk
    obtain ⟨b1, b2⟩ := b
    have e0' : b1 = none := e0
    subst e0'
    have eb' : vs.toList = colZ rr i ls.length := (List.take_of_length_le (by rw [Array.length_toList, hv]; exact Nat.le_refl _)).symm.trans hc
    show wpAny _ _ (seqItems? (.ref (B + ls.length + 1)) >>= _) _ _ _
    refine wpAny_bind (wpAny_seqItems hT2 rfl ?_)
    show wpAny _ _ (newTuple vs.toList >>= _) _ _ _
    rw [eb']
    refine wpAny_bind (wpAny_newTuple ?_ (hsz := colZ_fit hn))
    show wpAny _ _ (Builtin.SmallTypes.ownedTupleHandOut (.ref (B + ls.length + 2)) (.ref h2.objs.size) >>= _) _ _ _
    refine wpAny_bind ?_
    unfold Builtin.SmallTypes.ownedTupleHandOut
    have hz₆ : ZZ (h2.push { cls := .type "tuple", data := .seq (colZ rr i ls.length).toArray }) B ls.length .ellipsis false := Heap.get?_push_of_some _ hz2
    refine wpAny_bind (wpAny_setField_rec hz₆ (by simp) fun h₇ hz₇ hs₇ => ?_)
    replace hz₇ : ZZ h₇ B ls.length (rawInt h2.objs.size) false := hz₇
    refine wpAny_setField_rec hz₇ (by simp) fun h₈ hz₈ hs₈ => ?_
    replace hz₈ : ZZ h₈ B ls.length (rawInt h2.objs.size) false := hz₈
    have hzlt : B + ls.length + 2 < h2.objs.size := Heap.lt_size hz2
    have up : ∀ c o, c ≠ B + ls.length + 2 → h2.get? c = some o → h₈.get? c = some o := fun c o c1 e => (hs₈.2 c c1).trans ((hs₇.2 c c1).trans (Heap.get?_push_of_some _ e))
    have nw : h₈.get? h2.objs.size = some { cls := .type "tuple", data := .seq (colZ rr i ls.length).toArray } := (hs₈.2 _ (Nat.ne_of_gt hzlt)).trans ((hs₇.2 _ (Nat.ne_of_gt hzlt)).trans (Heap.get?_push_size _ rfl))
    have sz2 : h₈.objs.size = h2.objs.size + 1 := by rw [hs₈.1, hs₇.1, Heap.size_push]
    have sz := zk.sz
    rw [sz] at hz₈ nw sz2
    refine wpAny_pure ⟨_, rfl, ?_⟩
    show Q (.ref h2.objs.size) _
    rw [sz]
    refine hQ h₈ ⟨fun j l hj => ?_, fun c o hc e => up c o (hc (ls.length + 2) (by omega) (by omega)) (zk.keep c o hc e), sz2, nw⟩ hz₈
    have a := zk.it j l hj
    rw [if_pos (List.getElem?_eq_some_iff.mp hj).1] at a
    exact a.at fun o e => up _ o (ne_add (a := j) (b := ls.length + 2) (by have := (List.getElem?_eq_some_iff.mp hj).1; omega)) e
theorem zs_end {B i : Nat} {ls : List Addr} {rr : List (Array Value)} {T : Addr} {oT : Obj} {f : Bool} {Q : Fin → Shared → Prop} (hh : A.handled = none) (h1 : 1 ≤ ls.length) (Z : ZS s.heap B ls rr i) (hz : ZZ s.heap B ls.length (rawInt T) f) (hT : s.heap.get? T = some oT) (hm : ∀ xs ∈ rr, xs.size = i)
    (hE : ∀ h' e, (∀ c o, (∀ j, j < ls.length + 3 → j ≠ ls.length → c ≠ B + j) → s.heap.get? c = some o → h'.get? c = some o) → (∃ o, h'.get? e = some o ∧ o.cls = .type "StopIteration") → E (.ref e) { s with heap := h' }) :
    wpAny (model prog w) A (Builtin.«zip.__next__» ⟨[.ref (B + ls.length + 2)], []⟩) Q E s := by
  show wpAny _ _ (field (.ref (B + ls.length + 2)) 2 >>= _) _ _ _
  refine wpAny_bind (wpAny_field hz rfl (x := .bool false) rfl ?_)
  show wpAny _ _ (field (.ref (B + ls.length + 2)) 3 >>= _) _ _ _
  refine wpAny_bind (wpAny_field hz rfl (x := .ref (B + ls.length)) rfl ?_)
  refine wpAny_bind (wpAny_seqItems Z.ti rfl ?_)
  have ne : (rfs B ls.length).toArray.isEmpty = false := by
    unfold Array.isEmpty
    rw [List.size_toArray, rfs_len]
    exact decide_eq_false (by omega)
  simp only [ne, Bool.false_eq_true, if_false]
  refine wpAny_bind (wpAny_tupleHeld_zip hz hT fun h₁ hz₁ hs₁ => ?_)
  simp only [Bool.false_eq_true, if_false]
  obtain ⟨l, ls', rfl⟩ : ∃ l ls', ls = l :: ls' := by
    cases ls with
    | nil => exact absurd h1 (by simp)
    | cons a b => exact ⟨a, b, rfl⟩
  obtain ⟨xs, hxs, ht⟩ := Z.tup 0 l rfl
  have hx0 : xs[i]? = none := by
    have := hm xs (List.mem_of_getElem? hxs)
    exact Array.getElem?_eq_none (by omega)
  have e1 : rfs B (l :: ls').length = .ref (B + 0) :: (rfs B (l :: ls').length).drop 1 := by
    have g := rfs_get (B := B) (n := (l :: ls').length) (k := 0) (by simp)
    cases q : rfs B (l :: ls').length with
    | nil => rw [q] at g; cases g
    | cons a b =>
      rw [q] at g
      cases g
      rfl
  refine wpAny_bind ?_
  rw [← Array.forIn_toList]
  show wpAny _ _ (forIn (rfs B (l :: ls').length) _ _) _ _ _
  rw [e1, List.forIn_cons]
  refine wpAny_bind (wpAny_bind (wpAny_holding ?_))
  show wpAny _ _ (Builtin.SmallTypes.nextOf (.ref (B + 0)) >>= _) _ _ _
  have lB := Z.lt l List.mem_cons_self
  refine wpAny_bind (RZ.nextOf_tuple_end (s := { s with heap := h₁ }) hh ((Z.it 0 l rfl).extBut hs₁.extBut (ne_add (a := 0) (b := (l :: ls').length + 2) (by omega))) (ht.at fun o e => (hs₁.2 l (fun q => by
    rw [q] at lB
    exact absurd lB (Nat.not_lt.mpr (by rw [Nat.add_assoc]; exact Nat.le_add_right _ _)))).trans e) hx0 fun h₂ e hs₂ he => ?_)
  exact hE h₂ e (fun c o hc x => hs₂ _ _ (hc 0 (by omega) (by simp)) ((hs₁.2 c (hc ((l :: ls').length + 2) (by omega) (by omega))).trans x)) he
/-! ### next, as it is called -/
theorem zs_ty {B n : Nat} {f0 : Value} {f : Bool} (hz : ZZ s.heap B n f0 f) : s.TypeIs (.ref (B + n + 2)) "zip" := ⟨_, hz, rfl⟩
/-- a zip's state between two turns -/
def ZL (h : Heap) (B : Nat) (ls : List Addr) (rr : List (Array Value)) (i : Nat) : Prop := ZS h B ls rr i ∧ ((i = 0 ∧ ZZ h B ls.length .none false ∧ ZO h B ls.length) ∨ (0 < i ∧ ∃ (T : Addr) (oT : Obj) (f : Bool), ZZ h B ls.length (rawInt T) f ∧ h.get? T = some oT ∧ B + ls.length + 2 < T))
theorem ZL.ty {B i : Nat} {ls : List Addr} {rr : List (Array Value)} (z : ZL s.heap B ls rr i) : s.TypeIs (.ref (B + ls.length + 2)) "zip" := by
  rcases z.2 with ⟨_, a, _⟩ | ⟨_, T, oT, f, a, _⟩
  · exact zs_ty a
  · exact zs_ty a
theorem gt_cells {B n c : Nat} (h : B + n + 2 < c) : ∀ j, j < n + 3 → j ≠ n → c ≠ B + j := fun j a b => by omega
theorem zs_item {B i : Nat} {ls : List Addr} {rr : List (Array Value)} {Q : Option Value → Shared → Prop} (hn : ls.length ≤ 16) (h1 : 1 ≤ ls.length) (z : ZL s.heap B ls rr i) (FU : Full ls rr i)
    (hQ : ∀ h', ZN s.heap h' B ls rr i → ZL h' B ls rr (i + 1) → Q (some (.ref s.heap.objs.size)) { s with heap := h' }) : wpAny (model prog w) A (pyNext (.ref (B + ls.length + 2))) Q E s := by
  have hT := z.ty
  unfold pyNext
  refine wpAny_bind (wpAny_attempt (wpAny_callSpecial?_slot (name := Str.ofString "__next__") hT F.slot_zip_next (wpAny_call_entry F.slot_zip_next hT F.entry_zip_next ?_ (F.args_zip_next_1 _))))
  rcases z with ⟨Z, ⟨e, a, b⟩ | ⟨e, T, oT, f, a, b, c⟩⟩
  · exact zs_first hn h1 Z a b FU fun h' n zz => wpAny_pure (hQ h' n ⟨n.cell Z, .inr ⟨Nat.succ_pos _, _, _, _, zz, n.new, Heap.lt_size a⟩⟩)
  · exact zs_held hn h1 Z a b FU fun h' n zz => wpAny_pure (hQ h' n ⟨n.cell Z, .inr ⟨Nat.succ_pos _, T, oT, _, zz, n.keep T oT (gt_cells c) b, c⟩⟩)
theorem zs_done {B i : Nat} {ls : List Addr} {rr : List (Array Value)} {Q : Option Value → Shared → Prop} (hh : A.handled = none) (h1 : 1 ≤ ls.length) (hi : 0 < i) (z : ZL s.heap B ls rr i) (hm : ∀ xs ∈ rr, xs.size = i)
    (hQ : ∀ h', (∀ c o, (∀ j, j < ls.length + 3 → j ≠ ls.length → c ≠ B + j) → s.heap.get? c = some o → h'.get? c = some o) → Q none { s with heap := h' }) : wpAny (model prog w) A (pyNext (.ref (B + ls.length + 2))) Q E s := by
  have hT := z.ty
  unfold pyNext
  rcases z with ⟨Z, ⟨e, a, b⟩ | ⟨e, T, oT, f, a, b, c⟩⟩
  · exact absurd e (Nat.ne_of_gt hi)
  refine wpAny_bind (wpAny_attempt (wpAny_callSpecial?_slot (name := Str.ofString "__next__") hT F.slot_zip_next (wpAny_call_entry F.slot_zip_next hT F.entry_zip_next (zs_end hh h1 Z a b hm fun h' e hk he => ?_) (F.args_zip_next_1 _))))
  obtain ⟨o, ho, hc⟩ := he
  refine wpAny_bind (wpAny_isInstance (T := "StopIteration") (b := true) ⟨o, ho, hc⟩ isSubtype_stop ?_)
  exact wpAny_pure (hQ _ hk)
theorem zs_self {B i : Nat} {ls : List Addr} {rr : List (Array Value)} {Q : Value → Shared → Prop} (z : ZL s.heap B ls rr i) (h : Q (.ref (B + ls.length + 2)) s) : wpAny (model prog w) A (pyIter (.ref (B + ls.length + 2))) Q E s := by
  have hT := z.ty
  refine wpAny_pyIter_slot hT F.slot_zip_iter (wpAny_call_entry F.slot_zip_iter hT F.entry_zip_iter ?_ (F.args_zip_iter_1 _))
  show wpAny _ _ (ret (.ref (B + ls.length + 2))) _ _ s
  exact wpAny_pure ⟨_, rfl, "zip", _, hT, F.slot_zip_next.lookup, h⟩
end
/-! ### the list of it -/
def tupO (vs : List Value) : Obj := { cls := .type "tuple", data := .seq vs.toArray }
/-- the tuples that are made so far, in the list at S -/
def Got (h : Heap) (S : Addr) (rr : List (Array Value)) (n : Nat) (ts : List Addr) : Prop := ts.Nodup ∧ ∀ (j : Nat) (t : Addr), ts[j]? = some t → S < t ∧ h.get? t = some (tupO (colZ rr j n))
section
variable {prog : Program} {w : World} {A : Around} {R : Result → Shared → Prop}
theorem ZL.over {h h' : Heap} {B S i : Nat} {ls : List Addr} {rr : List (Array Value)} (z : ZL h B ls rr i) (hS : B + ls.length + 2 < S) (hk : ∀ c o, c ≠ S → h.get? c = some o → h'.get? c = some o) (hT : ∀ T oT, h.get? T = some oT → B + ls.length + 2 < T → ∃ o, h'.get? T = some o) : ZL h' B ls rr i := by
  have ne : ∀ c, c ≤ B + ls.length + 2 → c ≠ S := fun c hc e => by omega
  obtain ⟨Z, z2⟩ := z
  refine ⟨⟨Z.lt, fun j l hj => (Z.it j l hj).at fun o e => hk _ o (ne _ (by have := (List.getElem?_eq_some_iff.mp hj).1; omega)) e, fun j l hj => ?_, hk _ _ (ne _ (by omega)) Z.ti⟩, ?_⟩
  · obtain ⟨xs, e, t⟩ := Z.tup j l hj
    have lB := Z.lt l (List.mem_of_getElem? hj)
    exact ⟨xs, e, t.at fun o q => hk l o (ne l (Nat.le_of_lt (Nat.lt_of_lt_of_le lB (by rw [Nat.add_assoc]; exact Nat.le_add_right _ _)))) q⟩
  · rcases z2 with ⟨e, a, vs, b, c⟩ | ⟨e, T, oT, f, a, b, c⟩
    · exact .inl ⟨e, hk _ _ (ne _ (Nat.le_refl _)) a, vs, b, hk _ _ (ne _ (by omega)) c⟩
    · obtain ⟨o, q⟩ := hT T oT b c
      exact .inr ⟨e, T, o, f, hk _ _ (ne _ (Nat.le_refl _)) a, q, c⟩
theorem zs_loop {B m : Nat} {ls : List Addr} {rr : List (Array Value)} {s0 : Heap} {S : Addr} (hh : A.handled = none) (hn : ls.length ≤ 16) (h1 : 1 ≤ ls.length) (hm1 : 0 < m) (hm2 : m ≤ 1000) (hl : rr.length = ls.length) (hm : ∀ xs ∈ rr, xs.size = m) (hS : B + ls.length + 2 < S) (res : Value) :
    ∀ (k i : Nat) (s : Shared) (acc : Array Value) (c : Nat) (ts : List Addr), m - i = k → i ≤ m → ZL s.heap B ls rr i → s.heap.get? S = some { cls := .type "list", dict := none, data := .seq acc c, slots := #[] } → S < s.heap.objs.size → acc.toList = ts.map Value.ref → ts.length = i → Got s.heap S rr ls.length ts →
    (∀ c o, c < B → s0.get? c = some o → s.heap.get? c = some o) →
    (∀ h' acc' c' ts', (∀ c o, c < B → s0.get? c = some o → h'.get? c = some o) → h'.get? S = some { cls := .type "list", dict := none, data := .seq acc' c', slots := #[] } → acc'.toList = ts'.map Value.ref → ts'.length = m → Got h' S rr ls.length ts' → R (.ok (.ret res)) { s with heap := h' }) →
    codeAny (model prog w) A (.builtin "list.extend.loop" ⟨[.ref S, .ref (B + ls.length + 2), res], []⟩) R s := by
  have sl : sizeLine = 16777216 := sizeLine_eq
  intro k
  induction k with
  | zero =>
    intro i s acc c ts hk hi hz hSl hlt hacc hts hg hkeep hR
    have him : i = m := by omega
    subst him
    refine codeAny_builtin F.entry_extend_loop ?_
    rw [Around.under_plainId F.plain_extend_loop _]
    show wpAny _ A.in1 (pyNext (.ref (B + ls.length + 2)) >>= _) _ _ s
    refine wpAny_bind (zs_done (A := A.in1) hh h1 hm1 hz hm fun h' kp => ?_)
    exact wpAny_pure (hR h' acc c ts (fun c o hc e => kp c o (fun j _ _ q => by rw [q] at hc; exact absurd hc (Nat.not_lt.mpr (Nat.le_add_right _ _))) (hkeep c o hc e)) (kp S _ (gt_cells hS) hSl) hacc hts
      ⟨hg.1, fun j t e => ⟨(hg.2 j t e).1, kp t _ (gt_cells (Nat.lt_trans hS (hg.2 j t e).1)) (hg.2 j t e).2⟩⟩)
  | succ k ih =>
    intro i s acc c ts hk hi hz hSl hlt hacc hts hg hkeep hR
    have him : i < m := by omega
    have fu : Full ls rr i := ⟨hl, fun xs hx => by rw [hm xs hx]; exact him⟩
    refine codeAny_builtin F.entry_extend_loop ?_
    rw [Around.under_plainId F.plain_extend_loop _]
    show wpAny _ A.in1 (pyNext (.ref (B + ls.length + 2)) >>= _) _ _ s
    refine wpAny_bind (zs_item (A := A.in1) hn h1 hz fu fun h' nx z' => ?_)
    have hS' := nx.keep S _ (gt_cells hS) hSl
    show wpAny _ A.in1 (updateSeq S (·.push (.ref s.heap.objs.size)) >>= _) _ _ _
    refine wpAny_bind ?_
    have sb : Heap.SameBut S h' (h'.update S (Obj.mapSeq (·.push (Value.ref s.heap.objs.size)))) := Heap.SameBut.update ..
    have asz : acc.size = i := by rw [← Array.length_toList, hacc, List.length_map, hts]
    refine wpAny_updateSeq hS' rfl (wpAny_pure ⟨plainId_quiet F.plain_extend_loop _, ih (i + 1) { s with heap := h'.update S (Obj.mapSeq (·.push (Value.ref s.heap.objs.size))) } (acc.push (.ref s.heap.objs.size)) _ (ts ++ [s.heap.objs.size]) (by omega) him ?_ (Heap.get?_update_self _ hS' rfl) ?_ ?_ ?_ ?_ ?_ fun h2 acc' c' ts' q1 q2 q3 q4 q5 => hR h2 acc' c' ts' q1 q2 q3 q4 q5⟩)
      (by rw [asz]; omega) (by show (acc.push _).size ≤ sizeLine + 1; rw [Array.size_push, asz]; omega)
    · refine z'.over hS (fun c o hc e => (sb.2 c hc).trans e) fun T oT e hT => ?_
      by_cases q : T = S
      · rw [q]
        exact ⟨_, Heap.get?_update_self _ hS' rfl⟩
      · exact ⟨oT, (sb.2 T q).trans e⟩
    · show S < (h'.update S _).objs.size
      rw [sb.1, nx.sz]
      exact Nat.lt_succ_of_lt hlt
    · rw [Array.toList_push, hacc, List.map_append]
      rfl
    · rw [List.length_append, hts]
      rfl
    · refine ⟨List.nodup_append.mpr ⟨hg.1, by simp, fun a ha b hb e => ?_⟩, fun j t e => ?_⟩
      · obtain ⟨j, hj⟩ := List.mem_iff_getElem?.mp ha
        have q := Heap.lt_size (hg.2 j a hj).2
        rw [e, List.mem_singleton.mp hb] at q
        exact Nat.lt_irrefl _ q
      rcases Nat.lt_or_ge j ts.length with hj | hj
      · rw [List.getElem?_append_left hj] at e
        obtain ⟨a, b⟩ := hg.2 j t e
        exact ⟨a, (sb.2 t (Nat.ne_of_gt a)).trans (nx.keep t _ (gt_cells (Nat.lt_trans hS a)) b)⟩
      · rw [List.getElem?_append_right hj] at e
        have hj0 : j - ts.length = 0 := by
          rcases Nat.eq_zero_or_pos (j - ts.length) with q | q
          · exact q
          · rw [List.getElem?_eq_none (by simp; omega)] at e
            cases e
        rw [hj0] at e
        cases e
        have hji : j = i := by omega
        subst hji
        exact ⟨hlt, (sb.2 _ (Nat.ne_of_gt hlt)).trans nx.new⟩
    · intro c o hc e
      have c1 : c ≠ S := fun q => by
        rw [q] at hc
        exact absurd (Nat.lt_trans hc (Nat.lt_of_le_of_lt (by rw [Nat.add_assoc]; exact Nat.le_add_right B _) hS)) (Nat.lt_irrefl S)
      exact (sb.2 c c1).trans (nx.keep c o (fun j _ _ q => by rw [q] at hc; exact absurd hc (Nat.not_lt.mpr (Nat.le_add_right _ _))) (hkeep c o hc e))
section
variable {s : Shared} {E : Value → Shared → Prop}
theorem zs_extend {B m : Nat} {ls : List Addr} {rr : List (Array Value)} {S : Addr} (hh : A.handled = none) (hn : ls.length ≤ 16) (h1 : 1 ≤ ls.length) (hm1 : 0 < m) (hm2 : m ≤ 1000) (hl : rr.length = ls.length) (hm : ∀ xs ∈ rr, xs.size = m) (hS : B + ls.length + 2 < S) (res : Value)
    (hz : ZL s.heap B ls rr 0) (hSl : s.heap.get? S = some { cls := .type "list", data := .seq #[] })
    (hR : ∀ h' acc' c' ts', (∀ c o, c < B → s.heap.get? c = some o → h'.get? c = some o) → h'.get? S = some { cls := .type "list", dict := none, data := .seq acc' c', slots := #[] } → acc'.toList = ts'.map Value.ref → ts'.length = m → Got h' S rr ls.length ts' → R (.ok (.ret res)) { s with heap := h' }) :
    wpAny (model prog w) A.in1 (Builtin.List.listExtendWith (.ref S) (.ref (B + ls.length + 2)) res)
      (fun fin s' => match fin with | .done f => R (.ok f) s' | .again c' => c'.quiet = true ∧ codeAny (model prog w) A c' R s') (fun e s' => R (.error e) s') s := by
  have hSI : S ≠ B + ls.length + 2 := Nat.ne_of_gt hS
  have hT := hz.ty
  unfold Builtin.List.listExtendWith
  refine wpAny_bind (wpAny_typeOf hT ?_)
  have h1' : Builtin.List.listSameRef (.ref S) (.ref (B + ls.length + 2)) = false := by simp [Builtin.List.listSameRef, hSI]
  have h2 : (Value.type "zip" == Value.type "list") = false := by decide
  have h3 : (Value.type "zip" == Value.type "tuple") = false := by decide
  simp only [h1', h2, h3, Bool.or_false, Bool.false_eq_true, if_false]
  refine wpAny_bind (zs_self hz ?_)
  refine wpAny_bind (wpAny_holding ?_)
  unfold Builtin.List.listLengthHint
  refine wpAny_bind (wpAny_specialOf hT zip_no_len ?_)
  show wpAny _ A.in1 (specialOf (Value.ref (B + ls.length + 2)) (Str.ofString "__length_hint__") >>= _) _ _ _
  refine wpAny_bind (wpAny_specialOf hT zip_no_hint ?_)
  refine wpAny_pure ?_
  show wpAny _ A.in1 (rule "list.extend.makes-room" >>= fun _ => Builtin.List.listTouch (.ref S) >>= fun _ =>
    again (.builtin "list.extend.loop" ⟨[.ref S, .ref (B + ls.length + 2), res], []⟩)) _ _ _
  refine wpAny_bind (wpAny_rule ?_)
  refine wpAny_bind ?_
  show wpAny _ A.in1 (updateSeq S (·.push .none) >>= fun _ => updateSeq S (·.pop)) _ _ _
  refine wpAny_bind (wpAny_updateSeq hSl rfl ?_)
  have hS₂ := Heap.get?_update_self (Obj.mapSeq (·.push Value.none)) hSl rfl
  refine wpAny_updateSeq (hz := by seq_fits) hS₂ rfl ?_
  have hS₃ := Heap.get?_update_self (Obj.mapSeq (·.pop)) hS₂ rfl
  have oth : ∀ b o, b ≠ S → s.heap.get? b = some o → ((s.heap.update S (Obj.mapSeq (·.push Value.none))).update S (Obj.mapSeq (·.pop))).get? b = some o :=
    fun b o hb e => (Heap.get?_update_other _ _ (Ne.symm hb)).trans ((Heap.get?_update_other _ _ (Ne.symm hb)).trans e)
  refine wpAny_pure ⟨plainId_quiet F.plain_extend_loop _, zs_loop (s0 := s.heap) hh hn h1 hm1 hm2 hl hm hS res m 0 _ _ _ [] (Nat.sub_zero m) (Nat.zero_le _) (hz.over hS oth fun T oT e hT => ?_) hS₃ (Heap.lt_size hS₃) rfl rfl ⟨List.nodup_nil, fun j t e => by simp at e⟩ (fun c o hc e => oth c o (fun q => by
    rw [q] at hc
    exact absurd (Nat.lt_trans hc (Nat.lt_of_le_of_lt (by rw [Nat.add_assoc]; exact Nat.le_add_right B _) hS)) (Nat.lt_irrefl S)) e) hR⟩
  by_cases q : T = S
  · rw [q]
    exact ⟨_, hS₃⟩
  · exact ⟨oT, oth T oT q e⟩
theorem zs_listinit {B m : Nat} {ls : List Addr} {rr : List (Array Value)} {S : Addr} (hh : A.handled = none) (hn : ls.length ≤ 16) (h1 : 1 ≤ ls.length) (hm1 : 0 < m) (hm2 : m ≤ 1000) (hl : rr.length = ls.length) (hm : ∀ xs ∈ rr, xs.size = m) (hS : B + ls.length + 2 < S)
    (hz : ZL s.heap B ls rr 0) (hSl : s.heap.get? S = some { cls := .type "list", data := .seq #[] })
    (hR : ∀ h' acc' c' ts', (∀ c o, c < B → s.heap.get? c = some o → h'.get? c = some o) → h'.get? S = some { cls := .type "list", dict := none, data := .seq acc' c', slots := #[] } → acc'.toList = ts'.map Value.ref → ts'.length = m → Got h' S rr ls.length ts' → R (.ok (.ret .none)) { s with heap := h' }) :
    wpAny (model prog w) A.in1 (Builtin.«list.__init__» ⟨[.ref S, .ref (B + ls.length + 2)], []⟩)
      (fun fin s' => match fin with | .done f => R (.ok f) s' | .again c' => c'.quiet = true ∧ codeAny (model prog w) A c' R s') (fun e s' => R (.error e) s') s := by
  show wpAny _ A.in1 (do let old ← Builtin.List.listItems (.ref S); Builtin.List.listUpdate (.ref S) (fun _ => #[]); letGo old.toList.reverse; Builtin.List.listExtendWith (.ref S) (.ref (B + ls.length + 2)) .none) _ _ s
  refine wpAny_bind ?_
  unfold Builtin.List.listItems
  refine wpAny_bind (wpAny_seqItems hSl rfl (wpAny_pure ?_))
  show wpAny _ A.in1 (updateSeq S (fun _ => #[]) >>= fun _ => letGo (#[] : Array Value).toList.reverse >>= fun _ => Builtin.List.listExtendWith (.ref S) (.ref (B + ls.length + 2)) .none) _ _ s
  refine wpAny_bind (wpAny_updateSeq hSl rfl ?_)
  have hS₂ := Heap.get?_update_self (Obj.mapSeq (fun _ => (#[] : Array Value))) hSl rfl
  have oth : ∀ b o, b ≠ S → s.heap.get? b = some o → (s.heap.update S (Obj.mapSeq (fun _ => (#[] : Array Value)))).get? b = some o :=
    fun b o hb e => (Heap.get?_update_other _ _ (Ne.symm hb)).trans e
  refine wpAny_bind (wpAny_letGo ?_)
  refine zs_extend (s := { s with heap := s.heap.update S (Obj.mapSeq (fun _ => (#[] : Array Value))) }) hh hn h1 hm1 hm2 hl hm hS .none (hz.over hS oth fun T oT e hT => ?_) hS₂ fun h' acc' c' ts' q1 q2 q3 q4 q5 => hR h' acc' c' ts' (fun c o hc e => q1 c o hc (oth c o (fun q => by
    rw [q] at hc
    exact absurd (Nat.lt_trans hc (Nat.lt_of_le_of_lt (by rw [Nat.add_assoc]; exact Nat.le_add_right B _) hS)) (Nat.lt_irrefl S)) e)) q2 q3 q4 q5
  by_cases q : T = S
  · rw [q]
    exact ⟨_, hS₂⟩
  · exact ⟨oT, oth T oT q e⟩
end
end
theorem call_list_zs {prog : Program} {w : World} {A : Around} {E : Value → Shared → Prop} {s : Shared} {B m : Nat} {ls : List Addr} {rr : List (Array Value)} {Q : Value → Shared → Prop} (hh : A.handled = none) (hn : ls.length ≤ 16) (h1 : 1 ≤ ls.length) (hm1 : 0 < m) (hm2 : m ≤ 1000) (hl : rr.length = ls.length) (hm : ∀ xs ∈ rr, xs.size = m)
    (hz : ZL s.heap B ls rr 0)
    (hQ : ∀ h' acc' c' ts', (∀ c o, c < B → s.heap.get? c = some o → h'.get? c = some o) → h'.get? s.heap.objs.size = some { cls := .type "list", dict := none, data := .seq acc' c', slots := #[] } → acc'.toList = ts'.map Value.ref → ts'.length = m → Got h' s.heap.objs.size rr ls.length ts' → Q (.ref s.heap.objs.size) { s with heap := h' }) :
    wpAny (model prog w) A (call (.type "list") [.ref (B + ls.length + 2)]) Q E s := by
  have hS : B + ls.length + 2 < s.heap.objs.size := by
    obtain ⟨o, e, _⟩ := hz.ty
    exact Heap.lt_size e
  refine callType_codes (Q₁ := fun obj s₁ => obj = .ref s.heap.objs.size ∧ s₁ = { s with heap := s.heap.push { cls := .type "list", data := .seq #[] } }) F.called_list (F.typeCall_list_1 _) F.entry_list_init
    (code_list_new _ ⟨rfl, rfl⟩) fun obj s₁ h₁ => ?_
  obtain ⟨rfl, rfl⟩ := h₁
  have hSl : (s.heap.push { cls := .type "list", data := .seq #[] }).get? s.heap.objs.size = some { cls := .type "list", data := .seq #[] } := Heap.get?_push_size _ rfl
  refine ⟨⟨_, hSl, rfl⟩, F.args_list_init_2 _ _, zs_listinit (A := A.in1) hh hn h1 hm1 hm2 hl hm hS (hz.over hS (fun c o _ e => Heap.get?_push_of_some _ e) fun T oT e _ => ⟨oT, Heap.get?_push_of_some _ e⟩) hSl fun h' acc' c' ts' q1 q2 q3 q4 q5 => ?_⟩
  exact ⟨rfl, hQ h' acc' c' ts' (fun c o hc e => q1 c o hc (Heap.get?_push_of_some _ e)) q2 q3 q4 q5⟩
/-! ## the reading -/
theorem callWith_typeS {M : Model} {A : Around} {E : Value → Shared → Prop} {s : Shared} {env : Env} {pos p : Pos} {T : String} {e : Expr} {Q : Value → Shared → Prop}
    (h : wpAny M A (eval e env) (fun v s₁ => PySem.W.StarOf M A E v (fun vs s₂ => wpAny M A (call (.type T) vs) Q E s₂) s₁) E s) :
    wpAny M A (callWith pos (.type T) [] (backTo pos (starEach [.Starred e p] env)) []) Q E s := by
  refine PySem.W.ks_call (P := fun _ => True) rfl (fun h _ => ⟨Keeper.machine, .inr (.inl rfl), PySem.W.Looks.of_pure rfl⟩) ?_
  refine PySem.W.ks_lone (wpAny_mono h (fun v s₁ h₁ => ?_) fun _ _ x => x)
  unfold PySem.W.StarOf at h₁ ⊢
  exact wpAny_mono h₁ (fun b s₂ h₂ => ⟨h₂.1, wpAny_mono h₂.2 (fun vs s₃ h₃ => ⟨True.intro, h₃⟩) fun _ _ x => x⟩) fun _ _ x => x
/-- several new objects at once -/
def layH (ps : List (Addr × HO)) (H : Hp) : Hp := fun b => match ps.lookup b with
  | some o => some o
  | none => H b
theorem layH_old {ps : List (Addr × HO)} {H : Hp} (hf : ∀ p ∈ ps, H p.1 = none) {b : Addr} {o : HO} (e : H b = some o) : layH ps H b = some o := by
  unfold layH
  cases q : ps.lookup b with
  | none => exact e
  | some u =>
    have := hf (b, u) (lookup_memA q)
    rw [this] at e
    cases e
where
  lookup_memA {b : Addr} {u : HO} : ∀ {l : List (Addr × HO)}, l.lookup b = some u → (b, u) ∈ l
    | [], h => by cases h
    | (y, v) :: r, h => by
      rw [List.lookup_cons] at h
      cases c : b == y with
      | true =>
        rw [c] at h
        have e := beq_iff_eq.mp c
        subst e
        cases h
        exact List.mem_cons_self
      | false =>
        rw [c] at h
        exact List.mem_cons_of_mem _ (lookup_memA h)
theorem Inv.lays {X : Cx} {pins : List (Addr × Obj)} {σ : L2.St} {H : Hp} {s : Shared} {h' : Heap} {t' : Nat} {ps : List (Addr × HO)} (I : Inv X pins σ H s) (k : ∀ b u, s.heap.get? b = some u → h'.get? b = some u) (hf : ∀ p ∈ ps, s.heap.objs.size ≤ p.1)
    (new : ∀ b o, ps.lookup b = some o → ObjOk X.prog X.w (layH ps H) h' b o) : Inv X pins σ (layH ps H) { s with heap := h', toks := t' } := by
  have fr : ∀ p ∈ ps, H p.1 = none := fun p hp => I.hok.fresh (hf p hp)
  have old : ∀ {b : Addr} {o : HO}, H b = some o → layH ps H b = some o := fun e => layH_old fr e
  refine I.un ⟨fun b o e _ _ _ => k b o e, fun b o e _ _ _ => ⟨o.slots, k b o e⟩, fun b o e n _ => ?_, fun b o e _ => ⟨o, k b o e⟩, fun b xs e => old e, fun b o u e => old e, fun b ps' e => ⟨#[], by rw [old e]; simp⟩⟩ fun b u e => ?_
  · unfold layH
    cases q : ps.lookup b with
    | none => exact n
    | some u => exact absurd (Heap.lt_size e) (Nat.not_lt.mpr (hf (b, u) (layH_old.lookup_memA q)))
  · have e' := e
    unfold layH at e'
    cases q : ps.lookup b with
    | none =>
      rw [q] at e'
      exact (I.hok b u e').stay (fun c v _ z => k c v z) (fun c z => old z) fun c xs z => old z
    | some o =>
      rw [q] at e'
      cases e'
      exact new b _ q
/-- column i of rows -/
def colV (rr : List (List V)) (i : Nat) : List V := rr.map fun xs => xs.getD i .non
def tZip (K : PySem.W.Frag) (te : TE) : TE := fun σ H Q => te σ H fun x H1 => ∃ (a : Addr) (rows : List Addr) (rr : List (List V)) (m : Nat), x = .ref a ∧ SqT K H1 a (rows.map V.ref) ∧ rr.length = rows.length ∧ 1 ≤ rows.length ∧ rows.length ≤ 16 ∧ 0 < m ∧ m ≤ 1000 ∧
  (∀ (j : Nat) (b : Addr) (xs : List V), rows[j]? = some b → rr[j]? = some xs → SqT K H1 b xs ∧ xs.length = m) ∧
  ∀ (ts : List Addr) (l : Addr) (H2 : Hp), ts.length = m → H1 l = none → (∀ t ∈ ts, H1 t = none) → (∀ b o, H1 b = some o → H2 b = some o) → (∀ (j : Nat) (t : Addr), ts[j]? = some t → H2 t = some (.tup (colV rr j))) → H2 l = some (.lst (ts.map V.ref)) → Q (.ref l) H2
theorem vals_refs : ∀ {ls : List Addr} {us : List Value}, Vals (ls.map V.ref) us → us = ls.map Value.ref
  | [], us, r => by cases r; rfl
  | l :: ls, us, r => by
    cases r with
    | cons a b =>
      rw [vals_refs b]
      cases a
      rfl
theorem refs_vals : ∀ (ls : List Addr), Vals (ls.map V.ref) (ls.map Value.ref)
  | [] => .nil
  | l :: ls => .cons rfl (refs_vals ls)
theorem col_vals : ∀ {rr : List (List V)} {us : List (Array Value)} {m i : Nat}, (∀ (j : Nat) (xs : List V) (u : Array Value), rr[j]? = some xs → us[j]? = some u → Vals xs u.toList) → rr.length = us.length → (∀ xs ∈ rr, xs.length = m) → i < m → Vals (colV rr i) (us.map fun xs => xs.getD i .none)
  | [], [], m, i, _, _, _, _ => .nil
  | xs :: rr, u :: us, m, i, h, l, hm, hi => by
    have r := h 0 xs u rfl rfl
    have lx := hm xs List.mem_cons_self
    have hi2 : i < xs.length := by rw [lx]; exact hi
    obtain ⟨v, e, rv⟩ := r.get (List.getElem?_eq_getElem hi2)
    refine .cons ?_ (col_vals (fun j a b e1 e2 => h (j + 1) a b e1 e2) (by simpa using l) (fun a ha => hm a (List.mem_cons_of_mem _ ha)) hi)
    show RelV (xs.getD i .non) (u.getD i .none)
    have e1 : xs.getD i .non = xs[i] := by rw [List.getD_eq_getElem?_getD, List.getElem?_eq_getElem hi2]; rfl
    have e2 : u.getD i .none = v := by
      rw [Array.getD_eq_getD_getElem?, ← Array.getElem?_toList, e]
      rfl
    rw [e1, e2]
    exact rv
  | [], _ :: _, _, _, _, l, _, _ => by simp at l
  | _ :: _, [], _, _, _, l, _, _ => by simp at l
theorem mk_rows : ∀ {P : Nat → Addr → Array Value → Prop} {ls : List Addr}, (∀ (j : Nat) (l : Addr), ls[j]? = some l → ∃ u, P j l u) → ∃ us : List (Array Value), us.length = ls.length ∧ ∀ (j : Nat) (l : Addr), ls[j]? = some l → ∃ u, us[j]? = some u ∧ P j l u
  | P, [], _ => ⟨[], rfl, fun j l e => by simp at e⟩
  | P, l :: ls, h => by
    obtain ⟨u, hu⟩ := h 0 l rfl
    obtain ⟨us, e, hus⟩ := mk_rows (P := fun j => P (j + 1)) (ls := ls) fun j l e => h (j + 1) l e
    refine ⟨u :: us, by rw [List.length_cons, List.length_cons, e], fun j l' e' => ?_⟩
    cases j with
    | zero =>
      cases e'
      exact ⟨u, rfl, hu⟩
    | succ j => exact hus j l' e'
theorem lookup_zip {ts : List Addr} {os : List HO} (nd : ts.Nodup) : ∀ {j : Nat} {t : Addr} {o : HO}, ts[j]? = some t → os[j]? = some o → (ts.zip os).lookup t = some o := by
  induction ts generalizing os with
  | nil => intro j t o e; simp at e
  | cons a ts ih =>
    intro j t o e1 e2
    cases os with
    | nil => simp at e2
    | cons b os =>
      rw [List.zip_cons_cons, List.lookup_cons]
      cases j with
      | zero =>
        cases e1
        cases e2
        rw [beq_self_eq_true]
      | succ j =>
        have hm : t ∈ ts := List.mem_of_getElem? (by simpa using e1)
        have ne : t ≠ a := fun q => by
          rw [q] at hm
          exact (List.nodup_cons.mp nd).1 hm
        rw [beq_false_of_ne ne]
        exact ih (List.nodup_cons.mp nd).2 (by simpa using e1) (by simpa using e2)
def ZipMade (X : Cx) (pins : List (Addr × Obj)) (σ : L2.St) (Q : VK) (z : Value) (s' : Shared) : Prop := ∃ (s2 : Shared) (m : Nat) (rows : List Addr) (us : List (Array Value)) (rr : List (List V)) (H1 : Hp),
  z = .ref (s2.heap.objs.size + rows.length + 2) ∧ (∀ c o, s2.heap.get? c = some o → s'.heap.get? c = some o) ∧
      s' = { s2 with heap := s'.heap } ∧ ZL s'.heap s2.heap.objs.size rows us 0 ∧ Inv X pins σ H1 s2 ∧ rows.length ≤ 16 ∧ 1 ≤ rows.length ∧ 0 < m ∧ m ≤ 1000 ∧ us.length = rows.length ∧ (∀ xs ∈ us, xs.size = m) ∧ rr.length = us.length ∧ (∀ (j : Nat) (xs : List V) (u : Array Value), rr[j]? = some xs → us[j]? = some u → Vals xs u.toList) ∧ (∀ xs ∈ rr, xs.length = m) ∧
      ∀ (ts : List Addr) (l : Addr) (H2 : Hp), ts.length = m → H1 l = none → (∀ t ∈ ts, H1 t = none) → (∀ b o, H1 b = some o → H2 b = some o) → (∀ (j : Nat) (t : Addr), ts[j]? = some t → H2 t = some (.tup (colV rr j))) → H2 l = some (.lst (ts.map V.ref)) → Q (.ref l) H2
theorem zip_made {X : Cx} {pins : List (Addr × Obj)} {σ : L2.St} {Q : VK} {s : Shared} {H : Hp} {e : Expr} {te : TE} {p2 p3 q : Pos} (I : Inv X pins σ H s) (hgz : Gl X "zip") (hmz : X.mg "zip" = none) (he : PE X e te) (h : tZip X.K te σ H Q) :
    wpAny (model X.prog X.w) X.A (eval (.Call (.Name "zip" p2) [.Starred e p3] [] q) X.env) (fun z s' => ZipMade X pins σ Q z s') X.xe s := by
  refine Call_ (ld_blt I hgz hmz PyProof.Rows.boot_zip (callWith_typeS (thn (he.run pins s σ H _ I h) fun v s1 hv => ?_)))
  obtain ⟨x, H1, I1, r1, a, rows, rr, m, ex, ha, l1, n1, n16, m0, m1, hrows, fin⟩ := hv
  subst ex
  obtain rfl : v = Value.ref a := r1
  obtain ⟨its, rv, pl, hz⟩ := I1.tuple ha
  have eits := vals_refs rv
  subst eits
  obtain ⟨o, D, hcl, n, hd⟩ := pl
  have hT : s1.TypeIs (.ref a) "tuple" := ⟨o, D, hcl⟩
  unfold PySem.W.StarOf notIterableAtAll
  refine wpAny_bind (wpAny_specialOf hT PySem.F.slot_tuple_iter.lookup (wpAny_pure ⟨rfl, ?_⟩))
  refine wpAny_collect_seq a (.inr rfl) D hcl hd (fun h' hk => ?_) (by rw [List.size_toArray, ← rv.length]; exact hz)
  have I2 : Inv X pins σ H1 { s1 with heap := h' } := I1.kept (t' := s1.toks) hk
  obtain ⟨us, lus, hus⟩ := mk_rows (P := fun j l (u : Array Value) => h'.IsTuple l u ∧ ∃ xs, rr[j]? = some xs ∧ Vals xs u.toList ∧ xs.length = m) (ls := rows) fun j l hj => by
    have lj : j < rr.length := by rw [l1]; exact (List.getElem?_eq_some_iff.mp hj).1
    obtain ⟨h1, h2⟩ := hrows j l rr[j] hj (List.getElem?_eq_getElem lj)
    obtain ⟨its, r, p, z⟩ := I2.tuple h1
    exact ⟨its.toArray, p, _, List.getElem?_eq_getElem lj, by simpa using r, h2⟩
  refine call_zs (s := { s1 with heap := h' }) (ls := rows) (rr := us) n16 (fun j l hj => ?_) fun h2 zs zo zz sz hk2 => ?_
  · obtain ⟨u, e1, e2, _⟩ := hus j l hj
    exact ⟨u, e1, e2⟩
  refine ⟨{ s1 with heap := h' }, m, rows, us, rr, H1, rfl, hk2, rfl, ⟨zs, .inl ⟨rfl, zz, zo⟩⟩, I2, n16, n1, m0, m1, lus, fun u hu => ?_, by rw [l1, lus], fun j xs u e1 e2 => ?_, fun xs hx => ?_, fin⟩
  · obtain ⟨j, hj⟩ := List.mem_iff_getElem?.mp hu
    have lj : j < rows.length := by rw [← lus]; exact (List.getElem?_eq_some_iff.mp hj).1
    obtain ⟨u', e1, _, xs, e3, e4, e5⟩ := hus j rows[j] (List.getElem?_eq_getElem lj)
    rw [hj] at e1
    cases e1
    rw [← Array.length_toList, ← e4.length, e5]
  · have lj : j < rows.length := by rw [← lus]; exact (List.getElem?_eq_some_iff.mp e2).1
    obtain ⟨u', e1', _, xs', e3, e4, e5⟩ := hus j rows[j] (List.getElem?_eq_getElem lj)
    rw [e2] at e1'
    cases e1'
    rw [e1] at e3
    cases e3
    exact e4
  · obtain ⟨j, hj⟩ := List.mem_iff_getElem?.mp hx
    have lj : j < rows.length := by rw [← l1]; exact (List.getElem?_eq_some_iff.mp hj).1
    exact (hrows j rows[j] xs (List.getElem?_eq_getElem lj) hj).2
theorem pe_zip {X : Cx} {e : Expr} {te : TE} {p p2 p3 q pos : Pos} (hc : X.calm = true) (hg : Gl X "list") (hm : X.mg "list" = none) (hgz : Gl X "zip") (hmz : X.mg "zip" = none) (he : PE X e te) :
    PE X (.Call (.Name "list" p) [.Call (.Name "zip" p2) [.Starred e p3] [] q] [] pos) (tZip X.K te) := by
  refine ⟨fun pins s σ H Q I h => ?_⟩
  refine Call_ (ld_blt I hg hm boot_list (PyProof.Rows.callWith_type1 (args_cons (thn (zip_made I hgz hmz he h) fun z s' hz => args_nil ?_) rfl) rfl))
  obtain ⟨s2, m, rows, us, rr, H1, rfl, hk2, es, zl, I2, n16, n1, m0, m1, lus, hus, lrr, hv, hrr, fin⟩ := hz
  have hs' : s' = { s2 with heap := s'.heap } := es
  refine call_list_zs (A := X.A) (s := s') (I2.ok.hd hc) n16 n1 m0 m1 lus hus zl fun h' acc' c' ts q1 q2 q3 q4 q5 => ?_
  have B_lt : ∀ c o, s2.heap.get? c = some o → h'.get? c = some o := fun c o e => q1 c o (Heap.lt_size e) (hk2 c o e)
  have lge : s2.heap.objs.size ≤ s'.heap.objs.size := by
    obtain ⟨o, e, _⟩ := zl.ty
    exact Nat.le_of_lt (Nat.lt_of_le_of_lt (by rw [Nat.add_assoc]; exact Nat.le_add_right _ _) (Heap.lt_size e))
  have tge : ∀ t ∈ ts, s'.heap.objs.size < t := fun t ht => by
    obtain ⟨j, hj⟩ := List.mem_iff_getElem?.mp ht
    exact (q5.2 j t hj).1
  obtain ⟨os, hos⟩ : ∃ os : List HO, os = (List.range m).map fun j => HO.tup (colV rr j) := ⟨_, rfl⟩
  obtain ⟨ps, hps⟩ : ∃ ps : List (Addr × HO), ps = (s'.heap.objs.size, HO.lst (ts.map V.ref)) :: ts.zip os := ⟨_, rfl⟩
  have mem_ps : ∀ p ∈ ps, s2.heap.objs.size ≤ p.1 := fun p hp => by
    rw [hps] at hp
    rcases List.mem_cons.mp hp with e | e
    · rw [e]
      exact lge
    · exact Nat.le_trans lge (Nat.le_of_lt (tge _ (List.of_mem_zip e).1))
  have at_t : ∀ (j : Nat) (t : Addr), ts[j]? = some t → ps.lookup t = some (.tup (colV rr j)) := fun j t e => by
    have lj : j < m := by rw [← q4]; exact (List.getElem?_eq_some_iff.mp e).1
    rw [hps, List.lookup_cons, beq_false_of_ne (Nat.ne_of_gt (tge t (List.mem_of_getElem? e)))]
    exact lookup_zip q5.1 e (by rw [hos, List.getElem?_map, List.getElem?_range lj]; rfl)
  have sl : sizeLine = 16777216 := sizeLine_eq
  have I3 : Inv X pins σ (layH ps H1) { s2 with heap := h', toks := s2.toks } := Inv.lays I2 B_lt mem_ps fun b o e => by
    by_cases hb : b = s'.heap.objs.size
    · subst hb
      rw [hps, List.lookup_cons, beq_self_eq_true] at e
      cases e
      exact ⟨by rw [List.length_map, q4]; omega, ts.map Value.ref, c', refs_vals ts, by rw [q2, ← q3, Array.toArray_toList]⟩
    · have mz : (b, o) ∈ ts.zip os := by
        rw [hps, List.lookup_cons, beq_false_of_ne hb] at e
        exact layH_old.lookup_memA e
      obtain ⟨j, hj⟩ := List.mem_iff_getElem?.mp (List.of_mem_zip mz).1
      have lj : j < m := by rw [← q4]; exact (List.getElem?_eq_some_iff.mp hj).1
      have e2 := at_t j b hj
      rw [e2] at e
      cases e
      have cv := col_vals (i := j) hv lrr hrr lj
      have ht := (q5.2 j b hj).2
      have ct : colZ us j rows.length = us.map fun xs => xs.getD j .none := by
        unfold colZ
        rw [List.take_of_length_le (by rw [lus]; exact Nat.le_refl _)]
      rw [ct] at ht
      exact ⟨by unfold colV; rw [List.length_map, lrr, lus]; omega, _, cv, ⟨_, ht, rfl, _, rfl⟩⟩
  have fr : ∀ p ∈ ps, H1 p.1 = none := fun p hp => I2.hok.fresh (mem_ps p hp)
  have I4 : Inv X pins σ (layH ps H1) { s' with heap := h' } := by
    rw [hs']
    exact I3
  refine ⟨.ref s'.heap.objs.size, layH ps H1, I4, rfl, fin ts _ _ q4 (I2.hok.fresh lge) (fun t ht => I2.hok.fresh (Nat.le_trans lge (Nat.le_of_lt (tge t ht)))) (fun b o e => layH_old fr e) (fun j t e => ?_) ?_⟩
  · unfold layH
    rw [at_t j t e]
  · unfold layH
    rw [hps, List.lookup_cons, beq_self_eq_true]
end G

set_option Elab.async false
set_option linter.all false
set_option maxRecDepth 100000
set_option maxHeartbeats 4000000
namespace G
open PySem PySem.Spec PyProof.Rows L2 LamX
/-! ## lists of parts -/
def wL (f : Expr → TE) : List Expr → TA
  | [] => tNil
  | e :: es => tCons (f e) (wL f es)
def wKw (f : Expr → TE) : List Keyword → TA
  | [] => tNil
  | q :: qs => tCons (f q.value) (wKw f qs)
def tAndL : List TT → TT
  | [] => fun _ _ _ => False
  | [t] => t
  | t :: r => tAnd t (tAndL r)
def tOrL : List TT → TT
  | [] => fun _ _ _ => False
  | [t] => t
  | t :: r => tOr t (tOrL r)
def tAndVL (K : PySem.W.Frag) : List TE → TE
  | [] => tNo
  | [t] => t
  | t :: r => tAndT K t (tAndVL K r)
def tOrVL (K : PySem.W.Frag) : List TE → TE
  | [] => tNo
  | [t] => t
  | t :: r => tOrT K t (tOrVL K r)
/-- a value's truth as a test -/
def tTru (K : PySem.W.Frag) (t : TE) : TT := fun σ H Q => t σ H fun x H' => ∃ b, TruV K x H' b ∧ Q b H'
def noT : TT := fun _ _ _ => False
def wPairs (f : Expr → TE) : List (Option Expr) → List Expr → List (TE × TE)
  | some a :: ks, v :: vs => (f a, f v) :: wPairs f ks vs
  | _, _ => []
def isComp (e : Expr) : Bool := match e with
  | .ListComp .. => true
  | .SetComp .. => true
  | .DictComp .. => true
  | _ => false
def isSetD (e : Expr) : Bool := match e with
  | .Set .. => true
  | _ => false
def isSlice (e : Expr) : Bool := match e with
  | .Slice .. => true
  | _ => false
def plainTest (e : Expr) : Bool := match e with
  | .Name .. => true
  | .Call .. => true
  | .Subscript .. => true
  | .Attribute .. => true
  | .BinOp .. => true
  | .ListComp .. => true
  | .Constant .. => true
  | _ => false
def ownS (N : List Str) (scope : Scope) : List (Str × Nat) := scope.names.filterMap fun y => match y.2 with
  | .local => (slot N y.1).map fun i => (y.1, i)
  | .cell => (slot N y.1).map fun i => (y.1, i)
  | _ => none
def iSeq (K : PySem.W.Frag) (te : TE) : TI := fun σ H R => iList K te σ H R ∨ iTup K te σ H R ∨ iStr te σ H R
def gSeq (K : PySem.W.Frag) (n : Nat) (t : TGs) : TG := fun v σ H Q => gTup K n t v σ H Q ∨ gLst K n t v σ H Q
def rPut : TSet := fun o i v H Q => rSetL o i v H Q ∨ ∃ a H', o = .ref a ∧ DPut H a i v H' ∧ Q H'
/-- a block's own cells -/
def ownC (scope : Scope) : Str → Bool := fun x => scope.names.lookup x == some .cell
def gNames (N : List Str) (sc : Scope) (all : Str → Bool) : List Expr → Option TGs
  | [] => some gNil
  | .Name x _ :: es => if loc sc x && (all x || decide (sc.names.lookup x = some .local)) then (match slot N x, gNames N sc all es with
    | some i, some r => some (gCons (gName i) r)
    | _, _ => none) else none
  | _ => none
def tgS (N : List Str) : Expr → List Nat
  | .Name x _ => (slot N x).toList
  | .Tuple es _ _ => es.filterMap fun e => match e with
    | .Name x _ => slot N x
    | _ => none
  | _ => []
def vsIn (a b : List Nat) : Bool := a.all fun i => b.contains i
theorem vsIn_ok {a b : List Nat} (h : vsIn a b = true) : ∀ i ∈ a, i ∈ b := fun i hi => List.contains_iff_mem.mp (List.all_eq_true.mp h i hi)
def noG : TG := fun _ _ _ _ => False
def wG (K : PySem.W.Frag) (Γ : Gam) (sc : Scope) (all : Str → Bool) (f : Expr → TE) : Expr → TG
  | .Name x _ => if loc sc x && (all x || decide (sc.names.lookup x = some .local)) then (match slot Γ.N x with
    | some i => gName i
    | none => noG) else noG
  | .Tuple es _ _ => (match gNames Γ.N sc all es with
    | some t => gSeq K es.length t
    | none => noG)
  | .Subscript o i _ => if isSlice i then noG else gSub (f o) (f i) rPut
  | _ => noG
def noI : TI := fun _ _ _ => False
def wI (K : PySem.W.Frag) (Γ : Gam) (sc : Scope) (f : Expr → TE) (tg : Expr) : Expr → TI
  | .Call (.Name x p) [a] [] q => if x = "range" && glb sc x && Γ.free x && noStar [a] then iRng1 (wL f [a]) else iSeq K (f (.Call (.Name x p) [a] [] q))
  | .Call (.Name x p) [a, b] [] q => if x = "range" && glb sc x && Γ.free x && noStar [a, b] then iRng2 (wL f [a, b]) else iSeq K (f (.Call (.Name x p) [a, b] [] q))
  | e => iSeq K (f e)
/-- the thunks at hand -/
def lamActs (Γ : Gam) (sc : Scope) (wb : Scope → WX → Expr → TE) : L2.St → Hp → Acts := fun σ H f tl => Γ.act f tl ∨ ∃ (o : Obj) (body : Expr) (scope : Scope) (c' : Addr), Γ.P.isSome = true ∧ lamSB sc scope = true ∧ H f = some (frzO o) ∧
  LamObj Γ.qual Γ.cells o body scope c' ∧ tl = fun E H' Q' => H' c' = some (CodeO c' (Γ.qual ++ "<lambda>")) ∧ wb scope (fun cls d _ H'' => E cls d H'') body σ H' Q'
/-- the thunks that a call hands on -/
def actsAt (Γ : Gam) (sc : Scope) (wb : Scope → WX → Expr → TE) : L2.St → Hp → Acts := match Γ.P with
  | some _ => lamActs Γ sc wb
  | none => fun _ _ => Γ.act
def noW : WX := fun _ _ _ _ => False
/-- a built-in name's call; list(range(..)), tuple(range(..)) -/
def wB (K : PySem.W.Frag) (Γ : Gam) (sc : Scope) (f : Expr → TE) (x : Str) (e : Expr) (es : List Expr) (r : List V → Hp → VK → Prop) : TE := match e, es with
  | .Call (.Name y p) [.Starred a p3] [] q, [] => if x = "list" && y = "zip" && glb sc y && Γ.free y then tZip K (f a) else tCB r (wL f [.Call (.Name y p) [.Starred a p3] [] q])
  | .Call (.Name y p) [a] [] q, [] => if (x = "list" || x = "tuple") && y = "range" && glb sc y && Γ.free y && noStar [a] then (if x = "list" then tLstRg (tRg1 (f a)) else tTupRg (tRg1 (f a))) else tCB r (wL f [.Call (.Name y p) [a] [] q])
  | .Call (.Name y p) [a, b] [] q, [] => if (x = "list" || x = "tuple") && y = "range" && glb sc y && Γ.free y && noStar [a, b] then (if x = "list" then tLstRg (tRg2 (f a) (f b)) else tTupRg (tRg2 (f a) (f b))) else tCB r (wL f [.Call (.Name y p) [a, b] [] q])
  | e, es => tCB r (wL f (e :: es))
mutual
def wE (K : PySem.W.Frag) : Nat → Gam → Scope → WX → Expr → TE
  | 0, _, _, _, _ => tNo
  | n + 1, Γ, sc, W, e => match e with
    | .Constant (.int i) _ _ => tC (.int i)
    | .Constant (.bool b) _ _ => tC (.bl b)
    | .Constant .none _ _ => tC .non
    | .Constant (.str x) _ _ => tC (.str x)
    | .Name x _ => if oddName x then tNo else if vis sc x then (match slot Γ.N x with
        | some i => tVar i
        | none => tNo) else if glb sc x then (match Γ.gv x with
          | some v => tC v
          | none => if Γ.free x then (match tyTab x with
            | some T => tC (.ty T)
            | none => tNo) else tNo) else tNo
    | .BinOp a op b _ => tOp (rBin K op) (wE K n Γ sc W a) (wE K n Γ sc W b)
    | .UnaryOp .USub a _ => tUn (rU fun i => .int (-i)) (wE K n Γ sc W a)
    | .UnaryOp .Not a _ => tNotT K (wE K n Γ sc W a)
    | .BoolOp .And vs _ => tAndVL K (vs.map (wE K n Γ sc W))
    | .BoolOp .Or vs _ => tOrVL K (vs.map (wE K n Γ sc W))
    | .Compare a [op] [b] _ => if behindInMarks op b then tNo else tOp (wCmp K Γ op) (wE K n Γ sc W a) (wE K n Γ sc W b)
    | .Compare a [op, op'] [b, c] _ => if lastMarks [op, op'] [b, c] then tNo else tChain (wCmp K Γ op) (wCmp K Γ op') (wE K n Γ sc W a) (wE K n Γ sc W b) (wE K n Γ sc W c)
    | .IfExp c a b _ => tIf (wT K n Γ sc W c) (wE K n Γ sc W a) (wE K n Γ sc W b)
    | .List es _ => if noStar es then tLst (wL (wE K n Γ sc W) es) else tNo
    | .Tuple es _ _ => if noStar es then tTup (wL (wE K n Γ sc W) es) else tNo
    | .Dict [] [] _ => tDNewK
    | .Dict (a :: ks) vs _ => if (a :: ks).all (·.isSome) && (a :: ks).length == vs.length && decide ((a :: ks).length ≤ 15) then tDisp (wPairs (wE K n Γ sc W) (a :: ks) vs) else tNo
    | .Subscript a (.Slice lo hi none _) _ => tSl (rSlG K) (wE K n Γ sc W a) (match lo with
        | some z => tPart (wE K n Γ sc W z)
        | none => tNoPart) (match hi with
        | some z => tPart (wE K n Γ sc W z)
        | none => tNoPart)
    | .Subscript a (.Slice lo hi (some z) _) _ => if lo.isNone && hi.isNone && isM1 z then tRevA K (wE K n Γ sc W a) else tNo
    | .Subscript a b _ => if isSlice b then tNo else tOp (rSub2 K) (wE K n Γ sc W a) (wE K n Γ sc W b)
    | .Lambda a body scope _ => (match a, Γ.P with
      | ⟨[], [], none, [], [], none, []⟩, some _ => if lamSB sc scope then tLamV Γ.qual Γ.cells Γ.T body scope else tNo
      | _, _ => tNo)
    | .Call (.Name x _) es kws _ => if oddName x || !noStar es || !kwAll kws then tNo else if glb sc x then (match Γ.fn x es.length (kwNames kws) with
        | some p => tFn p.2 (actsAt Γ sc fun s' W' b => wE K n Γ.low s' W' b) W (wL (wE K n Γ sc W) es) (wKw (wE K n Γ sc W) kws) es.length (kwNames kws).length
        | none => (match es, kws, bTab K x with
          | e :: es, [], some r => if Γ.free x then wB K Γ sc (wE K n Γ sc W) x e es r.2 else tNo
          | _, _, _ => tNo)) else if vis sc x then (match es, kws, slot Γ.N x with
          | [], [], some i => tThunk i Γ.act W
          | _, _, _ => tNo) else tNo
    | .Call (.Attribute o m apos) args [] cpos => if notBare o && noStar args && apos.endLine == cpos.line && decide (args.length < 29) then (match Γ.mt m with
      | some M => tMt M m args.length W (wE K n Γ sc W o) (wL (wE K n Γ sc W) args)
      | none => mTab K m args (wE K n Γ sc W o) (wL (wE K n Γ sc W) args)) else tNo
    | .Attribute o f _ => if notBare o then tAttr K f (wE K n Γ sc W o) else tNo
    | .ListComp elt [⟨tg, iter, ifs, 0⟩] scope _ => if blkC Γ.N sc scope (ownS Γ.N scope) && !isSetD iter then
        tLc (wI K Γ sc (wE K n Γ sc W) tg iter) (wG K Γ.blk (relS scope sc) (ownC scope) (wE K n Γ.blk (relS scope sc) noW) tg) (match ifs with
          | [] => tYes
          | [c] => wT K n Γ.blk (relS scope sc) noW c
          | _ => noT) (wE K n Γ.blk (relS scope sc) noW elt) ((ownS Γ.N scope).map (·.2)) else tNo
    | .ListComp elt [⟨tg, iter, ifs, 0⟩, ⟨tg1, iter1, ifs1, 0⟩] scope _ => if blkC Γ.N sc scope (ownS Γ.N scope) && !isSetD iter && !isSetD iter1 && vsIn (tgS Γ.N tg1) ((ownS Γ.N scope).map (·.2)) then
        tLc2 (wI K Γ sc (wE K n Γ sc W) tg iter) (wG K Γ.blk (relS scope sc) (ownC scope) (wE K n Γ.blk (relS scope sc) noW) tg) (match ifs with
          | [] => tYes
          | [c] => wT K n Γ.blk (relS scope sc) noW c
          | _ => noT) (wI K Γ.blk (relS scope sc) (wE K n Γ.blk (relS scope sc) noW) tg1 iter1) (wG K Γ.blk (relS scope sc) (ownC scope) (wE K n Γ.blk (relS scope sc) noW) tg1) (match ifs1 with
          | [] => tYes
          | [c] => wT K n Γ.blk (relS scope sc) noW c
          | _ => noT) (wE K n Γ.blk (relS scope sc) noW elt) ((ownS Γ.N scope).map (·.2)) (tgS Γ.N tg1) else tNo
    | _ => tNo
def wT (K : PySem.W.Frag) : Nat → Gam → Scope → WX → Expr → TT
  | 0, _, _, _, _ => noT
  | n + 1, Γ, sc, W, e => match e with
    | .BoolOp .And vs _ => tAndL (vs.map (wT K n Γ sc W))
    | .BoolOp .Or vs _ => tOrL (vs.map (wT K n Γ sc W))
    | .UnaryOp .Not a _ => tNot (wT K n Γ sc W a)
    | .Compare a [op] [b] _ => if behindInMarks op b then noT else tTest (tOp (wCmp K Γ op) (wE K n Γ sc W a) (wE K n Γ sc W b))
    | .Compare a [op, op'] [b, c] _ => if lastMarks [op, op'] [b, c] then noT else tTest (tChain (wCmp K Γ op) (wCmp K Γ op') (wE K n Γ sc W a) (wE K n Γ sc W b) (wE K n Γ sc W c))
    | e => if plainTest e then tTru K (wE K n Γ sc W e) else noT
end
/-! ## the lambdas of a text, in order -/
def lamsE : Nat → Expr → List (Expr × Scope)
  | 0, _ => []
  | n + 1, e => match e with
    | .Lambda _ b sc _ => [(b, sc)]
    | .BoolOp _ vs _ => vs.flatMap (lamsE n)
    | .BinOp a _ b _ => lamsE n a ++ lamsE n b
    | .UnaryOp _ a _ => lamsE n a
    | .IfExp c a b _ => lamsE n c ++ lamsE n a ++ lamsE n b
    | .List es _ => es.flatMap (lamsE n)
    | .Tuple es _ _ => es.flatMap (lamsE n)
    | .Compare a _ bs _ => lamsE n a ++ bs.flatMap (lamsE n)
    | .Call f args kws _ => lamsE n f ++ args.flatMap (lamsE n) ++ kws.flatMap fun q => lamsE n q.value
    | .Attribute o _ _ => lamsE n o
    | .Subscript a b _ => lamsE n a ++ lamsE n b
    | _ => []
def lamsS : Nat → Stmt → List (Expr × Scope)
  | 0, _ => []
  | n + 1, s => match s with
    | .Return (some e) _ => lamsE n e
    | .Assign _ e _ => lamsE n e
    | .Expr e _ => lamsE n e
    | .If c a b _ => lamsE n c ++ a.flatMap (lamsS n) ++ b.flatMap (lamsS n)
    | .While c a _ _ => lamsE n c ++ a.flatMap (lamsS n)
    | .For _ it b _ _ => lamsE n it ++ b.flatMap (lamsS n)
    | _ => []
def lamB (b : List Stmt) (i : Nat) : Expr := ((b.flatMap (lamsS 40)).getD i (.Constant .none 0 ⟨0, 0, 0, 0⟩, default)).1
def lamC (b : List Stmt) (i : Nat) : Scope := ((b.flatMap (lamsS 40)).getD i (.Constant .none 0 ⟨0, 0, 0, 0⟩, default)).2
end G

set_option Elab.async false
set_option linter.all false
set_option maxRecDepth 100000
set_option maxHeartbeats 4000000
namespace G
open PySem PySem.Spec PyProof.Rows L2 LamX
section
variable {X : Cx} {k : Nat} {Γ : Gam} {sc : Scope} {W : WX}
theorem pa_wL {f : Expr → TE} (hf : ∀ e, PE X e (f e)) : ∀ {es : List Expr}, noStar es = true → PA X es (wL f es)
  | [], _ => pa_nil
  | e :: es, h => pa_cons (hf e) (pa_wL hf (star_tail h)) (star_one h)
theorem pk_wK {f : Expr → TE} (hf : ∀ e, PE X e (f e)) : ∀ {kws : List Keyword}, PK X kws (wKw f kws)
  | [] => pk_nil
  | ⟨nm, v, p⟩ :: kws => pk_cons (hf v) (pk_wK hf)
theorem pe_or2 {e : Expr} {t u : TE} (h1 : PE X e t) (h2 : PE X e u) : PE X e (fun σ H Q => t σ H Q ∨ u σ H Q) :=
  ⟨fun pins s σ H Q I h => h.elim (fun h => h1.run pins s σ H Q I h) fun h => h2.run pins s σ H Q I h⟩
theorem pi_or {tg e : Expr} {t u : TI} (h1 : PI X tg e t) (h2 : PI X tg e u) : PI X tg e (fun σ H R => t σ H R ∨ u σ H R) :=
  ⟨fun pins s σ H R I h => h.elim (fun h => h1.run pins s σ H R I h) fun h => h2.run pins s σ H R I h⟩
theorem pg_or {tg : Expr} {t u : TG} (h1 : PG X tg t) (h2 : PG X tg u) : PG X tg (fun v σ H Q => t v σ H Q ∨ u v σ H Q) :=
  ⟨fun pins s σ H v u Q I r h => h.elim (fun h => h1.run pins s σ H v u Q I r h) fun h => h2.run pins s σ H v u Q I r h⟩
theorem pi_seq {tg e : Expr} {te : TE} (h : PE X e te) : PI X tg e (iSeq X.K te) := pi_or (pi_list h) (pi_or (pi_tup h) (pi_str h))
theorem pw_and_l {f : Expr → TT} (hf : ∀ e, PT X e (f e)) {pos : Pos} : ∀ {vs : List Expr}, PW X (.BoolOp .And vs pos) (tAndL (vs.map f))
  | [] => ⟨fun _ _ _ _ _ _ _ h => h.elim⟩
  | [a] => pw_and1 (hf a)
  | a :: b :: r => pw_and (hf a) (pw_and_l hf (vs := b :: r))
theorem pw_or_l {f : Expr → TT} (hf : ∀ e, PT X e (f e)) {pos : Pos} : ∀ {vs : List Expr}, PW X (.BoolOp .Or vs pos) (tOrL (vs.map f))
  | [] => ⟨fun _ _ _ _ _ _ _ h => h.elim⟩
  | [a] => pw_or1 (hf a)
  | a :: b :: r => pw_or (hf a) (pw_or_l hf (vs := b :: r))
theorem pe_and_l {f : Expr → TE} (hf : ∀ e, PE X e (f e)) {pos : Pos} : ∀ {vs : List Expr}, PE X (.BoolOp .And vs pos) (tAndVL X.K (vs.map f))
  | [] => pe_no
  | [a] => pe_one (hf a)
  | a :: b :: r => pe_andT (hf a) (pe_and_l hf (vs := b :: r))
theorem pe_or_l {f : Expr → TE} (hf : ∀ e, PE X e (f e)) {pos : Pos} : ∀ {vs : List Expr}, PE X (.BoolOp .Or vs pos) (tOrVL X.K (vs.map f))
  | [] => pe_no
  | [a] => pe_one (hf a)
  | a :: b :: r => pe_orT (hf a) (pe_or_l hf (vs := b :: r))
theorem pps_w {f : Expr → TE} (hf : ∀ e, PE X e (f e)) {pos : Pos} : ∀ {ks : List (Option Expr)} {vs : List Expr}, ks.all (·.isSome) = true → ks.length = vs.length → PPs X pos ks vs (wPairs f ks vs)
  | [], [], _, _ => pps_nil
  | some a :: ks, v :: vs, h, l => pps_cons (hf a) (hf v) (pps_w hf (by rw [List.all_cons] at h; exact (Bool.and_eq_true_iff.mp h).2) (by simpa using l))
  | none :: ks, v :: vs, h, _ => by
    rw [List.all_cons] at h
    cases (Bool.and_eq_true_iff.mp h).1
theorem pe_name (g : Good k Γ sc W X) {n : Nat} {x : Str} {pos : Pos} : PE X (.Name x pos) (wE X.K (n + 1) Γ sc W (.Name x pos)) := by
  show PE X _ (if oddName x = true then _ else _)
  by_cases h0 : oddName x = true
  · rw [if_pos h0]
    exact pe_no
  · rw [if_neg h0]
    obtain ⟨o1, o2, o3⟩ := oddName_no (Bool.eq_false_iff.mpr h0)
    by_cases h1 : vis sc x = true
    · rw [if_pos h1]
      cases h2 : slot Γ.N x with
      | none => exact pe_no
      | some i => exact pe_var (by rw [g.N]; exact slot_ok h2) (by rw [g.sc]; exact vis_ok h1) o1 o2
    · rw [if_neg h1]
      by_cases h3 : glb sc x = true
      · rw [if_pos h3]
        cases h4 : Γ.gv x with
        | some v =>
          obtain ⟨u, e1, e2⟩ := g.gv x v h4
          exact pe_glob (gl_of g h3) e1 e2 o1
        | none =>
          show PE X _ (if Γ.free x = true then _ else _)
          by_cases h5 : Γ.free x = true
          · rw [if_pos h5]
            cases h6 : tyTab x with
            | none => exact pe_no
            | some T => exact pe_bltn (gl_of g h3) (g.free x h5) (tyTab_ok h6) rfl o3 o1
          · rw [if_neg h5]
            exact pe_no
      · rw [if_neg h3]
        exact pe_no
theorem slice_no {e : Expr} (h : isSlice e = false) : PlainIx e := by
  unfold isSlice at h
  cases e <;> first
    | (intro _ _; rfl)
    | cases h
theorem set_no {e : Expr} (h : isSetD e = false) (env : Env) : ∀ x, foldedSetIterable e env x = pure x := by
  unfold isSetD at h
  cases e <;> first
    | (intro _; rfl)
    | cases h
theorem tests_no {e : Expr} (h : plainTest e = true) (env : Env) : ∀ whole, isTrue e env whole = (do let v ← whole; standAt e.pos; holding [v] (truthy v)) := by
  unfold plainTest at h
  cases e <;> first
    | (intro _; rfl)
    | cases h
theorem pgs_names (hN : X.N = Γ.N) (hsc : X.env.scope = sc) (nd : Γ.N.Nodup) {all : Str → Bool} (hfn : ∀ x, all x = true → X.fn x = true) : ∀ {es : List Expr} {t : TGs}, gNames Γ.N sc all es = some t →
    PGs X es t ∧ (assignEach es X.env).length = es.length ∧ (assignEach es X.env).findIdx? (·.1) = none
  | [], t, h => by
    cases h
    exact ⟨pgs_nil, rfl, rfl⟩
  | e :: es, t, h => by
    cases e with
    | Name x p =>
      have h' : (if (loc sc x && (all x || decide (sc.names.lookup x = some .local))) = true then (match slot Γ.N x, gNames Γ.N sc all es with
        | some i, some r => some (gCons (gName i) r)
        | _, _ => none) else none) = some t := h
      by_cases c : (loc sc x && (all x || decide (sc.names.lookup x = some .local))) = true
      · rw [if_pos c] at h'
        obtain ⟨c1, c2⟩ := Bool.and_eq_true_iff.mp c
        cases h1 : slot Γ.N x with
        | none => rw [h1] at h'; cases h'
        | some i =>
          cases h2 : gNames Γ.N sc all es with
          | none => rw [h1, h2] at h'; cases h'
          | some r =>
            rw [h1, h2] at h'
            cases h'
            obtain ⟨a1, a2, a3⟩ := pgs_names hN hsc nd hfn h2
            have hx : PG X (.Name x p) (gName i) := pg_name (by rw [hN]; exact nd) (by rw [hN]; exact slot_ok h1) (by rw [hsc]; exact loc_ok c1) (by
              rcases Bool.or_eq_true_iff.mp c2 with z | z
              · exact .inl (hfn x z)
              · refine .inr ?_
                rw [hsc]
                exact of_decide_eq_true z)
            refine ⟨pgs_cons hx a1 rfl, ?_, ?_⟩
            · show (assignEach es X.env).length + 1 = es.length + 1
              rw [a2]
            · show List.findIdx? (·.1) ((false, assign (.Name x p) X.env) :: assignEach es X.env) = none
              rw [List.findIdx?_cons, a3]
              rfl
      · rw [if_neg c] at h'
        cases h'
    | _ => cases h
theorem put_ok (hu : X.A.units + 1 < cLine) : PSet X rPut := by
  intro pins s σ H o i v ov iv u Q I ro ri rv h
  rcases h with h | ⟨a, H', rfl, g, q⟩
  · exact set_list pins s σ H o i v ov iv u Q I ro ri rv h
  · obtain rfl : ov = Value.ref a := ro
    exact d_setItem hu I g ri rv fun s4 I4 => ⟨H', I4, q⟩
theorem pg_w (hc : X.calm = true) (hu : X.A.units + 1 < cLine) (hN : X.N = Γ.N) (hsc : X.env.scope = sc) (nd : Γ.N.Nodup) {all : Str → Bool} (hfn : ∀ x, all x = true → X.fn x = true) {f : Expr → TE} (hf : ∀ e, PE X e (f e)) : ∀ tg, PG X tg (wG X.K Γ sc all f tg) := by
  intro tg
  have no : ∀ {t : Expr}, PG X t noG := ⟨fun _ _ _ _ _ _ _ _ _ h => h.elim⟩
  cases tg with
  | Name x p =>
    show PG X _ (if _ then _ else _)
    by_cases c : (loc sc x && (all x || decide (sc.names.lookup x = some .local))) = true
    · rw [if_pos c]
      obtain ⟨c1, c2⟩ := Bool.and_eq_true_iff.mp c
      cases h1 : slot Γ.N x with
      | none => exact no
      | some i =>
        exact pg_name (by rw [hN]; exact nd) (by rw [hN]; exact slot_ok h1) (by rw [hsc]; exact loc_ok c1) (by
          rcases Bool.or_eq_true_iff.mp c2 with z | z
          · exact .inl (hfn x z)
          · refine .inr ?_
            rw [hsc]
            exact of_decide_eq_true z)
    · rw [if_neg c]
      exact no
  | Tuple es kk p =>
    show PG X _ (match gNames Γ.N sc all es with
      | some t => gSeq X.K es.length t
      | none => noG)
    cases h : gNames Γ.N sc all es with
    | none => exact no
    | some t =>
      obtain ⟨a1, a2, a3⟩ := pgs_names hN hsc nd hfn h
      exact pg_or (pg_tup hc a1 a2 a3) (pg_lst hc a1 a2 a3)
  | Subscript o i p =>
    show PG X _ (if isSlice i = true then _ else _)
    by_cases c : isSlice i = true
    · rw [if_pos c]
      exact no
    · rw [if_neg c]
      refine pg_sub (hf o) (hf i) (put_ok hu) ?_
      intro v
      cases i <;> first
        | rfl
        | exact absurd rfl c
  | _ => exact no
theorem pi_w (g : Good k Γ sc W X) {f : Expr → TE} (hf : ∀ e, PE X e (f e)) (tg : Expr) : ∀ e, PI X tg e (wI X.K Γ sc f tg e) := by
  intro e
  have gen : ∀ e, PI X tg e (iSeq X.K (f e)) := fun e => pi_seq (hf e)
  cases e with
  | Call fn es kws q =>
    cases fn with
    | Name x p =>
      match es, kws with
      | [a], [] =>
        show PI X tg _ (if _ then _ else _)
        by_cases c : (decide (x = "range") && glb sc x && Γ.free x && noStar [a]) = true
        · rw [if_pos c]
          simp only [Bool.and_eq_true, decide_eq_true_eq] at c
          obtain ⟨⟨⟨c1, c2⟩, c3⟩, c4⟩ := c
          subst c1
          exact pi_range1 (gl_of g c2) (g.free _ c3) (pa_wL hf c4) (star_one c4)
        · rw [if_neg c]
          exact gen _
      | [a, b], [] =>
        show PI X tg _ (if _ then _ else _)
        by_cases c : (decide (x = "range") && glb sc x && Γ.free x && noStar [a, b]) = true
        · rw [if_pos c]
          simp only [Bool.and_eq_true, decide_eq_true_eq] at c
          obtain ⟨⟨⟨c1, c2⟩, c3⟩, c4⟩ := c
          subst c1
          have s2 : starEach [b] X.env = [(false, eval b X.env)] := star_one (star_tail c4)
          refine pi_range2 (gl_of g c2) (g.free _ c3) (pa_wL hf c4) ?_ s2
          rw [star_one c4, s2]
        · rw [if_neg c]
          exact gen _
      | [], _ => exact gen _
      | _ :: _ :: _ :: _, _ => exact gen _
      | [_], _ :: _ => exact gen _
      | [_, _], _ :: _ => exact gen _
    | _ => exact gen _
  | _ => exact gen _
end
end G

set_option Elab.async false
set_option linter.all false
set_option maxRecDepth 100000
set_option maxHeartbeats 4000000
namespace G
open PySem PySem.Spec PyProof.Rows L2 LamX
section
variable {X : Cx} {k : Nat} {Γ : Gam} {sc : Scope} {W : WX}
theorem takesNo {X : Cx} : Takes X noW := fun _ _ ⟨_, _, _, _, _, _, _, _, _, _, _, _, _, _, _, _, z⟩ => z.elim
theorem good_blk (g : Good k Γ sc W X) (s : Shared) (H : Hp) (scope : Scope) (C : Addr) (cl : List (Str × Addr)) (fp : List Addr) : Good k Γ.blk (relS scope sc) noW (X.blk s H scope (compEnvC scope cl C X.env) fp) where
  calm := g.calm
  sc := by
    rw [← g.sc]
    rfl
  N := g.N
  nd := g.nd
  room := g.room
  fn := g.fn
  mt := g.mt
  gv := g.gv
  free := g.free
  exc := g.exc
  exA := g.exA
  act := fun _ _ h => h.elim
  aex := fun ⟨_, _, h⟩ => h.elim
  aek := fun ⟨_, _, h⟩ => h.elim
  pass := PassesOwn.never
  takes := takesNo
  lam := fun p h => by cases h
theorem good_lam (g : Good k Γ sc W X) (A : Around) (outer : List Env) (s : Shared) (H : Hp) (E : XK) (scope : Scope) (f c' : Addr) (hr : RoomG lamRoom A) :
    Good 41 Γ.low scope (fun cls d _ H'' => E cls d H'') (lamCx X A outer s H E scope f c') where
  calm := rfl
  sc := rfl
  N := g.N
  nd := g.nd
  room := RoomG.deeper (k := 41) hr _
  fn := fun x n ks p h => by
    have h' : (match Γ.fn x n ks with
      | some p => if p.1 ≤ 40 then some p else none
      | none => none) = some p := h
    cases e : Γ.fn x n ks with
    | none =>
      rw [e] at h'
      cases h'
    | some q =>
      rw [e] at h'
      by_cases c : q.1 ≤ 40
      · have h2 : (if q.1 ≤ 40 then some q else none) = some p := h'
        rw [if_pos c] at h2
        cases h2
        exact ⟨Nat.le_succ_of_le c, (g.fn _ _ _ _ e).2⟩
      · have h2 : (if q.1 ≤ 40 then some q else none) = some p := h'
        rw [if_neg c] at h2
        cases h2
  mt := fun m M C n p hM h => by
    obtain ⟨M0, e0, e1⟩ := Option.map_eq_some_iff.mp (show (Γ.mt m).map lowM = some M from hM)
    subst e1
    unfold lowM at h
    cases e : M0 C n with
    | none =>
      rw [e] at h
      cases h
    | some q =>
      rw [e] at h
      by_cases c : q.1 ≤ 40
      · have h2 : (if q.1 ≤ 40 then some q else none) = some p := h
        rw [if_pos c] at h2
        cases h2
        exact ⟨Nat.succ_le_succ c, (g.mt _ _ _ _ _ e0 e).2⟩
      · have h2 : (if q.1 ≤ 40 then some q else none) = some p := h
        rw [if_neg c] at h2
        cases h2
  gv := g.gv
  free := g.free
  exc := g.exc
  exA := fun x p h => ⟨by decide, (g.exA x p h).2⟩
  act := fun _ _ h => h.elim
  aex := fun ⟨_, _, h⟩ => h.elim
  aek := fun ⟨_, _, h⟩ => h.elim
  pass := passes_of rfl
  takes := takes_of rfl rfl rfl rfl
  lam := fun p h => by cases h
theorem acts_ok (g : Good k Γ sc W X) {wb : Scope → WX → Expr → TE}
    (hb : ∀ (A : Around) (outer : List Env) (s : Shared) (H : Hp) (E : XK) (scope : Scope) (f c' : Addr) (body : Expr), RoomG lamRoom A → PE (lamCx X A outer s H E scope f c') body (wb scope (fun cls d _ H'' => E cls d H'') body))
    {pins : List (Addr × Obj)} {σ : L2.St} {H : Hp} {s : Shared} (I : Inv X pins σ H s) : ∀ f tl, lamActs Γ sc wb σ H f tl → Act X.prog X.w X.K X.mg X.base s.heap H X.stack f tl := by
  intro f tl h
  rcases h with h | ⟨o, body, scope, c', hP, hS, hf, ho, rfl⟩
  · obtain ⟨a1, a2, a3⟩ := g.aex ⟨f, tl, h⟩
    have ub : Un (frs X.outer) [] X.H_0 H X.s_0.heap s.heap := by
      have b := I.base
      rw [a1] at b
      exact b
    refine (g.act f tl h).later ub (fun b hb => ?_) fun b hb hn => ?_
    · rw [a2]
      unfold frs
      rw [List.filterMap_cons, a3]
      exact List.mem_cons_of_mem _ hb
    · have e : b = X.env.locals := by
        rw [a2] at hb
        unfold frs at hb
        rw [List.filterMap_cons, a3] at hb
        rcases List.mem_cons.mp hb with z | z
        · exact z
        · exact absurd z hn
      rw [e]
      exact Heap.get?_none_of_le I.ok.above
  · obtain ⟨p, hp⟩ := Option.isSome_iff_exists.mp hP
    obtain ⟨c, _, _, _, _, e1, e2⟩ := g.lam p hp
    have LS : LamS X.env.scope scope := by
      rw [g.sc]
      exact lamS_by hS
    rw [← e1, ← e2] at ho
    have z := lam_act (tb := fun E => wb scope (fun cls d _ H'' => E cls d H'') body) I LS hf ho fun A outer s H E hr => hb A outer s H E scope f c' body hr
    rw [e2] at z
    exact z
theorem acts_at (g : Good k Γ sc W X) {wb : Scope → WX → Expr → TE}
    (hb : ∀ (A : Around) (outer : List Env) (s : Shared) (H : Hp) (E : XK) (scope : Scope) (f c' : Addr) (body : Expr), RoomG lamRoom A → PE (lamCx X A outer s H E scope f c') body (wb scope (fun cls d _ H'' => E cls d H'') body))
    {pins : List (Addr × Obj)} {σ : L2.St} {H : Hp} {s : Shared} (I : Inv X pins σ H s) : ∀ f tl, actsAt Γ sc wb σ H f tl → Act X.prog X.w X.K X.mg X.base s.heap H X.stack f tl := by
  intro f tl h
  refine acts_ok g hb I f tl ?_
  unfold actsAt at h
  cases hP : Γ.P with
  | some p => rw [hP] at h; exact h
  | none => rw [hP] at h; exact .inl h
theorem pe_wB (g : Good k Γ sc W X) {f : Expr → TE} (hE : ∀ e, PE X e (f e)) {x : Str} {e : Expr} {es : List Expr} {p pos : Pos} {r : Bk × (List V → Hp → VK → Prop)} (h0 : oddName x = false) (c : glb sc x = true) (hfr : Γ.free x = true) (hb : bTab X.K x = some r) (h1 : noStar (e :: es) = true) :
    PE X (.Call (.Name x p) (e :: es) [] pos) (wB X.K Γ sc f x e es r.2) := by
  obtain ⟨b, r⟩ := r
  unfold wB
  split
  · rename_i y p1 a p3 p2
    split
    · rename_i hc
      simp only [Bool.and_eq_true, decide_eq_true_eq] at hc
      obtain ⟨⟨⟨rfl, rfl⟩, hg⟩, hy⟩ := hc
      exact pe_zip g.calm (gl_of g c) (g.free _ hfr) (gl_of g hg) (g.free _ hy) (hE a)
    · exact pe_bi g h0 c hfr hb h1 (pa_wL hE h1)
  · rename_i y p1 a p2 nst
    split
    · rename_i hc
      simp only [Bool.and_eq_true, Bool.or_eq_true, decide_eq_true_eq] at hc
      obtain ⟨⟨⟨⟨hx, rfl⟩, hg⟩, hy⟩, ha⟩ := hc
      split
      · rename_i hx2
        subst hx2
        exact pe_listRg g.calm (gl_of g c) (g.free _ hfr) (prg_1 (gl_of g hg) (g.free _ hy) (hE a) (star_one ha)) (star_one h1)
      · rename_i hx2
        obtain rfl := hx.resolve_left hx2
        exact pe_tupRg g.calm (gl_of g c) (g.free _ hfr) (prg_1 (gl_of g hg) (g.free _ hy) (hE a) (star_one ha)) (star_one h1)
    · exact pe_bi g h0 c hfr hb h1 (pa_wL hE h1)
  · rename_i y p1 a a2 p2
    split
    · rename_i hc
      simp only [Bool.and_eq_true, Bool.or_eq_true, decide_eq_true_eq] at hc
      obtain ⟨⟨⟨⟨hx, rfl⟩, hg⟩, hy⟩, ha⟩ := hc
      split
      · rename_i hx2
        subst hx2
        exact pe_listRg g.calm (gl_of g c) (g.free _ hfr) (prg_2 (gl_of g hg) (g.free _ hy) (hE a) (hE a2) (star_one ha) (star_one (star_tail ha)) (star_any (star_tail ha))) (star_one h1)
      · rename_i hx2
        obtain rfl := hx.resolve_left hx2
        exact pe_tupRg g.calm (gl_of g c) (g.free _ hfr) (prg_2 (gl_of g hg) (g.free _ hy) (hE a) (hE a2) (star_one ha) (star_one (star_tail ha)) (star_any (star_tail ha))) (star_one h1)
    · exact pe_bi g h0 c hfr hb h1 (pa_wL hE h1)
  · exact pe_bi g h0 c hfr hb h1 (pa_wL hE h1)
end
end G

set_option Elab.async false
set_option linter.all false
set_option maxRecDepth 100000
set_option maxHeartbeats 8000000
namespace G
open PySem PySem.Spec PyProof.Rows L2 LamX
section
variable {X : Cx}
theorem pe_if_t {e : Expr} {c : Prop} [Decidable c] {t : TE} (h : c → PE X e t) : PE X e (if c then t else tNo) := by
  by_cases q : c
  · rw [if_pos q]
    exact h q
  · rw [if_neg q]
    exact pe_no
theorem pe_if_f {e : Expr} {c : Prop} [Decidable c] {t : TE} (h : ¬ c → PE X e t) : PE X e (if c then tNo else t) := by
  by_cases q : c
  · rw [if_pos q]
    exact pe_no
  · rw [if_neg q]
    exact h q
theorem pt_if_f {e : Expr} {c : Prop} [Decidable c] {t : TT} (h : ¬ c → PT X e t) : PT X e (if c then noT else t) := by
  by_cases q : c
  · rw [if_pos q]
    exact ⟨fun _ _ _ _ _ _ z => z.elim⟩
  · rw [if_neg q]
    exact h q
theorem pt_no {e : Expr} : PT X e noT := ⟨fun _ _ _ _ _ _ z => z.elim⟩
theorem snd (n : Nat) : ∀ {X : Cx} {k : Nat} {Γ : Gam} {sc : Scope} {W : WX}, Good k Γ sc W X → (∀ e, PE X e (wE X.K n Γ sc W e)) ∧ (∀ e, PT X e (wT X.K n Γ sc W e)) := by
  induction n with
  | zero => exact fun _ => ⟨fun _ => pe_no, fun _ => pt_no⟩
  | succ n ih =>
    intro X k Γ sc W g
    obtain ⟨hE, hT⟩ := ih g
    have hu := g.units
    have hu1 : X.A.units + 1 < cLine := by omega
    have main : ∀ e, PE X e (wE X.K (n + 1) Γ sc W e) := by
      intro e
      cases e with
      | Constant c j p =>
        cases c with
        | int i => exact pe_int
        | bool b => exact pe_bl
        | none => exact pe_non
        | str x => exact pe_str
        | _ => exact pe_no
      | Name x p => exact pe_name g
      | BinOp a op b p => exact pe_op (ok_bin op) (hE a) (hE b)
      | UnaryOp op a p =>
        cases op with
        | USub => exact pe_un (r := rU fun i => .int (-i)) un_neg (hE a)
        | Not => exact pe_notT (hE a)
        | _ => exact pe_no
      | BoolOp op vs p =>
        cases op with
        | And => exact pe_and_l hE
        | Or => exact pe_or_l hE
      | Compare a ops bs p =>
        match ops, bs with
        | [op], [b] => exact pe_if_f fun h => pe_cmpR (ok_wCmp g op) (hE a) (hE b) (Bool.eq_false_iff.mpr h)
        | [op, op'], [b, c] => exact pe_if_f fun h => pe_chain (ok_wCmp g op) (ok_wCmp g op') (hE a) (hE b) (hE c) (Bool.eq_false_iff.mpr h)
        | [], _ => exact pe_no
        | [_], [] => exact pe_no
        | [_], _ :: _ :: _ => exact pe_no
        | [_, _], [] => exact pe_no
        | [_, _], [_] => exact pe_no
        | [_, _], _ :: _ :: _ :: _ => exact pe_no
        | _ :: _ :: _ :: _, _ => exact pe_no
      | IfExp c a b p => exact pe_ifExp (hT c) (hE a) (hE b)
      | List es p => exact pe_if_t fun h => pe_lst (pa_wL hE h)
      | Tuple es kk p => exact pe_if_t fun h => pe_tup (pa_wL hE h)
      | Dict ks vs p =>
        match ks, vs with
        | [], [] => exact pe_dnewK
        | [], _ :: _ => exact pe_no
        | a :: ks, vs =>
          refine pe_if_t fun h => ?_
          simp only [Bool.and_eq_true, decide_eq_true_eq, beq_iff_eq] at h
          exact pe_disp (pps_w hE h.1.1 h.1.2) h.1.1 h.1.2 (by simp) h.2
      | Subscript a b p =>
        cases b with
        | Slice lo hi st p2 =>
          cases st with
          | some z =>
            refine pe_if_t fun h => ?_
            simp only [Bool.and_eq_true, Option.isNone_iff_eq_none] at h
            obtain ⟨⟨rfl, rfl⟩, hz⟩ := h
            exact pe_revA (hE a) hz
          | none =>
            cases lo <;> cases hi <;> first
              | exact pe_slice sl_all (hE a) po_none po_none
              | exact pe_slice sl_all (hE a) (po_some (hE _)) po_none
              | exact pe_slice sl_all (hE a) po_none (po_some (hE _))
              | exact pe_slice sl_all (hE a) (po_some (hE _)) (po_some (hE _))
        | _ => exact pe_ix (ok_sub2 hu1) (hE a) (hE _) (slice_no rfl)
      | Attribute o f p => exact pe_if_t fun h => pe_attr (hE o) h
      | Lambda a body scope p =>
        have gen : PE X (.Lambda a body scope p) (match a, Γ.P with
          | ⟨[], [], none, [], [], none, []⟩, some _ => if lamSB sc scope = true then tLamV Γ.qual Γ.cells Γ.T body scope else tNo
          | _, _ => tNo) := by
          split
          · rename_i q hp
            exact pe_if_t fun h => pe_lamV g hp h
          · exact pe_no
        exact gen
      | Call fn es kws pos =>
        cases fn with
        | Name x p =>
          have gen : PE X (.Call (.Name x p) es kws pos) (if (oddName x || !noStar es || !kwAll kws) = true then tNo else if glb sc x = true then (match Γ.fn x es.length (kwNames kws) with
              | some p => tFn p.2 (actsAt Γ sc fun s' W' b => wE X.K n Γ.low s' W' b) W (wL (wE X.K n Γ sc W) es) (wKw (wE X.K n Γ sc W) kws) es.length (kwNames kws).length
              | none => (match es, kws, bTab X.K x with
                | e :: es, [], some r => if Γ.free x = true then wB X.K Γ sc (wE X.K n Γ sc W) x e es r.2 else tNo
                | _, _, _ => tNo)) else if vis sc x = true then (match es, kws, slot Γ.N x with
                | [], [], some i => tThunk i Γ.act W
                | _, _, _ => tNo) else tNo) := by
            refine pe_if_f fun h => ?_
            have h' := Bool.eq_false_iff.mpr h
            simp only [Bool.or_eq_false_iff, Bool.not_eq_false'] at h'
            obtain ⟨⟨h0, h1⟩, h2⟩ := h'
            by_cases c : glb sc x = true
            · rw [if_pos c]
              cases hf : Γ.fn x es.length (kwNames kws) with
              | some q =>
                refine pe_fn g h0 c hf h1 h2 (pa_wL hE h1) (fun e => by subst e; rfl) (pk_wK hE) fun pins σ H s I => acts_at g (fun A outer s H E scope f c' body hr => ?_) I
                exact (ih (good_lam g A outer s H E scope f c' hr)).1 body
              | none =>
                match es, kws, hb : bTab X.K x with
                | [], _, _ => exact pe_no
                | _ :: _, _ :: _, _ => exact pe_no
                | _ :: _, [], none => exact pe_no
                | e :: es, [], some r => exact pe_if_t fun hfr => pe_wB g hE h0 c hfr hb h1
            · rw [if_neg c]
              by_cases c2 : vis sc x = true
              · rw [if_pos c2]
                match es, kws, hb : slot Γ.N x with
                | [], [], some i =>
                  by_cases hk : lamRoom ≤ k
                  · exact pe_thunk g h0 c2 hb hk
                  · refine ⟨fun pins s σ H Q I hh => ?_⟩
                    obtain ⟨f, tl, e1, ac, ht⟩ := hh
                    exact absurd (g.aek ⟨f, tl, ac⟩) hk
                | [], [], none => exact pe_no
                | [], _ :: _, _ => exact pe_no
                | _ :: _, _, _ => exact pe_no
              · rw [if_neg c2]
                exact pe_no
          exact gen
        | Attribute o m apos =>
          cases kws with
          | nil =>
            refine pe_if_t fun h => ?_
            simp only [Bool.and_eq_true, decide_eq_true_eq] at h
            cases hM : Γ.mt m with
            | some M => exact pe_mt g hM (hE o) h.1.1.1 (pa_wL hE h.1.1.2) (fun e => by subst e; rfl) h.1.1.2 h.1.2 h.2
            | none => exact pe_mtab (hE o) (pa_wL hE h.1.1.2) h.1.1.1 h.1.1.2 h.1.2
          | cons a b => exact pe_no
        | _ => exact pe_no
      | ListComp elt gs scope pos =>
        match gs with
        | [] => exact pe_no
        | c1 :: c2 :: c3 :: r =>
          have no : wE X.K (n + 1) Γ sc W (.ListComp elt (c1 :: c2 :: c3 :: r) scope pos) = tNo := by
            unfold wE
            split <;> first
              | rfl
              | (rename_i q; simp at q)
          rw [no]
          exact pe_no
        | [⟨tg, iter, ifs, a⟩, ⟨tg1, iter1, ifs1, a1⟩] =>
          by_cases ha : a = 0 ∧ a1 = 0
          · obtain ⟨ha, ha1⟩ := ha
            subst ha ha1
            refine pe_if_t fun h => ?_
            simp only [Bool.and_eq_true] at h
            obtain ⟨⟨⟨h1, h2⟩, h3⟩, h4⟩ := h
            have bk : BlkOk X.N X.env.scope scope (ownS Γ.N scope) := by
              rw [g.N, g.sc]
              exact blkOk_by h1
            have gb := fun s H C cl fp => good_blk g s H scope C cl fp
            have pts : ∀ (ifs : List Expr) s H C cl fp, PTs (X.blk s H scope (compEnvC scope cl C X.env) fp) ifs (match ifs with
              | [] => tYes
              | [c] => wT X.K n Γ.blk (relS scope sc) noW c
              | _ => noT) := fun ifs s H C cl fp => by
              match ifs with
              | [] => exact pts_nil
              | [c] => exact pts_one ((ih (gb s H C cl fp)).2 c)
              | _ :: _ :: _ => exact ⟨fun _ _ _ _ _ _ z => z.elim⟩
            have pgs : ∀ (tg : Expr) s H C cl fp, PG (X.blk s H scope (compEnvC scope cl C X.env) fp) tg (wG X.K Γ.blk (relS scope sc) (ownC scope) (wE X.K n Γ.blk (relS scope sc) noW) tg) := fun tg s H C cl fp => by
              have q := gb s H C cl fp
              exact pg_w q.calm (by have := q.units; omega) q.N q.sc q.nd (fun x z => z) (ih q).1 tg
            exact pe_lc2 g.calm (by rw [g.N]; exact g.nd) (pi_w g hE tg iter) bk (vsIn_ok h4) (pgs tg) (pts ifs) (fun s H C cl fp => pi_w (gb s H C cl fp) (ih (gb s H C cl fp)).1 tg1 iter1) (pgs tg1) (pts ifs1)
              (fun s H C cl fp => (ih (gb s H C cl fp)).1 elt) (set_no (by simpa using h2) _) (fun env => set_no (by simpa using h3) env)
          · have no : wE X.K (n + 1) Γ sc W (.ListComp elt [⟨tg, iter, ifs, a⟩, ⟨tg1, iter1, ifs1, a1⟩] scope pos) = tNo := by
              unfold wE
              split <;> first
                | rfl
                | (rename_i q; cases q; exact absurd ⟨rfl, rfl⟩ ha)
                | (rename_i q; simp at q)
            rw [no]
            exact pe_no
        | [⟨tg, iter, ifs, a⟩] =>
          by_cases ha : a = 0
          · subst ha
            refine pe_if_t fun h => ?_
            obtain ⟨h1, h2⟩ := Bool.and_eq_true_iff.mp h
            have bk : BlkOk X.N X.env.scope scope (ownS Γ.N scope) := by
              rw [g.N, g.sc]
              exact blkOk_by h1
            have gb := fun s H C cl fp => good_blk g s H scope C cl fp
            refine pe_lc g.calm (by rw [g.N]; exact g.nd) (pi_w g hE tg iter) bk (fun s H C cl fp => ?_) (fun s H C cl fp => ?_) (fun s H C cl fp => (ih (gb s H C cl fp)).1 elt) (set_no (by simpa using h2) _)
            · have q := gb s H C cl fp
              exact pg_w q.calm (by have := q.units; omega) q.N q.sc q.nd (fun x z => z) (ih q).1 tg
            · match ifs with
              | [] => exact pts_nil
              | [c] => exact pts_one ((ih (gb s H C cl fp)).2 c)
              | _ :: _ :: _ => exact ⟨fun _ _ _ _ _ _ z => z.elim⟩
          · have no : wE X.K (n + 1) Γ sc W (.ListComp elt [⟨tg, iter, ifs, a⟩] scope pos) = tNo := by
              unfold wE
              split <;> first
                | rfl
                | (rename_i q; cases q; exact absurd rfl ha)
                | (rename_i q; simp at q)
            rw [no]
            exact pe_no
      | _ => exact pe_no
    refine ⟨main, fun e => ?_⟩
    have tru : ∀ e, plainTest e = true → PT X e (tTru X.K (wE X.K n Γ sc W e)) := fun e h => pt_truth (hE e) (tests_no h _)
    cases e with
    | BoolOp op vs p =>
      cases op with
      | And => exact (pw_and_l hT).pt
      | Or => exact (pw_or_l hT).pt
    | UnaryOp op a p =>
      cases op with
      | Not => exact pt_not (hT a)
      | _ => exact pt_no
    | Compare a ops bs p =>
      match ops, bs with
      | [op], [b] => exact pt_if_f fun h => pt_cmpR (ok_wCmp g op) (hE a) (hE b) (Bool.eq_false_iff.mpr h)
      | [op, op'], [b, c] => exact pt_if_f fun h => pt_chain (ok_wCmp g op) (ok_wCmp g op') (hE a) (hE b) (hE c) (Bool.eq_false_iff.mpr h)
      | [], _ => exact pt_no
      | [_], [] => exact pt_no
      | [_], _ :: _ :: _ => exact pt_no
      | [_, _], [] => exact pt_no
      | [_, _], [_] => exact pt_no
      | [_, _], _ :: _ :: _ :: _ => exact pt_no
      | _ :: _ :: _ :: _, _ => exact pt_no
    | Name => exact tru _ rfl
    | Call => exact tru _ rfl
    | Subscript => exact tru _ rfl
    | Attribute => exact tru _ rfl
    | BinOp => exact tru _ rfl
    | ListComp => exact tru _ rfl
    | Constant => exact tru _ rfl
    | _ => exact pt_no
end
end G

set_option Elab.async false
set_option linter.all false
set_option maxRecDepth 100000
set_option maxHeartbeats 8000000
namespace G
open PySem PySem.Spec PyProof.Rows L2 LamX
/-! ## statements -/
def isStarE (e : Expr) : Bool := match e with
  | .Starred .. => true
  | _ => false
def swS (sc : Scope) (ts vs : List Expr) : Option (Option (List Str)) :=
  if (!(ts.length == 2 || ts.length == 3) || vs.length != ts.length) = true then some none
  else if vs.any isStarE = true then some none
  else
    let line := (ts.head?.map (·.pos.line)).getD 0
    let names := ts.filterMap fun
      | .Name id pos => if (sc.names.lookup id == some .local && pos.line == line) = true then some id else none
      | _ => none
    if (names.length != ts.length || names.eraseDups.length != names.length) = true then some none
    else if vs.all (foldedForSure 8) = true then some none
    else if vs.all (constantsAlone 8) = true then none
    else some (some names)
theorem blockFn {env : Env} (hk : env.scope.kind = .function) : env.blockKind = .function := by
  unfold Env.blockKind
  rw [hk]
  rfl
theorem sw_eq {env : Env} {ts vs : List Expr} {k k2 : Nat} {p p2 : Pos} {r : Option (List Str)} (hk : env.scope.kind = .function) (h : swS env.scope ts vs = some r) : swappedStores [.Tuple ts k p] (.Tuple vs k2 p2) env = pure r := by
  have hb := blockFn hk
  unfold swappedStores
  simp only [hb]
  unfold swS at h
  by_cases c1 : (!(ts.length == 2 || ts.length == 3) || vs.length != ts.length) = true
  · rw [if_pos c1] at h
    cases h
    exact if_pos (by rw [c1]; rfl)
  · rw [if_neg c1] at h
    have f1 := Bool.eq_false_iff.mpr c1
    rw [if_neg (by rw [f1]; decide)]
    by_cases c2 : vs.any isStarE = true
    · rw [if_pos c2] at h
      cases h
      exact if_pos c2
    · rw [if_neg c2] at h
      refine (if_neg c2).trans ?_
      simp only at h
      split at h
      · rename_i c3
        cases h
        exact if_pos c3
      · rename_i c3
        refine (if_neg c3).trans ?_
        by_cases c4 : vs.all (foldedForSure 8) = true
        · rw [if_pos c4] at h
          cases h
          exact if_pos c4
        · rw [if_neg c4] at h
          refine (if_neg c4).trans ?_
          by_cases c5 : vs.all (constantsAlone 8) = true
          · rw [if_pos c5] at h
            cases h
          · rw [if_neg c5] at h
            cases h
            exact (if_neg c5).trans rfl
/-- a comprehension that is stored at a local on its own line takes another road -/
def swC (sc scope : Scope) (x : Str) (px pe : Pos) : Bool :=
  sc.names.lookup x == some .local && px.line == pe.line && !(scope.names.any fun (n, k) => n == x && (k == .local || k == .cell))
theorem swC_eq {env : Env} {elt : Expr} {gs : List Comprehension} {scope : Scope} {pos px : Pos} {x : Str} {l : Nat} (hk : env.scope.kind = .function) :
    swapsWith (.ListComp elt gs scope pos) (some (.Name x px)) l env = pure (swC env.scope scope x px pos) := by
  have hb := blockFn hk
  unfold swapsWith swC
  simp only [hb]
  rfl
def okAsg (e : Expr) : Bool := match e with
  | .SetComp .. => false
  | .DictComp .. => false
  | _ => true
def wSL (f : Stmt → TS) : List Stmt → TS
  | [] => tNext
  | [s] => f s
  | s :: r => tSeq (f s) (wSL f r)
/-- what stands in an except suite -/
def wSu (N : List Str) (sc : Scope) : List Stmt → TS
  | [.Assign [.Name y _] (.Name z _) _] => if !oddName z && loc sc y && vis sc z then (match slot N y, slot N z with
    | some j, some l => tAsg (tVar l) (gName j)
    | _, _ => tNoS) else tNoS
  | [.Assign [.Name y _] (.Constant .none _ _) _] => if loc sc y then (match slot N y with
    | some j => tAsg (tC .non) (gName j)
    | none => tNoS) else tNoS
  | [.Return (some (.Constant .none _ _)) _] => tRet (tC .non)
  | [.Return (some (.Constant (.bool b) _ _)) _] => tRet (tC (.bl b))
  | [.Return none _] => tRetN
  | _ => tNoS
def raise0 (Γ : Gam) (W : WX) (x : Str) (e : Expr) : TS := match e, Γ.exc x with
  | .Constant (.str _) _ _, some C => tRaise0 C W
  | _, _ => tNoS
def wS (K : PySem.W.Frag) : Nat → Gam → Scope → WX → Stmt → TS
  | 0, _, _, _, _ => tNoS
  | n + 1, Γ, sc, W, st => match st with
    | .Pass _ => tNext
    | .Break _ => tBreak
    | .Continue _ => tCont
    | .Return none _ => tRetN
    | .Return (some e) _ => tRet (wE K n Γ sc W e)
    | .Expr e _ => if isComp e then tNoS else tDrop (wE K n Γ sc W e)
    | .Assign [.Name x _] e _ => if okAsg e && loc sc x then (match slot Γ.N x with
      | some i => tAsg (wE K n Γ sc W e) (gName i)
      | none => tNoS) else tNoS
    | .Assign [.Tuple ts _ _] (.Tuple vs kk p2) _ => (match swS sc ts vs with
      | some (some _) => (match ts, vs with
        | [.Name x _, .Name y _], [a, b] => (match slot Γ.N x, slot Γ.N y with
          | some i, some j => if i ≠ j ∧ sc.names.lookup x = some .local ∧ sc.names.lookup y = some .local ∧ swS sc ts vs = some (some [x, y]) ∧ noStar [a, b] = true then tPar i j (wL (wE K n Γ sc W) [a, b]) else tNoS
          | _, _ => tNoS)
        | [.Name x _, .Name y _, .Name z _], [a, b, c] => (match slot Γ.N x, slot Γ.N y, slot Γ.N z with
          | some i, some j, some l => if i ≠ j ∧ i ≠ l ∧ j ≠ l ∧ sc.names.lookup x = some .local ∧ sc.names.lookup y = some .local ∧ sc.names.lookup z = some .local ∧ swS sc ts vs = some (some [x, y, z]) ∧ noStar [a, b, c] = true then
              tPar3 i j l (wL (wE K n Γ sc W) [a, b, c]) else tNoS
          | _, _, _ => tNoS)
        | _, _ => tNoS)
      | some none => tAsg (wE K n Γ sc W (.Tuple vs kk p2)) (wG K Γ sc (fun _ => true) (wE K n Γ sc W) (.Tuple ts 0 p2))
      | none => tNoS)
    | .Assign [.Tuple ts k p] e _ => if isComp e then tNoS else tAsg (wE K n Γ sc W e) (wG K Γ sc (fun _ => true) (wE K n Γ sc W) (.Tuple ts k p))
    | .Assign [.Attribute o f _] e _ => if isComp e then tNoS else sFld K (wE K n Γ sc W o) (wE K n Γ sc W e) f
    | .Assign [.Subscript o i p] e _ => tAsg (wE K n Γ sc W e) (wG K Γ sc (fun _ => true) (wE K n Γ sc W) (.Subscript o i p))
    | .AugAssign (.Name x _) op e _ => if loc sc x then (match slot Γ.N x with
      | some i => tAug i (wE K n Γ sc W e) (rAug K op)
      | none => tNoS) else tNoS
    | .If c a b _ => tIfS (wT K n Γ sc W c) (wSL (wS K n Γ sc W) a) (wSL (wS K n Γ sc W) b)
    | .While c b [] _ => tWhile (wT K n Γ sc W c) (wSL (wS K n Γ sc W) b)
    | .For tg iter b [] _ => if isSetD iter then tNoS else tFor (wI K Γ sc (wE K n Γ sc W) tg iter) (wG K Γ sc (fun _ => true) (wE K n Γ sc W) tg) (wSL (wS K n Γ sc W) b)
    | .Raise (some (.Call (.Name x _) [e] [] _)) none _ => if oddName x then tNoS else if glb sc x then (match Γ.exA x with
      | some p => if noStar [e] then tRaiseA p.1 p.2 W (wL (wE K n Γ sc W) [e]) else tNoS
      | none => raise0 Γ W x e) else tNoS
    | .Try body [.ExceptHandler (some (.Name x _)) (some nm) (b₀ :: suite) _] [] [] _ => if oddName x then tNoS else if glb sc x && decide (sc.names.lookup nm = some .local) then (match Γ.exc x, slot Γ.N nm with
      | some C, some i => fun D σ H => wSL (wS K n Γ sc (wKeep K (.ref C) i (wSu Γ.N sc (b₀ :: suite)) W D)) body D σ H
      | _, _ => tNoS) else tNoS
    | _ => tNoS
structure GoodS (k : Nat) (Γ : Gam) (sc : Scope) (W : WX) (X : Cx) : Prop extends Good k Γ sc W X where
  hs : X.stack = X.env :: X.outer
  hf : X.env.frame = some X.env.locals
  fnok : ∀ x, X.fn x = true
section
variable {X : Cx} {k : Nat} {Γ : Gam} {sc : Scope} {W : WX}
theorem ps_if_f {e : Stmt} {c : Prop} [Decidable c] {t : TS} (h : ¬ c → PS X e t) : PS X e (if c then tNoS else t) := by
  by_cases q : c
  · rw [if_pos q]
    exact ps_no
  · rw [if_neg q]
    exact h q
theorem ps_if_t {e : Stmt} {c : Prop} [Decidable c] {t : TS} (h : c → PS X e t) : PS X e (if c then t else tNoS) := by
  by_cases q : c
  · rw [if_pos q]
    exact h q
  · rw [if_neg q]
    exact ps_no
theorem pss_w {f : Stmt → TS} (hf : ∀ s, PS X s (f s)) : ∀ {b : List Stmt}, PSs X b (wSL f b)
  | [] => pss_nil
  | [s] => pss_one (hf s)
  | s :: t :: r => pss_cons (hf s) (pss_w hf (b := t :: r))
theorem GoodS.try_ (g : GoodS k Γ sc W X) {W' : WX} {pn : List (Addr × Obj)} {xe : Value → Shared → Prop} (tk : Takes (X.tr pn xe) W') (hp : PassesOwn (model X.prog X.w) X.A X.env xe) : GoodS k Γ sc W' (X.tr pn xe) where
  calm := g.calm
  sc := g.sc
  N := g.N
  nd := g.nd
  room := g.room
  fn := g.fn
  mt := g.mt
  gv := g.gv
  free := g.free
  exc := g.exc
  exA := g.exA
  act := g.act
  aex := g.aex
  aek := g.aek
  pass := hp
  takes := tk
  lam := g.lam
  hs := g.hs
  hf := g.hf
  fnok := g.fnok
theorem pss_su (g : GoodS k Γ sc W X) (a : Addr) (pn : List (Addr × Obj)) (b : List Stmt) : PSs (X.suite a pn) b (wSu Γ.N sc b) := by
  have no : ∀ {b : List Stmt}, PSs (X.suite a pn) b tNoS := ⟨fun _ _ _ _ _ _ z => z.elim⟩
  have nd : X.N.Nodup := by
    rw [g.N]
    exact g.nd
  have at_ : ∀ {x : Str} {i : Nat}, slot Γ.N x = some i → X.N[i]? = some x := fun h => by
    rw [g.N]
    exact slot_ok h
  unfold wSu
  split
  · split
    · rename_i c
      simp only [Bool.and_eq_true, Bool.not_eq_true'] at c
      obtain ⟨⟨c0, c1⟩, c2⟩ := c
      obtain ⟨o1, o2, o3⟩ := oddName_no c0
      split
      · rename_i h1 h2
        exact pss_one (ps_set (X := X.suite a pn) nd (at_ h1) (by show Loc X.env.scope _; rw [g.sc]; exact loc_ok c1) (pe_var (X := X.suite a pn) (at_ h2) (by show Vis X.env.scope _; rw [g.sc]; exact vis_ok c2) o1 o2) rfl (.inl (g.fnok _)))
      · exact no
    · exact no
  · split
    · rename_i c
      split
      · rename_i h1
        exact pss_one (ps_set (X := X.suite a pn) nd (at_ h1) (by show Loc X.env.scope _; rw [g.sc]; exact loc_ok c) pe_non rfl (.inl (g.fnok _)))
      · exact no
    · exact no
  · exact pss_one (ps_ret pe_non)
  · exact pss_one (ps_ret pe_bl)
  · exact pss_one ps_retN
  · exact no
end
end G

set_option Elab.async false
set_option linter.all false
set_option maxRecDepth 100000
set_option maxHeartbeats 8000000
namespace G
open PySem PySem.Spec PyProof.Rows L2 LamX
section
variable {X : Cx} {k : Nat} {Γ : Gam} {sc : Scope} {W : WX}
theorem no_swap {e : Expr} (h : isComp e = false) {t : Option Expr} {l : Nat} {env : Env} : swapsWith e t l env = pure false := by
  unfold isComp at h
  cases e <;> first
    | rfl
    | cases h
theorem ps_dead {st : Stmt} {t : TS} (h : ∀ D σ H, ¬ t D σ H) : PS X st t := ⟨fun _ _ _ _ _ _ z => (h _ _ _ z).elim⟩
/-- name = e -/
theorem ps_name (n : Nat) (g : GoodS k Γ sc W X) {x : Str} {px pos : Pos} {e : Expr} {i : Nat} (hok : okAsg e = true) (hl : loc sc x = true) (hi : slot Γ.N x = some i) :
    PS X (.Assign [.Name x px] e pos) (tAsg (wE X.K n Γ sc W e) (gName i)) := by
  have nd : X.N.Nodup := by
    rw [g.N]
    exact g.nd
  have hN : X.N[i]? = some x := by
    rw [g.N]
    exact slot_ok hi
  have hL : Loc X.env.scope x := by
    rw [g.sc]
    exact loc_ok hl
  have hE := (snd n g.toGood).1 e
  by_cases hc : isComp e = true
  · cases e with
    | ListComp elt gs scope p =>
      by_cases hs : swC sc scope x px p = true
      · have hs2 : sc.names.lookup x = some .local := by
          unfold swC at hs
          simp only [Bool.and_eq_true, beq_iff_eq] at hs
          exact hs.1.1
        cases n with
        | zero => exact ps_dead fun D σ H z => z
        | succ n =>
          have hE2 := (snd n g.toGood).1
          match gs with
          | [] => exact ps_dead fun D σ H z => z
          | c1 :: c2 :: c3 :: r =>
            have no : wE X.K (n + 1) Γ sc W (.ListComp elt (c1 :: c2 :: c3 :: r) scope p) = tNo := by
              unfold wE
              split <;> first
                | rfl
                | (rename_i q; simp at q)
            rw [no]
            exact ps_dead fun D σ H z => z
          | [⟨tg, iter, ifs, a⟩, ⟨tg1, iter1, ifs1, a1⟩] =>
            by_cases ha : a = 0 ∧ a1 = 0
            · obtain ⟨ha, ha1⟩ := ha
              subst ha ha1
              show PS X _ (tAsg (if _ then _ else tNo) _)
              by_cases h : (blkC Γ.N sc scope (ownS Γ.N scope) && !isSetD iter && !isSetD iter1 && vsIn (tgS Γ.N tg1) ((ownS Γ.N scope).map (·.2))) = true
              · rw [if_pos h]
                simp only [Bool.and_eq_true] at h
                obtain ⟨⟨⟨h1, h2⟩, h3⟩, h4⟩ := h
                have bk : BlkOk X.N X.env.scope scope (ownS Γ.N scope) := by
                  rw [g.N, g.sc]
                  exact blkOk_by h1
                have gb := fun s H C cl fp => good_blk g.toGood s H scope C cl fp
                have sw : ∀ l, X.env.scope.kind = .function → swapsWith (.ListComp elt [⟨tg, iter, ifs, 0⟩, ⟨tg1, iter1, ifs1, 0⟩] scope p) (some (.Name x px)) l X.env = pure true := fun l hk => by
                  rw [swC_eq hk, g.sc, hs]
                have pts : ∀ (ifs : List Expr) s H C cl fp, PTs (X.blk s H scope (compEnvC scope cl C X.env) fp) ifs (match ifs with
                  | [] => tYes
                  | [c] => wT X.K n Γ.blk (relS scope sc) noW c
                  | _ => noT) := fun ifs s H C cl fp => by
                  match ifs with
                  | [] => exact pts_nil
                  | [c] => exact pts_one ((snd n (gb s H C cl fp)).2 c)
                  | _ :: _ :: _ => exact ⟨fun _ _ _ _ _ _ z => z.elim⟩
                have pgs : ∀ (tg : Expr) s H C cl fp, PG (X.blk s H scope (compEnvC scope cl C X.env) fp) tg (wG X.K Γ.blk (relS scope sc) (ownC scope) (wE X.K n Γ.blk (relS scope sc) noW) tg) := fun tg s H C cl fp => by
                  have q := gb s H C cl fp
                  exact pg_w q.calm (by have := q.units; omega) q.N q.sc q.nd (fun x z => z) (snd n q).1 tg
                refine ⟨fun pins s σ H D I hh => ?_⟩
                exact (ps_setLc2 g.calm nd hN (by rw [g.sc]; exact hs2) (sw _ I.ok.kind) (pi_w g.toGood hE2 tg iter) bk (vsIn_ok h4) (pgs tg) (pts ifs) (fun s H C cl fp => pi_w (gb s H C cl fp) (snd n (gb s H C cl fp)).1 tg1 iter1) (pgs tg1) (pts ifs1)
                  (fun s H C cl fp => (snd n (gb s H C cl fp)).1 elt) (set_no (by simpa using h2) _) (fun env => set_no (by simpa using h3) env)).run pins s σ H D I hh
              · rw [if_neg h]
                exact ps_dead fun D σ H z => z
            · have no : wE X.K (n + 1) Γ sc W (.ListComp elt [⟨tg, iter, ifs, a⟩, ⟨tg1, iter1, ifs1, a1⟩] scope p) = tNo := by
                unfold wE
                split <;> first
                  | rfl
                  | (rename_i q; cases q; exact absurd ⟨rfl, rfl⟩ ha)
                  | (rename_i q; simp at q)
              rw [no]
              exact ps_dead fun D σ H z => z
          | [⟨tg, iter, ifs, a⟩] =>
            by_cases ha : a = 0
            · subst ha
              show PS X _ (tAsg (if _ then _ else tNo) _)
              by_cases h : (blkC Γ.N sc scope (ownS Γ.N scope) && !isSetD iter) = true
              · rw [if_pos h]
                obtain ⟨h1, h2⟩ := Bool.and_eq_true_iff.mp h
                have bk : BlkOk X.N X.env.scope scope (ownS Γ.N scope) := by
                  rw [g.N, g.sc]
                  exact blkOk_by h1
                have gb := fun s H C cl fp => good_blk g.toGood s H scope C cl fp
                have sw : ∀ l, X.env.scope.kind = .function → swapsWith (.ListComp elt [⟨tg, iter, ifs, 0⟩] scope p) (some (.Name x px)) l X.env = pure true := fun l hk => by
                  rw [swC_eq hk, g.sc, hs]
                refine ⟨fun pins s σ H D I hh => ?_⟩
                refine (ps_setLc g.calm nd hN (by rw [g.sc]; exact hs2) (sw _ I.ok.kind) (pi_w g.toGood hE2 tg iter) bk (fun s H C cl fp => ?_) (fun s H C cl fp => ?_) (fun s H C cl fp => (snd n (gb s H C cl fp)).1 elt) (set_no (by simpa using h2) _)).run pins s σ H D I hh
                · have q := gb s H C cl fp
                  exact pg_w q.calm (by have := q.units; omega) q.N q.sc q.nd (fun x z => z) (snd n q).1 tg
                · match ifs with
                  | [] => exact pts_nil
                  | [c] => exact pts_one ((snd n (gb s H C cl fp)).2 c)
                  | _ :: _ :: _ => exact ⟨fun _ _ _ _ _ _ z => z.elim⟩
              · rw [if_neg h]
                exact ps_dead fun D σ H z => z
            · have no : wE X.K (n + 1) Γ sc W (.ListComp elt [⟨tg, iter, ifs, a⟩] scope p) = tNo := by
                unfold wE
                split <;> first
                  | rfl
                  | (rename_i q; cases q; exact absurd rfl ha)
                  | (rename_i q; simp at q)
              rw [no]
              exact ps_dead fun D σ H z => z
      · refine ⟨fun pins s σ H D I hh => ?_⟩
        exact (ps_set nd hN hL hE (by rw [swC_eq I.ok.kind, g.sc, Bool.eq_false_iff.mpr hs]) (.inl (g.fnok x))).run pins s σ H D I hh
    | SetComp => cases hok
    | DictComp => cases hok
    | _ => cases hc
  · exact ps_set nd hN hL hE (no_swap (Bool.eq_false_iff.mpr hc)) (.inl (g.fnok x))
theorem no_sole {e : Expr} {t : Expr} (h : (match t with | .Name .. => isComp e | _ => false) = false) {l : Nat} {env : Env} : swapsWithSole [t] e l env = pure false := by
  show swapsWith e (some t) l env = pure false
  by_cases hc : isComp e = true
  · cases t <;> first
      | (cases e <;> rfl)
      | (have h2 : isComp e = false := h
         rw [hc] at h2
         cases h2)
  · exact no_swap (Bool.eq_false_iff.mpr hc)
theorem sndS (n : Nat) : ∀ {X : Cx} {k : Nat} {Γ : Gam} {sc : Scope} {W : WX}, GoodS k Γ sc W X → ∀ st, PS X st (wS X.K n Γ sc W st) := by
  induction n with
  | zero => exact fun _ _ => ps_no
  | succ n ih =>
    intro X k Γ sc W g
    obtain ⟨hE, hT⟩ := snd n g.toGood
    have hS := ih g
    have hu := g.units
    have hu1 : X.A.units + 1 < cLine := by omega
    have nd : X.N.Nodup := by
      rw [g.N]
      exact g.nd
    have hG : ∀ tg, PG X tg (wG X.K Γ sc (fun _ => true) (wE X.K n Γ sc W) tg) := pg_w g.calm hu1 g.N g.sc g.nd (fun x _ => g.fnok x) hE
    have at_ : ∀ {x : Str} {i : Nat}, slot Γ.N x = some i → X.N[i]? = some x := fun h => by
      rw [g.N]
      exact slot_ok h
    intro st
    cases st with
    | Pass p => exact ps_pass
    | Break p => exact ps_break
    | Continue p => exact ps_continue
    | Return v p =>
      cases v with
      | none => exact ps_retN
      | some e => exact ps_ret (hE e)
    | Expr e p => exact ps_if_f fun h => ps_expr (hE e) (no_swap (Bool.eq_false_iff.mpr h))
    | Assign ts e p =>
      match ts with
      | [] => exact ps_no
      | [tg] =>
        cases tg with
        | Name x px =>
          refine ps_if_t fun h => ?_
          obtain ⟨h1, h2⟩ := Bool.and_eq_true_iff.mp h
          cases hi : slot Γ.N x with
          | none => exact ps_no
          | some i => exact ps_name n g h1 h2 hi
        | Subscript o i q => exact ps_asg (hE e) (hG _) (no_sole rfl) (by cases e <;> rfl) rfl
        | Attribute o f q => exact ps_if_f fun h => ps_fld (hE o) (hE e) (no_swap (Bool.eq_false_iff.mpr h))
        | Tuple ts kk q =>
          by_cases ht : ∃ vs k2 p2, e = .Tuple vs k2 p2
          · obtain ⟨vs, k2, p2, rfl⟩ := ht
            show PS X _ (match swS sc ts vs with
              | some (some _) => (match ts, vs with
                | [.Name x _, .Name y _], [a, b] => (match slot Γ.N x, slot Γ.N y with
                  | some i, some j => if i ≠ j ∧ sc.names.lookup x = some .local ∧ sc.names.lookup y = some .local ∧ swS sc ts vs = some (some [x, y]) ∧ noStar [a, b] = true then tPar i j (wL (wE X.K n Γ sc W) [a, b]) else tNoS
                  | _, _ => tNoS)
                | [.Name x _, .Name y _, .Name z _], [a, b, c] => (match slot Γ.N x, slot Γ.N y, slot Γ.N z with
                  | some i, some j, some l => if i ≠ j ∧ i ≠ l ∧ j ≠ l ∧ sc.names.lookup x = some .local ∧ sc.names.lookup y = some .local ∧ sc.names.lookup z = some .local ∧ swS sc ts vs = some (some [x, y, z]) ∧ noStar [a, b, c] = true then
                      tPar3 i j l (wL (wE X.K n Γ sc W) [a, b, c]) else tNoS
                  | _, _, _ => tNoS)
                | _, _ => tNoS)
              | some none => tAsg (wE X.K n Γ sc W (.Tuple vs k2 p2)) (wG X.K Γ sc (fun _ => true) (wE X.K n Γ sc W) (.Tuple ts 0 p2))
              | none => tNoS)
            split
            · split
              · split
                · rename_i x px y py a b i j h1 h2 _ _
                  refine ps_if_t fun c => ?_
                  obtain ⟨c1, c2, c3, c4, c5⟩ := c
                  refine ⟨fun pins s σ H D I hh => ?_⟩
                  refine (ps_par g.calm nd (at_ (by assumption)) (at_ (by assumption)) c1 (by rw [g.sc]; exact c2) (by rw [g.sc]; exact c3) (pa_wL hE c5) (sw_eq I.ok.kind (by rw [g.sc]; exact c4)) rfl).run pins s σ H D I hh
                · exact ps_no
              · split
                · refine ps_if_t fun c => ?_
                  obtain ⟨c1, c2, c3, c4, c5, c6, c7, c8⟩ := c
                  refine ⟨fun pins s σ H D I hh => ?_⟩
                  refine (ps_par3 g.calm nd (at_ (by assumption)) (at_ (by assumption)) (at_ (by assumption)) c1 c2 c3 (by rw [g.sc]; exact c4) (by rw [g.sc]; exact c5) (by rw [g.sc]; exact c6) (pa_wL hE c8) (sw_eq I.ok.kind (by rw [g.sc]; exact c7)) rfl).run pins s σ H D I hh
                · exact ps_no
              · exact ps_no
            · rename_i hw
              refine ⟨fun pins s σ H D I hh => ?_⟩
              exact (ps_asg (tg := .Tuple ts kk q) (g := wG X.K Γ sc (fun _ => true) (wE X.K n Γ sc W) (.Tuple ts kk q)) (hE (.Tuple vs k2 p2)) (hG _) (no_sole rfl) (sw_eq I.ok.kind (by rw [g.sc]; exact hw)) rfl).run pins s σ H D I hh
            · exact ps_no
          · have q1 : wS X.K (n + 1) Γ sc W (.Assign [.Tuple ts kk q] e p) = (if isComp e = true then tNoS else tAsg (wE X.K n Γ sc W e) (wG X.K Γ sc (fun _ => true) (wE X.K n Γ sc W) (.Tuple ts kk q))) := by
              cases e <;> first
                | rfl
                | exact absurd ⟨_, _, _, rfl⟩ ht
            rw [q1]
            refine ps_if_f fun h => ps_asg (hE e) (hG _) (no_sole rfl) ?_ rfl
            cases e <;> first
              | rfl
              | exact absurd ⟨_, _, _, rfl⟩ ht
        | _ => exact ps_no
      | t1 :: t2 :: r =>
        have q1 : wS X.K (n + 1) Γ sc W (.Assign (t1 :: t2 :: r) e p) = tNoS := by
          unfold wS
          split <;> first
            | rfl
            | (rename_i q; cases q)
        rw [q1]
        exact ps_no
    | AugAssign tg op e p =>
      cases tg with
      | Name x px =>
        refine ps_if_t fun h => ?_
        cases hi : slot Γ.N x with
        | none => exact ps_no
        | some i => exact ps_aug nd (at_ hi) (by rw [g.sc]; exact loc_ok h) (hE e) (ok_aug op) (.inl (g.fnok x))
      | _ => exact ps_no
    | If c a b p => exact ps_if (hT c) (pss_w hS) (pss_w hS)
    | While c b o p =>
      cases o with
      | nil => exact ps_while g.pass (hT c) (pss_w hS)
      | cons => exact ps_no
    | For tg iter b o p =>
      cases o with
      | nil => exact ps_if_f fun h => ps_for g.pass g.calm (pi_w g.toGood hE tg iter) (hG tg) (pss_w hS) (set_no (Bool.eq_false_iff.mpr h) _)
      | cons => exact ps_no
    | Raise ex cause p =>
      by_cases hr : ∃ x px e p3, ex = some (.Call (.Name x px) [e] [] p3) ∧ cause = none
      · obtain ⟨x, px, e, p3, rfl, rfl⟩ := hr
        refine ps_if_f fun h0 => ps_if_t fun h1 => ?_
        cases ha : Γ.exA x with
        | some q =>
          refine ps_if_t fun h2 => ?_
          obtain ⟨k1, hm, F⟩ := g.toGood.exA x q ha
          exact ps_raiseA g.toGood (Bool.eq_false_iff.mpr h0) h1 hm F k1 (pa_wL hE h2) h2
        | none =>
          show PS X _ (raise0 Γ W x e)
          unfold raise0
          split
          · rename_i m j p2 C he
            exact ps_raise0 g.toGood (Bool.eq_false_iff.mpr h0) h1 he
          · exact ps_no
      · have q1 : wS X.K (n + 1) Γ sc W (.Raise ex cause p) = tNoS := by
          unfold wS
          split <;> first
            | rfl
            | (rename_i q; cases q; exact absurd ⟨_, _, _, _, rfl, rfl⟩ hr)
            | (rename_i q; cases q)
        rw [q1]
        exact ps_no
    | Try body hs orelse fin p =>
      by_cases hr : ∃ x px nm b₀ suite p2, hs = [.ExceptHandler (some (.Name x px)) (some nm) (b₀ :: suite) p2] ∧ orelse = [] ∧ fin = []
      · obtain ⟨x, px, nm, b₀, suite, p2, rfl, rfl, rfl⟩ := hr
        refine ps_if_f fun h0 => ps_if_t fun h1 => ?_
        obtain ⟨h2, h3⟩ := Bool.and_eq_true_iff.mp h1
        have o1 := (oddName_no (Bool.eq_false_iff.mpr h0)).1
        cases he : Γ.exc x with
        | none => exact ps_no
        | some C =>
          cases hi : slot Γ.N nm with
          | none => exact ps_no
          | some i =>
            refine ps_tryK (tb := fun W => wSL (wS X.K n Γ sc W) body) g.hs g.hf nd (at_ hi) (by show X.env.scope.names.lookup nm = _; rw [g.sc]; exact of_decide_eq_true h3) ⟨gl_of g.toGood h2, o1, .inl (g.exc x C he).1⟩ g.takes
              (fun W' pn xe tk hp => ?_) (fun a pn => pss_su g a pn _)
            exact pss_w (ih (g.try_ tk hp))
      · have q1 : wS X.K (n + 1) Γ sc W (.Try body hs orelse fin p) = tNoS := by
          unfold wS
          split <;> first
            | rfl
            | (rename_i q; cases q; exact absurd ⟨_, _, _, _, _, _, rfl, rfl, rfl⟩ hr)
            | (rename_i q; cases q)
        rw [q1]
        exact ps_no
    | _ => exact ps_no
end
end G

set_option Elab.async false
set_option linter.all false
set_option maxRecDepth 100000
set_option maxHeartbeats 8000000
namespace G
open PySem PySem.Spec PyProof.Rows L2 LamX
/-! ## the law's own call -/
section
variable {P : Program} {w : World} {K : PySem.W.Frag} {mg mb : Str → Option Value} {k : Nat} {fa a : Addr} {tt : List (Addr × Addr)} {S : SpG} {s0 : Shared} {us : List Value} {zs : List Int}
theorem law_run (KX : K.In s0.heap) (gl : s0.heap.Ns mainGlobals mg) (bi : s0.heap.Ns builtinsNs mb) (bb : ∀ x : Str, x ≠ "__name__" → mb x = bootBuiltins x) (lim : s0.heap.NoLimit) (ng : s0.gens = #[])
    (tE : ∀ p ∈ tt, s0.heap.get? p.2 = some { cls := .none, data := .fields #[] }) (tK : ∀ p ∈ tt, K.lookup p.2 = none) (tC : ∀ p ∈ tt, PySem.W.CodeHd s0.heap p.1 p.2)
    (bm : ∃ (b : Addr) (ob : Obj), mg "__builtins__" = some (.ref b) ∧ b ≠ builtinsNs ∧ s0.heap.get? b = some ob ∧ ob.cls = .type "module" ∧ ob.dict = some builtinsNs ∧ ob.data = .plain)
    (ha : s0.heap.get? a = some { cls := .type "list", data := .seq us.toArray }) (hi : IntsAre us zs) (hl : zs.length ≤ sizeLine) (hr : RoomG k callerA)
    (F : ∀ base : Heap, K.In base → base.Ns mainGlobals mg → (∀ p ∈ tt, TabB base mg p.1 p.2) → FnS P w K mg base k fa 1 [] S)
    (hS : ∀ H : Hp, (∀ p ∈ tt, H p.2 = some (.tbl #[])) → SqL K H a (zs.map V.int) → S (fun _ _ => False) [.ref a] [] H (fun v _ => v = .bl true) fun _ _ _ => False) :
    codeAny (model P w) callerA (.call (.ref fa) ⟨[.ref a], []⟩) (fun r s' => r = .ok (.ret (.bool true)) ∧ OldK s0.heap s'.heap ∧ s'.os = s0.os ∧ AllBare s'.gens) s0 := by
  have rel := vals_ints hi
  have lenU := hi.length
  obtain ⟨T, eT⟩ : ∃ T : List Addr, T = tt.map (·.2) := ⟨_, rfl⟩
  have inT : ∀ p ∈ tt, p.2 ∈ T := fun p hp => by
    rw [eT]
    exact List.mem_map.mpr ⟨p, hp, rfl⟩
  have ofT : ∀ b ∈ T, ∃ p ∈ tt, p.2 = b := fun b hb => by
    rw [eT] at hb
    obtain ⟨p, hp, e⟩ := List.mem_map.mp hb
    exact ⟨p, hp, e⟩
  have atT : ∀ b ∈ T, s0.heap.get? b = some { cls := .none, data := .fields #[] } := fun b hb => by
    obtain ⟨p, hp, e⟩ := ofT b hb
    rw [← e]
    exact tE p hp
  have aT : a ∉ T := fun z => by
    have q := (atT a z).symm.trans ha
    cases q
  obtain ⟨HH, eH⟩ : ∃ HH : Hp, HH = fun b => if b ∈ T then some (.tbl #[]) else if b = a ∧ K.lookup a = none then some (.frz { cls := .type "list", data := .seq us.toArray } (.lst (zs.map V.int))) else none := ⟨_, rfl⟩
  have two : ∀ b u, HH b = some u → (b ∈ T ∧ u = .tbl #[]) ∨ (b = a ∧ K.lookup a = none ∧ u = .frz { cls := .type "list", data := .seq us.toArray } (.lst (zs.map V.int))) := fun b u e => by
    rw [eH] at e
    by_cases c : b ∈ T
    · have e2 := (if_pos c).symm.trans e
      exact .inl ⟨c, (Option.some.inj e2).symm⟩
    · have e2 := (if_neg c).symm.trans e
      by_cases c2 : b = a ∧ K.lookup a = none
      · have e3 := (if_pos c2).symm.trans e2
        exact .inr ⟨c2.1, c2.2, (Option.some.inj e3).symm⟩
      · have e3 := (if_neg c2).symm.trans e2
        cases e3
  have tabs : ∀ p ∈ tt, HH p.2 = some (.tbl #[]) := fun p hp => by
    rw [eH]
    exact if_pos (inT p hp)
  have none_of : ∀ b o, s0.heap.get? b = some o → o.data ≠ .fields #[] → (∀ v m, o.data ≠ .seq v m) → HH b = none := fun b o e h1 h2 => by
    cases q : HH b with
    | none => rfl
    | some u =>
      rcases two b u q with ⟨c, _⟩ | ⟨c, _, _⟩
      · rw [atT b c] at e
        cases e
        exact absurd rfl h1
      · rw [c, ha] at e
        cases e
        exact absurd rfl (h2 _ _)
  have kfree : ∀ b o, K.lookup b = some o → HH b = none := fun b o e => by
    cases q : HH b with
    | none => rfl
    | some u =>
      rcases two b u q with ⟨c, _⟩ | ⟨c, c2, _⟩
      · obtain ⟨p, hp, ep⟩ := ofT b c
        rw [← ep, tK p hp] at e
        cases e
      · rw [c, c2] at e
        cases e
  have hok : HOk P w HH s0.heap := fun b u e => by
    rcases two b u e with ⟨c, rfl⟩ | ⟨rfl, c2, rfl⟩
    · exact atT b c
    · exact ⟨ha, by rw [List.length_map]; exact hl, us, _, rel, ha⟩
  have seq : SqL K HH a (zs.map V.int) := by
    cases hk : K.lookup a with
    | none => exact .inl (.inr ⟨{ cls := .type "list", data := .seq us.toArray }, by rw [eH]; exact (if_neg aT).trans (if_pos ⟨rfl, hk⟩)⟩)
    | some o =>
      have e := KX a o hk
      rw [ha] at e
      cases e
      exact .inr ⟨_, us.toArray, _, hk, rfl, rfl, rfl, by rw [List.size_toArray, lenU]; exact hl, by simpa using rel⟩
  have hid : ∀ b o, s0.heap.get? b = some o → HH b = none → (hidT s0.heap HH).get? b = some o := fun b o e n => hidT_get e n
  have nsH : ∀ b m, s0.heap.Ns b m → (hidT s0.heap HH).Ns b m := fun b m ⟨o, es, ep, e, d, r⟩ => by
    refine ⟨o, es, ep, hid b o e (none_of b o e (fun z => ?_) fun v m z => ?_), d, r⟩
    · rw [d] at z
      cases z
    · rw [d] at z
      cases z
  have KB : K.In (hidT s0.heap HH) := fun b o e => hid b o (KX b o e) (kfree b o e)
  have md : L2.Mod K mg (hidT s0.heap HH) := ⟨KB, nsH _ _ gl, ⟨mb, nsH _ _ bi, bb⟩, let ⟨mc, h1, h2⟩ := lim; ⟨mc, nsH _ _ h1, h2⟩⟩
  have tB : ∀ p ∈ tt, TabB (hidT s0.heap HH) mg p.1 p.2 := fun p hp => by
    refine ⟨?_, ?_, fun z => ?_⟩
    · obtain ⟨o, vs, file, tf, flags, tg, inF, text, tk, e1, r1, r2, r3, r4, r5, r6, r7, r8, hne⟩ := tC p hp
      refine ⟨o, vs, file, tf, flags, tg, inF, text, tk, hid _ o e1 (none_of _ o e1 (fun z => ?_) fun v m z => ?_), r1, r2, r3, r4, r5, r6, r7, r8, hne⟩
      · rw [r2] at z
        cases z
        simp at r3
      · rw [r2] at z
        cases z
    · obtain ⟨b, ob, b1, b2, b3, b4, b5, b6⟩ := bm
      refine ⟨b, ob, b1, b2, fun q => ?_, fun q => ?_, hid b ob b3 (none_of b ob b3 (fun z => ?_) fun v m z => ?_), b4, b5, b6⟩
      · obtain ⟨o, es, ep, e, hd, _⟩ := gl
        rw [q, e] at b3
        cases b3
        rw [hd] at b6
        cases b6
      · rw [q, tE p hp] at b3
        cases b3
        cases b6
      · rw [b6] at z
        cases z
      · rw [b6] at z
        cases z
    · obtain ⟨o, es, ep, e, hd, _⟩ := gl
      rw [z, tE p hp] at e
      cases e
      cases hd
  have e0 : Env0 P w K mg (hidT s0.heap HH) callerA [] s0 HH :=
    ⟨rfl, md, fun b o e => of_hidT e, Nat.le_of_eq (hidT_size _ _), trivial, fun b hb => absurd (show b ∈ ([] : List Addr) from hb) (by simp), hok, .of_eq ng⟩
  have run := F _ KB (nsH _ _ gl) tB callerA [] s0 HH [.ref a] [] [.ref a] [] _ _ (fun _ _ => False) hr e0 (.cons rfl .nil) .nil rfl rfl (fun _ _ z => z.elim) (hS HH tabs seq)
  refine codeAny_mono run fun r s' h => ?_
  cases r with
  | error e =>
    obtain ⟨_, _, _, _, _, _, _, _, _, _, _, _, z⟩ := h
    exact z.elim
  | ok fl =>
    cases fl with
    | next => exact False.elim h
    | brk => exact False.elim h
    | cont => exact False.elim h
    | ret u =>
      obtain ⟨v, H2, os, bare, un, hok2, rv, q⟩ := h
      have q2 : v = .bl true := q
      subst q2
      obtain rfl : u = Value.bool true := rv
      have old : ∀ b o, b ∉ T → s0.heap.get? b = some o → s'.heap.get? b = some o := fun b o nb e => by
        cases q : HH b with
        | none => exact un.keep b o e q (fun z => nomatch (show b ∈ ([] : List Addr) from z)) (fun z => nomatch z)
        | some u =>
          rcases two b u q with ⟨c, _⟩ | ⟨c, _, rfl⟩
          · exact absurd c nb
          · have z2 := (hok2 b _ (un.frzs b _ _ q)).1
            rw [c, ha] at e
            cases e
            exact z2
      have more : ∀ b ∈ T, ∃ ps : Array Value, s'.heap.get? b = some { cls := .none, data := .fields ps } := fun b hb => by
        obtain ⟨p, hp, ep⟩ := ofT b hb
        obtain ⟨m, z⟩ := un.tbls p.2 #[] (tabs p hp)
        rw [← ep]
        exact ⟨_, hok2 p.2 _ z⟩
      refine ⟨rfl, ⟨fun b o e => ?_, fun b o e => ?_⟩, os, bare⟩
      · by_cases hb : b ∈ T
        · obtain ⟨ps, hm⟩ := more b hb
          obtain ⟨p, hp, ep⟩ := ofT b hb
          rw [atT b hb] at e
          cases e
          rw [← ep] at hm ⊢
          exact .inr (.inl ⟨((tC p hp).tab (tE p hp)).isCodeTable, rfl, #[], ps, rfl, by rw [Array.empty_append]; exact hm⟩)
        · exact .inl (old b o hb e)
      · by_cases hb : b ∈ T
        · obtain ⟨ps, hm⟩ := more b hb
          exact ⟨_, hm⟩
        · exact ⟨o, old b o hb e⟩
end
/-- what the head must give of a law -/
def LawG (l : PySem.W.OpenLaw) (w : World) (K : PySem.W.Frag) (k n : Nat) (mg : Str → Option Value) (fa : Addr) (h : Heap) : Prop :=
  ∃ (tt : List (Addr × Addr)) (S : SpG), (∀ p ∈ tt, h.get? p.2 = some { cls := .none, data := .fields #[] }) ∧ (∀ p ∈ tt, K.lookup p.2 = none) ∧ (∀ p ∈ tt, PySem.W.CodeHd h p.1 p.2) ∧
    (∀ (H : Hp) (a : Addr) (zs : List Int), zs.length ≤ n → (∀ z ∈ zs, Builtin.Int.intBits z ≤ 1048576) → (∀ p ∈ tt, H p.2 = some (.tbl #[])) → SqL K H a (zs.map V.int) →
      S (fun _ _ => False) [.ref a] [] H (fun v _ => v = .bl true) fun _ _ _ => False) ∧
    ∀ base : Heap, K.In base → base.Ns mainGlobals mg → (∀ p ∈ tt, TabB base mg p.1 p.2) → FnS l.prog w K mg base k fa 1 [] S
theorem law_end {l : PySem.W.OpenLaw} {n k : Nat} {q : Program} {loose : List Str} {XP : (Str → Option Value) → Heap → Prop} {YP : World → Heap → Prop} {d : DefRec} (hn : l.most = some n) (hn2 : n ≤ sizeLine) (hdf : d.params.defaults = []) (hr : RoomG k callerA)
    (F : ∀ (w : World) (mg : Str → Option Value) (fa : Addr) (h : Heap), YP w h → h.Ns mainGlobals mg → mg d.name = some (.ref fa) → ∃ K : PySem.W.Frag, K.In h ∧ LawG l w K k n mg fa h) :
    PySem.W.WalkO q loose XP YP l.row.toRowW d [] (fun f vs => PySem.call f vs) := by
  refine Att.attach_callB hn hdf fun w s₀ s1 mg mb fa o pm cd doc a us zs Gr Y ho hd hcd hmg hobj hints hlen hbits hg => ?_
  obtain ⟨K, KX, tt, S, h1, h2, h3, h4, h5⟩ := F w mg fa _ Y Gr.T.g hmg
  exact law_run KX Gr.T.g Gr.T.b Gr.T.builtins Gr.T.nolimit hg h1 h2 h3 Gr.T.bmain hobj hints (Nat.le_trans hlen hn2) hr h5 fun H hT hS => h4 H a zs hlen hbits hT hS
end G

set_option Elab.async false
set_option linter.all false
set_option maxRecDepth 100000
set_option maxHeartbeats 8000000
namespace G
open PySem PySem.Spec PyProof.Rows L2 LamX
/-! ## a module's facts, a def by its body -/
structure FnE where
  x : Str
  n : Nat
  ks : List Str
  l : Nat
  S : SpG
  cl : Option Addr
def fnLook (fl : List FnE) (x : Str) (n : Nat) (ks : List Str) : Option (Nat × SpG) := (fl.find? fun e => e.x == x && e.n == n && e.ks == ks && e.cl.isNone).map fun e => (e.l, e.S)
def mtLook (fl : List FnE) (m : Str) (C : Addr) (n : Nat) : Option (Nat × SpG) := (fl.find? fun e => e.x == m && e.n == n && e.ks == [] && decide (e.cl = some C)).map fun e => (e.l, e.S)
def mtHas (fl : List FnE) (m : Str) : Bool := fl.any fun e => e.x == m && e.cl.isSome
structure Md where
  free : List Str
  gv : List (Str × V)
  exc : List (Str × Addr)
  exa : List (Str × Addr × Str) := []
structure MdOk (P : Program) (K : PySem.W.Frag) (mg : Str → Option Value) (m : Md) : Prop where
  free : ∀ x ∈ m.free, mg x = none
  gv : ∀ p ∈ m.gv, ∃ u, mg p.1 = some u ∧ RelV p.2 u
  exc : ∀ p ∈ m.exc, mg p.1 = some (.ref p.2) ∧ PySem.W.excIn K p.2 He.veBase "ValueError.__new__" = true ∧ PySem.W.keepIn K (.ref p.2) = true ∧
    PySem.W.subIn K (.ref p.2) (.type "BaseException") = some true ∧ PySem.W.typeIn K (.ref p.2) = some (.type "type")
  exa : ∀ p ∈ m.exa, mg p.1 = some (.ref p.2.1) ∧ IniF K P p.2.1 p.2.2
def gam (m : Md) (N : List Str) (fl : List FnE) (act : Acts) (qual : Str) (cells : List (Str × Addr)) (T : List (Addr × Str)) (P : Option Addr) : Gam :=
  { N := N, fn := fnLook fl, mt := fun m => if mtHas fl m then some (mtLook fl m) else none, gv := fun x => m.gv.lookup x, exc := fun x => m.exc.lookup x, exA := fun x => m.exa.lookup x, free := fun x => m.free.contains x, act := act, qual := qual, cells := cells, T := T, P := P }
def pick {α : Type} (l : List α) (ix : List Nat) : List α := ix.filterMap fun i => l[i]?
theorem pick_rel {xs : List V} {us : List Value} (r : Vals xs us) : ∀ ix : List Nat, Vals (pick xs ix) (pick us ix)
  | [] => .nil
  | i :: ix => by
    have ih := pick_rel r ix
    unfold pick at ih ⊢
    rw [List.filterMap_cons, List.filterMap_cons]
    cases h : xs[i]? with
    | none =>
      rw [r.none_of h]
      exact ih
    | some x =>
      obtain ⟨u, e, q⟩ := r.get h
      rw [e]
      exact .cons q ih
theorem fnLook_ok {fl : List FnE} {x : Str} {n : Nat} {ks : List Str} {p : Nat × SpG} (h : fnLook fl x n ks = some p) : ∃ e ∈ fl, e.x = x ∧ e.n = n ∧ e.ks = ks ∧ e.cl = none ∧ p = (e.l, e.S) := by
  unfold fnLook at h
  obtain ⟨e, h1, h2⟩ := Option.map_eq_some_iff.mp h
  have h3 := List.find?_some h1
  simp only [Bool.and_eq_true, beq_iff_eq] at h3
  exact ⟨e, List.mem_of_find?_eq_some h1, h3.1.1.1, h3.1.1.2, h3.1.2, Option.isNone_iff_eq_none.mp h3.2, h2.symm⟩
theorem mtLook_ok {fl : List FnE} {m : Str} {C : Addr} {n : Nat} {p : Nat × SpG} (h : mtLook fl m C n = some p) : ∃ e ∈ fl, e.x = m ∧ e.n = n ∧ e.ks = [] ∧ e.cl = some C ∧ p = (e.l, e.S) := by
  unfold mtLook at h
  obtain ⟨e, h1, h2⟩ := Option.map_eq_some_iff.mp h
  have h3 := List.find?_some h1
  simp only [Bool.and_eq_true, beq_iff_eq, decide_eq_true_eq] at h3
  exact ⟨e, List.mem_of_find?_eq_some h1, h3.1.1.1, h3.1.1.2, h3.1.2, h3.2, h2.symm⟩
theorem lookup_mem' {α : Type} {x : Str} {v : α} : ∀ {l : List (Str × α)}, l.lookup x = some v → (x, v) ∈ l
  | [], h => by cases h
  | (y, u) :: r, h => by
    rw [List.lookup_cons] at h
    cases c : x == y with
    | true =>
      rw [c] at h
      have e := beq_iff_eq.mp c
      subst e
      cases h
      exact List.mem_cons_self
    | false =>
      rw [c] at h
      exact List.mem_cons_of_mem _ (lookup_mem' h)
section
variable {P : Program} {w : World} {K : PySem.W.Frag} {mg : Str → Option Value} {base : Heap}
/-- a callee's entry holds -/
def FnEOk (P : Program) (w : World) (K : PySem.W.Frag) (mg : Str → Option Value) (base : Heap) (k : Nat) (e : FnE) : Prop :=
  match e.cl with
    | none => e.l ≤ k ∧ ∃ f, mg e.x = some (.ref f) ∧ PySem.W.keepIn K (.ref f) = true ∧ FnS P w K mg base e.l f e.n e.ks e.S
    | some C => e.l + 1 ≤ k ∧ ∃ f, Cls K C ∧ Meth K C e.x f ∧ FnS P w K mg base e.l f (e.n + 1) e.ks e.S
theorem FnEOk.mono {j k : Nat} {e : FnE} (h : FnEOk P w K mg base j e) (l : j ≤ k) : FnEOk P w K mg base k e := by
  unfold FnEOk at h ⊢
  cases hc : e.cl with
  | none =>
    rw [hc] at h
    exact ⟨Nat.le_trans h.1 l, h.2⟩
  | some C =>
    rw [hc] at h
    exact ⟨Nat.le_trans h.1 l, h.2⟩
/-- where a def's lambdas are kept -/
def TabOk (K : PySem.W.Frag) (mg : Str → Option Value) (base : Heap) (f : Addr) (qual : Str) (T : List (Addr × Str)) (p : Addr) : Prop :=
  ∃ c, (∀ oc od fd sl, K.lookup f = some ⟨oc, od, .func fd, sl⟩ → fd.code = .ref c) ∧ TabB base mg c p ∧ (p, qual ++ "<lambda>") ∈ T ∧ ∀ q ∈ T, q.1 = p → q.2 = qual ++ "<lambda>"
theorem fn_rule {x qual : Str} {params : Arguments} {body : List Stmt} {scope : Scope} {dvs : List V} {kws : List (Str × V)} {f : Addr} {fd : FuncData} {N ps : List Str} {n : Nat} {ks : List Str} {ix : List Nat} {k : Nat} {S : Acts → List V → Hp → VK → XK → Prop}
    (F : FunD K x qual params body scope dvs kws f fd) (Sc : FnScope N ps scope) (hb : ∀ (s : Shared) (us ws : List Value), us.length = n → ws.length = ks.length → BindsTo s fd ⟨us, ks.zip ws⟩ (ps.zip (pick (us ++ ws) ix)))
    (m : Md) (hm : MdOk P K mg m) (hkm : m.exa = [] ∨ 1 ≤ k) (fl : List FnE) (hfl : ∀ e ∈ fl, FnEOk P w K mg base k e) (ta : Bool) (hta : ta = true → lamRoom ≤ k) (T : List (Addr × Str)) (pt : Option Addr) (hP : ∀ p, pt = some p → TabOk K mg base f (qual ++ ".<locals>.") T p)
    (fuel : Nat) (hbody : ∀ (cells : List (Str × Addr)) (acts : Acts) (vs : List V) (H : Hp) (Q : VK) (E : XK), S acts vs H Q E → vs.length = ps.length ∧
      wSL (wS K fuel (gam m N fl (fun g tl => ta = true ∧ acts g tl) (qual ++ ".<locals>.") cells T pt) scope (fun cls d _ H' => E cls d H')) body ⟨fun _ H' => Q .non H', Q, fun _ _ => False, fun _ _ => False⟩ (start N vs) H) :
    FnS P w K mg base (k + 1) f n ks (fun acts vs zs H Q E => S acts (pick (vs ++ zs) ix) H Q E) := by
  obtain ⟨oc, od, dV, kV, doc, pm, an, cdv, ct, osl, rfl, lk, hcd, hD, hK⟩ := F.ex
  intro A outer s H us ws vs zs Q E acts hr e0 r rz l1 l2 ha hS
  have lu : us.length = n := r.length.symm.trans l1
  have lw : ws.length = ks.length := rz.length.symm.trans l2
  have rr := pick_rel (r.append rz) ix
  have len : ∀ cells, _ := fun cells => (hbody cells acts _ H Q E hS).1
  refine run_ofS (N := N) (ps := ps) (us := pick (us ++ ws) ix) (vs := pick (vs ++ zs) ix) lk hcd Sc hr.r e0 (hb s us ws lu lw) rr (len []) fun hr2 => ?_
  have g : GoodS k (gam m N fl (fun g tl => ta = true ∧ acts g tl) (qual ++ ".<locals>.") (cellsFrom (s.heap.objs.size + 1) scope.names []) T pt) scope (fun cls d _ H' => E cls d H')
      (cxOf (L2.CX P w) P w K mg base N qual scope f cdv A outer s H E) := {
    calm := rfl
    sc := rfl
    N := rfl
    nd := Sc.nd
    room := ⟨hr2, hr.g⟩
    fn := fun y j js p h => by
      obtain ⟨e, he, rfl, rfl, rfl, hc, rfl⟩ := fnLook_ok h
      have z := hfl e he
      unfold FnEOk at z
      rw [hc] at z
      exact z
    mt := fun m M C n' p hM h => by
      have hM' : (if mtHas fl m = true then some (mtLook fl m) else none) = some M := hM
      by_cases c : mtHas fl m = true
      · rw [if_pos c] at hM'
        cases hM'
        obtain ⟨e, he, rfl, rfl, hk, hc, rfl⟩ := mtLook_ok h
        have z := hfl e he
        unfold FnEOk at z
        rw [hc, hk] at z
        exact z
      · rw [if_neg c] at hM'
        cases hM'
    gv := fun y v h => hm.gv (y, v) (lookup_mem' h)
    free := fun y h => hm.free y (List.contains_iff_mem.mp h)
    exc := fun y C h => hm.exc (y, C) (lookup_mem' h)
    exA := fun y q h => by
      have z := lookup_mem' h
      refine ⟨hkm.elim (fun e => ?_) id, hm.exa (y, q) z⟩
      rw [e] at z
      cases z
    act := fun g tl h => ha g tl h.2
    aex := fun _ => ⟨rfl, rfl, rfl⟩
    aek := fun ⟨_, _, h, _⟩ => hta h
    pass := passes_of rfl
    takes := takes_of rfl rfl rfl rfl
    lam := fun p hp => by
      obtain ⟨c, h1, h2, h3, h4⟩ := hP p hp
      exact ⟨c, h2, h1 _ _ _ _ lk, h3, h4, rfl, rfl⟩
    hs := rfl
    hf := rfl
    fnok := fun _ => rfl }
  exact ⟨_, pss_w (sndS fuel g), (hbody _ acts _ H Q E hS).2⟩
/-- a weaker promise -/
theorem FnS.imp {k : Nat} {f : Addr} {n : Nat} {ks : List Str} {S S' : SpG} (F : FnS P w K mg base k f n ks S) (h : ∀ acts vs zs H Q E, vs.length = n → zs.length = ks.length → S' acts vs zs H Q E → S acts vs zs H Q E) : FnS P w K mg base k f n ks S' :=
  fun A outer s H us ws vs zs Q E acts hr e0 r rz l1 l2 ha hS => F A outer s H us ws vs zs Q E acts hr e0 r rz l1 l2 ha (h _ _ _ _ _ _ l1 l2 hS)
end
end G

set_option Elab.async false
set_option linter.all false
set_option maxRecDepth 100000
set_option maxHeartbeats 8000000
namespace G
open PySem PySem.Spec PyProof.Rows L2 LamX
/-! ## loops by an invariant -/
def ForGo (J : It) (g : TG) (tb : TS) (D : Ends) (σ : L2.St) (H : Hp) : Prop := ∃ W : Nat → Nat → L2.St → Hp → Prop, (∃ m, W 0 m σ H) ∧ ∀ i m σ H, W i m σ H →
  (J.stop i H ∧ D.nx σ H) ∨ (J.go i H ∧ ∃ N : L2.St → Hp → Prop, (∀ σ' H', N σ' H' → ∃ m', m' < m ∧ W (i + 1) m' σ' H') ∧ ∀ x H', J.yld i H x H' → g x σ H' fun σ2 H2 => tb { D with nx := N, ct := N, bk := D.nx } σ2 H2)
theorem for_go (wi : TI) (g : TG) (tb : TS) (D : Ends) (σ : L2.St) (H : Hp) : tFor wi g tb D σ H = wi σ H fun J H1 => ForGo J g tb D σ H1 := rfl
theorem go_rng {n ix : Nat} {lo : Int} {tb : TS} {D : Ends} {σ : L2.St} {H : Hp} (P : Nat → L2.St → Hp → Prop) (h0 : P 0 σ H)
    (hs : ∀ i σ H, i < n → P i σ H → tb { D with nx := P (i + 1), ct := P (i + 1), bk := D.nx } (σ.set ix (some (.int (lo + i)))) H) (he : ∀ σ H, P n σ H → D.nx σ H) : ForGo (Itr lo n) (gName ix) tb D σ H := by
  refine ⟨fun i m σ H => P i σ H ∧ i + m = n, ⟨n, h0, by omega⟩, fun i m σ H ⟨h, e⟩ => ?_⟩
  by_cases c : i < n
  · refine .inr ⟨c, P (i + 1), fun σ' H' q => ⟨m - 1, by omega, q, by omega⟩, fun x H' ⟨e1, e2⟩ => ?_⟩
    subst e1 e2
    exact hs i σ H' c h
  · have : i = n := by omega
    subst this
    exact .inl ⟨Nat.le_refl _, he σ H h⟩
/-- over a text's signs -/
theorem go_its {x : Str} {ix : Nat} {tb : TS} {D : Ends} {σ : L2.St} {H : Hp} (P : Nat → L2.St → Hp → Prop) (h0 : P 0 σ H)
    (hs : ∀ i c σ H, x.cps.toList[i]? = some c → P i σ H → tb { D with nx := P (i + 1), ct := P (i + 1), bk := D.nx } (σ.set ix (some (.str ⟨#[c]⟩))) H) (he : ∀ σ H, P x.length σ H → D.nx σ H) : ForGo (Its x) (gName ix) tb D σ H := by
  refine ⟨fun i m σ H => P i σ H ∧ i + m = x.length, ⟨x.length, h0, by omega⟩, fun i m σ H ⟨h, e⟩ => ?_⟩
  by_cases c : i < x.length
  · refine .inr ⟨c, P (i + 1), fun σ' H' q => ⟨m - 1, by omega, q, by omega⟩, fun v H' ⟨e1, d, e2, e3⟩ => ?_⟩
    subst e1 e3
    exact hs i d σ H' (by rw [Array.getElem?_toList]; exact e2) h
  · have : i = x.length := by omega
    subst this
    exact .inl ⟨Nat.le_refl _, he σ H h⟩
theorem SqL.one {K : PySem.W.Frag} {H : Hp} {a : Addr} {xs ys : List V} (hk : K.lookup a = none) (h1 : SqL K H a xs) (h2 : SqL K H a ys) : xs = ys := by
  rcases h1 with h1 | ⟨o, _, _, e, _⟩
  · rcases h2 with h2 | ⟨o, _, _, e, _⟩
    · rcases h1 with h1 | ⟨o1, h1⟩ <;> rcases h2 with h2 | ⟨o2, h2⟩ <;> (rw [h1] at h2; first | (cases h2; rfl) | cases h2)
    · rw [hk] at e; cases e
  · rw [hk] at e; cases e
/-! a comprehension over a list that is tracked, over a range -/
def LcGo (J : It) (g : TG) (tt : TT) (te : TE) (vs : List Nat) (σ : L2.St) (Q : VK) (H1 : Hp) : Prop := ∀ D, H1 D = none → ∃ W : Nat → Nat → Hp → Prop, (∃ m, W 0 m (upd H1 D (.lst []))) ∧ ∀ i m H, W i m H →
  (J.stop i H ∧ Q (.ref D) H) ∨ (J.go i H ∧ ∃ Nx : Hp → Prop, (∀ H', Nx H' → ∃ m', m' < m ∧ W (i + 1) m' H') ∧ ∀ x H', J.yld i H x H' → g x (wipe σ vs) H' fun σ2 H2 => wipe σ2 vs = wipe σ vs ∧ tt σ2 H2 fun b H3 =>
    if b = true then te σ2 H3 fun y H4 => ∃ acc, H4 D = some (.lst acc) ∧ acc.length < sizeLine ∧ Nx (upd H4 D (.lst (acc ++ [y]))) else Nx H3)
theorem lc_go (wi : TI) (g : TG) (tt : TT) (te : TE) (vs : List Nat) (σ : L2.St) (H : Hp) (Q : VK) : tLc wi g tt te vs σ H Q = wi σ H fun J H1 => LcGo J g tt te vs σ Q H1 := rfl
theorem wipe_one {σ : L2.St} {ix : Nat} {x : V} : wipe ((wipe σ [ix]).set ix (some x)) [ix] = wipe σ [ix] := by
  show ((σ.set ix none).set ix (some x)).set ix none = σ.set ix none
  rw [List.set_set, List.set_set]
/-- what a comprehension's turn leaves -/
def Lp (D : Addr) (P : Addr → Nat → List V → Hp → Prop) (i : Nat) (H : Hp) : Prop := ∃ acc, H D = some (.lst acc) ∧ acc.length ≤ i ∧ P D i acc H
theorem Lp.put {D : Addr} {P : Addr → Nat → List V → Hp → Prop} {i : Nat} {H : Hp} {acc : List V} {y : V} (hA : H D = some (.lst acc)) (hl : acc.length ≤ i) (hi : i < 16777215) (h : P D (i + 1) (acc ++ [y]) (upd H D (.lst (acc ++ [y])))) :
    ∃ acc', H D = some (.lst acc') ∧ acc'.length < sizeLine ∧ Lp D P (i + 1) (upd H D (.lst (acc' ++ [y]))) := by
  have sl : sizeLine = 16777216 := sizeLine_eq
  exact ⟨acc, hA, by omega, acc ++ [y], upd_same, by rw [List.length_append]; exact Nat.succ_le_succ hl, h⟩
theorem Lp.skip {D : Addr} {P : Addr → Nat → List V → Hp → Prop} {i : Nat} {H : Hp} {acc : List V} (hA : H D = some (.lst acc)) (hl : acc.length ≤ i) (h : P D (i + 1) acc H) : Lp D P (i + 1) H := ⟨acc, hA, Nat.le_succ_of_le hl, h⟩
theorem lc_rng {n ix : Nat} {lo : Int} {tt : TT} {te : TE} {σ : L2.St} {H : Hp} {Q : VK} (P : Addr → Nat → List V → Hp → Prop) (h0 : ∀ D, H D = none → P D 0 [] (upd H D (.lst [])))
    (hs : ∀ D i acc H, i < n → H D = some (.lst acc) → acc.length ≤ i → P D i acc H → tt ((wipe σ [ix]).set ix (some (.int (lo + i)))) H fun b H3 => if b = true then
      te ((wipe σ [ix]).set ix (some (.int (lo + i)))) H3 fun y H4 => ∃ acc, H4 D = some (.lst acc) ∧ acc.length < sizeLine ∧ Lp D P (i + 1) (upd H4 D (.lst (acc ++ [y]))) else Lp D P (i + 1) H3)
    (he : ∀ D acc H, acc.length ≤ n → H D = some (.lst acc) → P D n acc H → Q (.ref D) H) : LcGo (Itr lo n) (gName ix) tt te [ix] σ Q H := by
  intro D hD
  refine ⟨fun i m H => i + m = n ∧ Lp D P i H, ⟨n, by omega, [], upd_same, Nat.le_refl _, h0 D hD⟩, fun i m H ⟨e, acc, hA, hl, h⟩ => ?_⟩
  by_cases c : i < n
  · refine .inr ⟨c, fun H' => Lp D P (i + 1) H', fun H' q => ⟨m - 1, by omega, by omega, q⟩, fun x H' ⟨e1, e2⟩ => ?_⟩
    subst e1 e2
    exact ⟨wipe_one, hs D i acc H' c hA hl h⟩
  · have : i = n := by omega
    subst this
    exact .inl ⟨Nat.le_refl _, he D acc H hl hA h⟩
theorem lc_list {K : PySem.W.Frag} {a : Addr} (xs : List V) {ix : Nat} {tt : TT} {te : TE} {σ : L2.St} {H : Hp} {Q : VK} (P : Addr → Nat → List V → Hp → Prop) (h0 : ∀ D, H D = none → P D 0 [] (upd H D (.lst [])))
    (hl : ∀ D i acc H, P D i acc H → SqL K H a xs)
    (hs : ∀ D i acc H x, xs[i]? = some x → H D = some (.lst acc) → acc.length ≤ i → P D i acc H → tt ((wipe σ [ix]).set ix (some x)) H fun b H3 => if b = true then
      te ((wipe σ [ix]).set ix (some x)) H3 fun y H4 => ∃ acc, H4 D = some (.lst acc) ∧ acc.length < sizeLine ∧ Lp D P (i + 1) (upd H4 D (.lst (acc ++ [y]))) else Lp D P (i + 1) H3)
    (he : ∀ D acc H, acc.length ≤ xs.length → H D = some (.lst acc) → P D xs.length acc H → Q (.ref D) H) : LcGo (Itl K a) (gName ix) tt te [ix] σ Q H := by
  intro D hD
  refine ⟨fun i m H => i + m = xs.length ∧ Lp D P i H, ⟨xs.length, by omega, [], upd_same, Nat.le_refl _, h0 D hD⟩, fun i m H ⟨e, acc, hA, hz, h⟩ => ?_⟩
  by_cases c : i < xs.length
  · refine .inr ⟨⟨xs, xs[i], hl D i acc H h, List.getElem?_eq_getElem c⟩, fun H' => Lp D P (i + 1) H', fun H' q => ⟨m - 1, by omega, by omega, q⟩, fun x H' ⟨e1, e2⟩ => ?_⟩
    subst e1
    exact ⟨wipe_one, hs D i acc H' x (e2 xs (hl D i acc H' h)) hA hz h⟩
  · have : i = xs.length := by omega
    subst this
    exact .inl ⟨⟨xs, hl D _ acc H h, Nat.le_refl _⟩, he D acc H hz hA h⟩
end G

set_option Elab.async false
set_option linter.all false
set_option maxRecDepth 100000
set_option maxHeartbeats 8000000
namespace G
open PySem PySem.Spec PyProof.Rows L2 LamX
/-! ## texts: signs, lengths, what repr prints -/
theorem app_cps (a b : Str) : (a ++ b).cps.toList = a.cps.toList ++ b.cps.toList := by
  show (a.cps ++ b.cps).toList = _
  rw [Array.toList_append]
theorem len_cps (a : Str) : a.cps.toList.length = a.length := by
  show a.cps.toList.length = a.cps.size
  rw [Array.length_toList]
/-- of zeros and ones alone -/
def BitS (x : Str) : Prop := ∀ c ∈ x.cps.toList, c = 48 ∨ c = 49
theorem BitS.app {a b : Str} (ha : BitS a) (hb : BitS b) : BitS (a ++ b) := fun c hc => by
  rw [app_cps] at hc
  exact (List.mem_append.mp hc).elim (ha c) (hb c)
theorem bits_0 : BitS "0" := by
  intro c hc
  have e : (("0" : Str)).cps.toList = [48] := by decide +kernel
  rw [e] at hc
  exact .inl (by simpa using hc)
theorem bits_1 : BitS "1" := by
  intro c hc
  have e : (("1" : Str)).cps.toList = [49] := by decide +kernel
  rw [e] at hc
  exact .inr (by simpa using hc)
theorem bits_e : BitS "" := by
  intro c hc
  have e : (("" : Str)).cps.toList = [] := by decide +kernel
  rw [e] at hc
  exact nomatch hc
theorem len_e : ((("" : String) : Str)).length = 0 := by decide +kernel
theorem len_0 : ((("0" : String) : Str)).length = 1 := by decide +kernel
theorem len_1 : ((("1" : String) : Str)).length = 1 := by decide +kernel
def dig (i : Int) : Str := Str.ofString (toString (i % 2))
theorem dig_or (i : Int) : dig i = "0" ∨ dig i = "1" := by
  unfold dig
  rcases Int.emod_two_eq i with h | h <;> rw [h]
  · exact .inl rfl
  · exact .inr rfl
theorem dig_bit (i : Int) : BitS (dig i) := by
  rcases dig_or i with h | h <;> rw [h]
  · exact bits_0
  · exact bits_1
theorem dig_len (i : Int) : (dig i).length = 1 := by
  rcases dig_or i with h | h <;> rw [h]
  · exact len_0
  · exact len_1
/-- so many of the lowest bits, ahead of a text -/
def tw : Nat → Int → Str → Str
  | 0, _, acc => acc
  | n + 1, i, acc => tw n (i / 2) (dig i ++ acc)
theorem tw_len : ∀ (n : Nat) (i : Int) (acc : Str), (tw n i acc).length = n + acc.length
  | 0, _, acc => (Nat.zero_add _).symm
  | n + 1, i, acc => by
    show (tw n (i / 2) (dig i ++ acc)).length = _
    rw [tw_len n, strLen_append, dig_len]
    omega
theorem tw_bit : ∀ (n : Nat) (i : Int) (acc : Str), BitS acc → BitS (tw n i acc)
  | 0, _, _, h => h
  | n + 1, i, acc, h => tw_bit n (i / 2) _ ((dig_bit i).app h)
theorem tw_low : ∀ (n : Nat) (i q : Int) (acc : Str), tw n (i + 2 ^ n * q) acc = tw n i acc
  | 0, _, _, _ => rfl
  | n + 1, i, q, acc => by
    show tw n ((i + 2 ^ (n + 1) * q) / 2) (dig (i + 2 ^ (n + 1) * q) ++ acc) = tw n (i / 2) (dig i ++ acc)
    have e : (2 : Int) ^ (n + 1) * q = 2 * (2 ^ n * q) := by rw [Int.pow_succ, Int.mul_comm (2 ^ n) 2, Int.mul_assoc]
    have e1 : (i + 2 ^ (n + 1) * q) % 2 = i % 2 := by rw [e]; omega
    have e2 : (i + 2 ^ (n + 1) * q) / 2 = i / 2 + 2 ^ n * q := by rw [e]; omega
    have e3 : dig (i + 2 ^ (n + 1) * q) = dig i := by unfold dig; rw [e1]
    rw [e2, e3, tw_low n]
theorem tw_step : ∀ (n : Nat) (i : Int) (acc : Str), 0 ≤ i → tw (n + 1) i acc = dig (i / 2 ^ n) ++ tw n i acc
  | 0, i, acc, _ => by
    show dig i ++ acc = dig (i / 2 ^ 0) ++ acc
    rw [Int.pow_zero, Int.ediv_one]
  | n + 1, i, acc, h => by
    show tw (n + 1) (i / 2) (dig i ++ acc) = dig (i / 2 ^ (n + 1)) ++ tw n (i / 2) (dig i ++ acc)
    rw [tw_step n (i / 2) _ (by omega)]
    have e : i / 2 / 2 ^ n = i / 2 ^ (n + 1) := by
      rw [Int.ediv_ediv_of_nonneg (by decide : (0 : Int) ≤ 2), Int.pow_succ, Int.mul_comm]
    rw [e]
/-! so many ones -/
theorem fold_rep (x : Array Nat) : ∀ (n : Nat) (acc : Array Nat), ((List.replicate n x).foldl (· ++ ·) acc).toList = acc.toList ++ (List.replicate n x.toList).flatten
  | 0, acc => by simp
  | n + 1, acc => by
    rw [List.replicate_succ, List.foldl_cons, fold_rep x n, List.replicate_succ, List.flatten_cons, Array.toList_append, List.append_assoc]
def ones (n : Nat) : Str := Txt.mul "1" (n : Int)
theorem ones_cps (n : Nat) : (ones n).cps.toList = List.replicate n 49 := by
  have e1 : (("1" : Str)).cps.toList = [49] := by decide +kernel
  unfold ones Txt.mul
  by_cases h : (n : Int) < 1
  · rw [if_pos h]
    have : n = 0 := by omega
    subst this
    rfl
  · rw [if_neg h]
    by_cases h2 : n = 1
    · subst h2
      have ec : (((1 : Nat) : Int) == 1 || (("1" : Str)).length == 0) = true := rfl
      rw [if_pos ec]
      exact e1
    · have e0 : ((n : Int) == 1 || (("1" : Str)).length == 0) = false := by
        rw [len_1, Bool.or_eq_false_iff]
        exact ⟨beq_false_of_ne (by omega), rfl⟩
      rw [e0, if_neg (by simp)]
      show ((List.replicate (n : Int).toNat ("1" : Str).cps).foldl (· ++ ·) #[]).toList = _
      rw [fold_rep, e1]
      simp
theorem ones_len (n : Nat) : (ones n).length = n := by rw [← len_cps, ones_cps, List.length_replicate]
theorem ones_bit (n : Nat) : BitS (ones n) := fun c hc => by
  rw [ones_cps] at hc
  exact .inr (List.eq_of_mem_replicate hc)
theorem mul_ok1 {n : Nat} (h : n ≤ 1000000) : MulOk "1" (n : Int) := by
  refine ⟨?_, fun _ _ => ?_, fun _ _ => ?_⟩
  · rw [Bool.or_eq_false_iff]
    exact ⟨decide_eq_false (by omega), decide_eq_false (by omega)⟩
  · rw [len_1]
    have h1 : ¬ (n : Int) < 1 := by assumption
    have : (1 : Int) ≤ (2 ^ 63 - 1) / (n : Int) := by
      rw [Int.le_ediv_iff_mul_le (by omega)]
      omega
    omega
  · rw [len_1]
    exact decide_eq_false (by rw [sizeLine_eq]; omega)
/-! what repr prints is short -/
theorem textFrom_le : ∀ (ts : List Str) (k : Nat) (acc : Str), (textFrom k acc ts).length ≤ acc.length + piled ts
  | [], k, acc => Nat.le_add_right _ _
  | t :: r, k, acc => by
    have ih := textFrom_le r (k + 1) (acc ++ (if k > 0 then ", " else "" : String) ++ t)
    have e : (acc ++ (if k > 0 then ", " else "" : String) ++ t).length = acc.length + (if k > 0 then 2 else 0) + t.length := by
      rw [strLen_append, strLen_append]
      split <;> rfl
    rw [e] at ih
    show (textFrom (k + 1) (acc ++ (if k > 0 then ", " else "" : String) ++ t) r).length ≤ _
    have p : piled (t :: r) = t.length + 2 + piled r := rfl
    rw [p]
    have : (if k > 0 then 2 else 0 : Nat) ≤ 2 := by split <;> omega
    omega
theorem listText_le (ts : List Str) : (listText ts).length ≤ piled ts + 2 := by
  unfold listText
  have h := textFrom_le ts 0 "["
  have e1 : ((("[" : String) : Str)).length = 1 := by decide +kernel
  have e2 : ((("]" : String) : Str)).length = 1 := by decide +kernel
  rw [strLen_append, e2]
  rw [e1] at h
  omega
theorem int_shown_le {i : Int} (h : i.natAbs < 10 ^ 20) : (Str.ofString (toString i)).length ≤ 21 := by
  rw [PySem.ofString_length]
  exact int_text_length_le10 (k := 20) (by decide) h
theorem bit_shown_le {x : Str} (h : BitS x) : (reprText x).length ≤ 10 * x.length + 2 := PySem.StrLaws.reprText_len x fun c hc => by
  rcases h c hc with e | e <;> rw [e] <;> decide
/-! ## strip -/
theorem take_all {p : Nat → Bool} : ∀ {l : List Nat}, (∀ c ∈ l, p c = true) → l.takeWhile p = l
  | [], _ => rfl
  | c :: r, h => by
    rw [List.takeWhile_cons, if_pos (h c List.mem_cons_self), take_all fun d hd => h d (List.mem_cons_of_mem _ hd)]
theorem take_lt {p : Nat → Bool} {c : Nat} (hp : p c = false) : ∀ {l : List Nat}, c ∈ l → (l.takeWhile p).length < l.length
  | d :: r, h => by
    rw [List.takeWhile_cons]
    by_cases q : p d = true
    · rw [if_pos q, List.length_cons, List.length_cons]
      rcases List.mem_cons.mp h with e | h
      · rw [← e, hp] at q
        cases q
      · exact Nat.succ_lt_succ (take_lt hp h)
    · rw [if_neg q]
      exact Nat.succ_pos _
theorem mem_drop {p : Nat → Bool} {c : Nat} (hp : p c = false) : ∀ {l : List Nat}, c ∈ l → c ∈ l.drop (l.takeWhile p).length
  | d :: r, h => by
    rw [List.takeWhile_cons]
    by_cases q : p d = true
    · rw [if_pos q, List.length_cons, List.drop_succ_cons]
      rcases List.mem_cons.mp h with e | h
      · rw [← e, hp] at q
        cases q
      · exact mem_drop hp h
    · rw [if_neg q]
      exact h
theorem strip_all {x y : Str} (h : ∀ c ∈ x.cps.toList, y.cps.contains c = true) : Txt.stripChars x y = "" := by
  have e0 : (("" : Str)) = ⟨#[]⟩ := by decide +kernel
  have lo : stripLo y.cps.contains true x = x.length := by
    unfold stripLo
    rw [if_pos rfl]
    have : x.cps.toList.takeWhile y.cps.contains = x.cps.toList := take_all h
    rw [this, len_cps]
  unfold Txt.stripChars Txt.stripBy
  by_cases hx : x.length = 0
  · have ex : x = ⟨#[]⟩ := by
      cases x with
      | mk c =>
        have : c.size = 0 := hx
        rw [Array.eq_empty_of_size_eq_zero this]
    have ee : stripped y.cps.contains true true x = "" := by
      rw [e0, ex]
      unfold stripped Builtin.Str.strSub
      simp
    by_cases c : stripSame y.cps.contains true true x = true
    · rw [if_pos c, ex, e0]
    · rw [if_neg c, ee]
  · have hs : stripSame y.cps.contains true true x = false := by
      unfold stripSame
      rw [lo]
      rw [Bool.and_eq_false_iff]
      exact .inl (beq_false_of_ne hx)
    rw [hs, if_neg (by simp), e0]
    unfold stripped Builtin.Str.strSub
    rw [lo]
    refine congrArg Str.mk (Array.eq_empty_of_size_eq_zero ?_)
    rw [Array.size_extract]
    have q : x.cps.size = x.length := rfl
    rw [q]
    omega
/-- a sign of another kind stays -/
theorem strip_some {x y : Str} {c : Nat} (hc : c ∈ x.cps.toList) (h : y.cps.contains c = false) : Txt.stripChars x y ≠ "" := by
  intro e
  have e0 : (("" : Str)).length = 0 := len_e
  have hx : 0 < x.length := by
    rw [← len_cps]
    exact List.length_pos_of_mem hc
  unfold Txt.stripChars Txt.stripBy at e
  by_cases s : stripSame y.cps.contains true true x = true
  · rw [if_pos s] at e
    rw [e] at hx
    rw [e0] at hx
    omega
  · rw [if_neg s] at e
    have z := congrArg Str.length e
    rw [e0] at z
    unfold stripped Builtin.Str.strSub at z
    have m := mem_drop (p := y.cps.contains) h hc
    have lo : stripLo y.cps.contains true x = (x.cps.toList.takeWhile y.cps.contains).length := rfl
    rw [← lo] at m
    have t := take_lt (p := y.cps.contains) h (List.mem_reverse.mpr m)
    rw [List.length_reverse, List.length_drop, len_cps] at t
    have z2 : min (x.length - ((x.cps.toList.drop (stripLo y.cps.contains true x)).reverse.takeWhile y.cps.contains).length) x.length - stripLo y.cps.contains true x = 0 := by
      have q : (x.cps.extract (stripLo y.cps.contains true x) (stripHi y.cps.contains true x (stripLo y.cps.contains true x))).size = 0 := z
      rw [Array.size_extract] at q
      exact q
    omega
end G

set_option Elab.async false
set_option linter.all false
set_option maxRecDepth 100000
set_option maxHeartbeats 8000000
namespace G
open PySem PySem.Spec PyProof.Rows L2 LamX
/-! ## the laws' draws -/
abbrev kS (x : Str) : Key := .inr x
def dwL (La Ca : Addr) (left turn : Int) : List (Key × V) := [(kS "large", .ref La), (kS "cells", .ref Ca), (kS "left", .int left), (kS "turn", .int turn)]
theorem dw_large {La Ca : Addr} {l t : Int} : valV (dwL La Ca l t) (kS "large") = some (.ref La) := by rfl
theorem dw_cells {La Ca : Addr} {l t : Int} : valV (dwL La Ca l t) (kS "cells") = some (.ref Ca) := by rfl
theorem dw_left {La Ca : Addr} {l t : Int} : valV (dwL La Ca l t) (kS "left") = some (.int l) := by rfl
theorem dw_turn {La Ca : Addr} {l t : Int} : valV (dwL La Ca l t) (kS "turn") = some (.int t) := by rfl
theorem dw_left' {La Ca : Addr} {l t z : Int} : putK (dwL La Ca l t) (kS "left") (.int z) = dwL La Ca z t := by rfl
theorem dw_turn' {La Ca : Addr} {l t z : Int} : putK (dwL La Ca l t) (kS "turn") (.int z) = dwL La Ca l z := by rfl
theorem dw_new {La Ca : Addr} : mergeK [] [(kS "large", .ref La), (kS "cells", .ref Ca), (kS "left", .int 0), (kS "turn", .int 0)] = dwL La Ca 0 0 := by rfl

theorem sub_k {K : PySem.W.Frag} {H : Hp} {a : Addr} {kvs : List (Key × V)} {x : Str} {v : V} {Q : VK} (e : H a = some (.dK kvs)) (h : valV kvs (kS x) = some v) (q : Q v H) : G.rSub2 K (.ref a) (.str x) H Q :=
  .inr ⟨a, v, rfl, .inl ⟨kvs, kS x, .inl e, rfl, h.symm⟩, q⟩
theorem put_k {H : Hp} {a : Addr} {kvs : List (Key × V)} {x : Str} {v : V} {Q : Hp → Prop} (e : H a = some (.dK kvs)) (hl : kvs.length < sizeLine) (q : Q (upd H a (.dK (putK kvs (kS x) v)))) : G.rPut (.ref a) (.str x) v H Q :=
  .inr ⟨a, _, rfl, .inl ⟨kvs, kS x, e, rfl, hl, rfl⟩, q⟩
theorem eq_int {K : PySem.W.Frag} {H : Hp} {i j : Int} {Q : VK} (q : Q (.bl (decide (i = j))) H) : G.rCmp K .Eq (.int i) (.int j) H Q := .inl ⟨rfl, by
  have e : decide (V.int i = V.int j) = decide (i = j) := by rw [Bool.eq_iff_iff]; simp
  show Q (.bl (decide (V.int i = V.int j))) H
  rw [e]
  exact q⟩
theorem ne_str {K : PySem.W.Frag} {H : Hp} {i j : Str} {Q : VK} (q : Q (.bl (!decide (i = j))) H) : G.rCmp K .NotEq (.str i) (.str j) H Q := .inl ⟨rfl, by
  have e : decide (V.str i = V.str j) = decide (i = j) := by rw [Bool.eq_iff_iff]; simp
  show Q (.bl (!decide (V.str i = V.str j))) H
  rw [e]
  exact q⟩
theorem eq_str {K : PySem.W.Frag} {H : Hp} {i j : Str} {Q : VK} (q : Q (.bl (decide (i = j))) H) : G.rCmp K .Eq (.str i) (.str j) H Q := .inl ⟨rfl, by
  have e : decide (V.str i = V.str j) = decide (i = j) := by rw [Bool.eq_iff_iff]; simp
  show Q (.bl (decide (V.str i = V.str j))) H
  rw [e]
  exact q⟩
theorem dp_ints {K : PySem.W.Frag} {H : Hp} : ∀ zs : List Int, DpAll K H (zs.map V.int) (zs.map PyData.int)
  | [] => .nil
  | z :: r => .cons (.int z) (dp_ints r)
theorem lay_ints : ∀ zs : List Int, PyData.canLayAll0 (zs.map PyData.int) = true
  | [] => rfl
  | z :: r => by
    show (PyData.canLay0 (.int z) && PyData.canLayAll0 (r.map PyData.int)) = true
    rw [lay_ints r]
    rfl
theorem deep_ints : ∀ zs : List Int, PyData.depthAll (zs.map PyData.int) = 0
  | [] => rfl
  | z :: r => by
    show max 0 (PyData.depthAll (r.map PyData.int)) = 0
    rw [deep_ints r]
    rfl
theorem shaped_ints (zs : List Int) : SeqAt.shaped (.list (zs.map PyData.int)) = true := by
  show (PyData.canLayAll0 (zs.map PyData.int) && decide (PyData.depthAll (zs.map PyData.int) + 1 ≤ 64)) = true
  rw [lay_ints, deep_ints]
  rfl
/-- a list of ints != [] -/
theorem ne_nil {K : PySem.W.Frag} {H : Hp} {a b : Addr} {zs : List Int} {Q : VK} (ha : SqL K H a (zs.map V.int)) (hb : H b = some (.lst [])) (q : Q (.bl (!zs.isEmpty)) H) : G.rCmp K .NotEq (.ref a) (.ref b) H Q := by
  refine .inr ⟨_, .list [], .lst ha (dp_ints zs), .lst (.inl (.inl hb)) .nil, shaped_ints zs, rfl, ?_⟩
  have e : PyData.eqv (.list (zs.map PyData.int)) (.list []) = zs.isEmpty := by cases zs <;> rfl
  rw [e]
  exact q
theorem ix_ok {K : PySem.W.Frag} {H : Hp} {a : Addr} {xs : List V} {i : Int} {v : V} {Q : VK} (ha : SqL K H a xs) (h0 : 0 ≤ i) (h : xs[i.toNat]? = some v) (q : Q v H) : G.rSub2 K (.ref a) (.int i) H Q := by
  refine .inl (.inl ⟨a, xs, i, v, rfl, rfl, ha, ?_, q⟩)
  obtain ⟨hl, _⟩ := List.getElem?_eq_some_iff.mp h
  unfold atI ixN
  rw [if_pos h0, if_pos (by omega)]
  exact h

/-- what a draw leaves alone -/
def Dr (st La : Addr) (H H' : Hp) : Prop := ∀ b o, H b = some o → b ≠ st → b ≠ La → H' b = some o
theorem Dr.refl (st La : Addr) (H : Hp) : Dr st La H H := fun _ _ h _ _ => h
theorem Dr.trans {st La : Addr} {H H1 H2 : Hp} (a : Dr st La H H1) (b : Dr st La H1 H2) : Dr st La H H2 := fun c o h n m => b c o (a c o h n m) n m
theorem Dr.new {st La p : Addr} {H H1 : Hp} {o : HO} (a : Dr st La H H1) (n : H1 p = none) : Dr st La H (upd H1 p o) := fun c o h n1 m => by
  have q := a c o h n1 m
  rw [upd_ne (ne_of_none q n)]
  exact q
theorem Dr.put {st La : Addr} {H H1 : Hp} {o : HO} (a : Dr st La H H1) : Dr st La H (upd H1 st o) := fun c o h n1 m => by
  rw [upd_ne n1]
  exact a c o h n1 m
theorem Dr.pop {st La : Addr} {H H1 : Hp} {o : HO} (a : Dr st La H H1) : Dr st La H (upd H1 La o) := fun c o h n1 m => by
  rw [upd_ne m]
  exact a c o h n1 m
/-- the state, in full -/
structure DrwF (st La Ca : Addr) (cs : List Int) (H : Hp) (ls : List Int) (left turn : Int) : Prop where
  st : H st = some (.dK (dwL La Ca left turn))
  la : H La = some (.lst (ls.map V.int))
  ca : H Ca = some (.lst (cs.map V.int))
  ne : La ≠ Ca
  l0 : 0 ≤ left
  ls0 : ∀ z ∈ ls, 0 ≤ z
  lsl : ls.length ≤ 1000000
  csl : cs.length ≤ 1000000
  t0 : 0 ≤ turn
section
variable {st La Ca p : Addr} {cs ls : List Int} {H : Hp} {left turn : Int} {o : HO}
theorem DrwF.n1 (d : DrwF st La Ca cs H ls left turn) : st ≠ La := fun e => by
  have z := d.st
  rw [e, d.la] at z
  cases z
theorem DrwF.n2 (d : DrwF st La Ca cs H ls left turn) : st ≠ Ca := fun e => by
  have z := d.st
  rw [e, d.ca] at z
  cases z
theorem DrwF.new (d : DrwF st La Ca cs H ls left turn) (n : H p = none) : DrwF st La Ca cs (upd H p o) ls left turn :=
  { d with
    st := by rw [upd_ne (ne_of_none d.st n)]; exact d.st
    la := by rw [upd_ne (ne_of_none d.la n)]; exact d.la
    ca := by rw [upd_ne (ne_of_none d.ca n)]; exact d.ca }
theorem DrwF.setl {z : Int} (d : DrwF st La Ca cs H ls left turn) (hz : 0 ≤ z) : DrwF st La Ca cs (upd H st (.dK (putK (dwL La Ca left turn) (kS "left") (.int z)))) ls z turn :=
  { d with
    st := by rw [upd_same, dw_left']
    la := by rw [upd_ne (Ne.symm d.n1)]; exact d.la
    ca := by rw [upd_ne (Ne.symm d.n2)]; exact d.ca
    l0 := hz }
theorem DrwF.sett {z : Int} (d : DrwF st La Ca cs H ls left turn) (hz : 0 ≤ z) : DrwF st La Ca cs (upd H st (.dK (putK (dwL La Ca left turn) (kS "turn") (.int z)))) ls left z :=
  { d with
    st := by rw [upd_same, dw_turn']
    la := by rw [upd_ne (Ne.symm d.n1)]; exact d.la
    ca := by rw [upd_ne (Ne.symm d.n2)]; exact d.ca
    t0 := hz }
theorem DrwF.pop {z : Int} (d : DrwF st La Ca cs H (z :: ls) left turn) : DrwF st La Ca cs (upd H La (.lst (ls.map V.int))) ls left turn :=
  { d with
    st := by rw [upd_ne d.n1]; exact d.st
    la := upd_same
    ca := by rw [upd_ne (Ne.symm d.ne)]; exact d.ca
    ls0 := fun x hx => d.ls0 x (List.mem_cons_of_mem _ hx)
    lsl := by have := d.lsl; rw [List.length_cons] at this; omega }
end
/-- the state: at most t turns behind it -/
def Drw (st La Ca : Addr) (H : Hp) (t : Int) : Prop := ∃ cs ls left turn, DrwF st La Ca cs H ls left turn ∧ turn ≤ t
theorem Drw.new {st La Ca p : Addr} {H : Hp} {t : Int} {o : HO} (d : Drw st La Ca H t) (n : H p = none) : Drw st La Ca (upd H p o) t := by
  obtain ⟨cs, ls, left, turn, d, h⟩ := d
  exact ⟨cs, ls, left, turn, d.new n, h⟩
theorem Drw.mono {st La Ca : Addr} {H : Hp} {t u : Int} (d : Drw st La Ca H t) (h : t ≤ u) : Drw st La Ca H u := by
  obtain ⟨cs, ls, left, turn, d, h1⟩ := d
  exact ⟨cs, ls, left, turn, d, Int.le_trans h1 h⟩
def spDraw : SpG := fun _ vs zs H Q _ => ∃ st La Ca n t, vs ++ zs = [.ref st, .int n] ∧ 0 < n ∧ n ≤ 2 ^ 29 ∧ t ≤ 2 ^ 40 ∧ Drw st La Ca H t ∧ ∀ r H', 0 ≤ r → r < n → Drw st La Ca H' (t + 1) → Dr st La H H' → Q (.int r) H'
def rdDraw1 (K : PySem.W.Frag) : TS := (tWhile (tAnd (tTest (tOp (G.rCmp K .Eq) (tOp (G.rSub2 K) (tVar 0) (tC (.str "left"))) (tC (.int 0)))) (tTest (tOp (G.rCmp K .NotEq) (tOp (G.rSub2 K) (tVar 0) (tC (.str "large"))) (tLst tNil))))
  (tAsg (tBM K "list" rPopAt (tOp (G.rSub2 K) (tVar 0) (tC (.str "large"))) (tCons (tC (.int 0)) tNil)) (gSub (tVar 0) (tC (.str "left")) G.rPut)))
def rdDraw2 (K : PySem.W.Frag) : TS :=
  (tSeq (tIfS (tTest (tOp (G.rCmp K .Gt) (tOp (G.rSub2 K) (tVar 0) (tC (.str "left"))) (tC (.int 0))))
  (tSeq (tAsg (tOp (G.rBin K .Mod) (tCB G.rInt1 (tCons (tOp (G.rSub2 K) (tVar 0) (tC (.str "left"))) tNil)) (tVar 1)) (gName 2))
  (tSeq (tAsg (tOp (G.rBin K .FloorDiv) (tOp (G.rSub2 K) (tVar 0) (tC (.str "left"))) (tVar 1)) (gSub (tVar 0) (tC (.str "left")) G.rPut))
  (tRet (tVar 2))))
  tNext)
  (tSeq (tAsg (tOp (G.rBin K .Add) (tOp (G.rSub2 K) (tVar 0) (tC (.str "turn"))) (tC (.int 1))) (gName 3))
  (tSeq (tAsg (tVar 3) (gSub (tVar 0) (tC (.str "turn")) G.rPut))
  (tSeq (tAsg (tIf (tTest (tOp (G.rCmp K .NotEq) (tOp (G.rSub2 K) (tVar 0) (tC (.str "cells"))) (tLst tNil))) (tOp (G.rSub2 K) (tOp (G.rSub2 K) (tVar 0) (tC (.str "cells"))) (tOp (G.rBin K .Mod) (tCB G.rInt1 (tCons (tVar 3) tNil)) (tCB (G.rLen K) (tCons (tOp (G.rSub2 K) (tVar 0) (tC (.str "cells"))) tNil)))) (tC (.int 0))) (gName 4))
  (tSeq (tAsg (tOp (G.rBin K .Mod) (tCB G.rInt1 (tCons (tOp (G.rBin K .Pow) (tOp (G.rBin K .Add) (tOp (G.rBin K .Add) (tOp (G.rBin K .Mod) (tCB G.rInt1 (tCons (tVar 4) tNil)) (tC (.int 2147483563))) (tOp (G.rBin K .Mult) (tC (.int 40692)) (tVar 3))) (tC (.int 24681))) (tC (.int 3))) tNil)) (tC (.int 2147483629))) (gName 5))
  (tRet (tOp (G.rBin K .Mod) (tCB G.rInt1 (tCons (tOp (G.rBin K .FloorDiv) (tOp (G.rBin K .Mod) (tCB G.rInt1 (tCons (tOp (G.rBin K .Pow) (tOp (G.rBin K .Add) (tVar 5) (tOp (G.rBin K .Mult) (tC (.int 104917)) (tVar 3))) (tC (.int 5))) tNil)) (tC (.int 2147483579))) (tC (.int 29))) tNil)) (tVar 1))))))))
def rdDraw (K : PySem.W.Frag) : TS := tSeq (rdDraw1 K) (rdDraw2 K)

theorem gt_int {K : PySem.W.Frag} {H : Hp} {i j : Int} {Q : VK} (q : Q (.bl (decide (j < i))) H) : G.rCmp K .Gt (.int i) (.int j) H Q := q
theorem div_int {K : PySem.W.Frag} {H : Hp} {i j : Int} {Q : VK} (h0 : 0 < j) (h1 : j < 1073741824) (q : Q (.int (i / j)) H) : G.rBin K .FloorDiv (.int i) (.int j) H Q := ⟨.inl ⟨h0, h1⟩, q⟩
theorem mod_int {K : PySem.W.Frag} {H : Hp} {i j : Int} {Q : VK} (h0 : 0 < j) (q : Q (.int (i % j)) H) : G.rBin K .Mod (.int i) (.int j) H Q := ⟨h0, q⟩
theorem mul_int {K : PySem.W.Frag} {H : Hp} {i j : Int} {Q : VK} (h0 : -18446744073709551616 < i) (h1 : i < 18446744073709551616) (q : Q (.int (i * j)) H) : G.rBin K .Mult (.int i) (.int j) H Q := ⟨.inl (.inl ⟨by omega, by omega⟩), q⟩
theorem pow_int {K : PySem.W.Frag} {H : Hp} {i j : Int} {Q : VK} (h0 : 0 ≤ j) (h1 : j ≤ 1000000) (h2 : i.natAbs < 18446744073709551616) (q : Q (.int (i ^ j.toNat)) H) : G.rBin K .Pow (.int i) (.int j) H Q := ⟨⟨h0, h1, h2⟩, q⟩
theorem int_1 {H : Hp} {i : Int} {Q : VK} (q : Q (.int i) H) : G.rInt1 [.int i] H Q := q
theorem add_int {K : PySem.W.Frag} {H : Hp} {i j : Int} {Q : VK} (q : Q (.int (i + j)) H) : G.rBin K .Add (.int i) (.int j) H Q := q
theorem sub_int {K : PySem.W.Frag} {H : Hp} {i j : Int} {Q : VK} (q : Q (.int (i - j)) H) : G.rBin K .Sub (.int i) (.int j) H Q := q
theorem mix_ok {K : PySem.W.Frag} {H : Hp} {c u n : Int} {Q : VK} (n0 : 0 < n) (u0 : 0 ≤ u) (u1 : u < 2 ^ 41) (q : ∀ r, 0 ≤ r → r < n → Q (.int r) H) :
    G.rInt1 [V.int c] H fun x H1 => rBin K .Mod x (V.int 2147483563) H1 fun x H1 => rBin K .Mult (V.int 40692) (V.int u) H1 fun y H2 => rBin K .Add x y H2 fun x H1 => rBin K .Add x (V.int 24681) H1 fun x H1 =>
      rBin K .Pow x (V.int 3) H1 fun x H1 => G.rInt1 [x] H1 fun x H1 => rBin K .Mod x (V.int 2147483629) H1 fun x H1 => rBin K .Mult (V.int 104917) (V.int u) H1 fun y H2 => rBin K .Add x y H2 fun x H1 =>
      rBin K .Pow x (V.int 5) H1 fun x H1 => G.rInt1 [x] H1 fun x H1 => rBin K .Mod x (V.int 2147483579) H1 fun x H1 => rBin K .FloorDiv x (V.int 29) H1 fun x H1 => G.rInt1 [x] H1 fun x H1 => rBin K .Mod x (V.int n) H1 Q := by
  have h1 : 0 ≤ c % 2147483563 := Int.emod_nonneg _ (by decide)
  have h2 : c % 2147483563 < 2147483563 := Int.emod_lt_of_pos _ (by decide)
  refine int_1 (mod_int (by decide) (mul_int (by decide) (by decide) (add_int (add_int (pow_int (by decide) (by decide) (by omega) (int_1 (mod_int (by decide) (mul_int (by decide) (by decide) (add_int ?_)))))))))
  have h3 := Int.emod_nonneg ((c % 2147483563 + 40692 * u + 24681) ^ (3 : Int).toNat) (by decide : (2147483629 : Int) ≠ 0)
  have h4 := Int.emod_lt_of_pos ((c % 2147483563 + 40692 * u + 24681) ^ (3 : Int).toNat) (by decide : (0 : Int) < 2147483629)
  revert h3 h4
  generalize (c % 2147483563 + 40692 * u + 24681) ^ (3 : Int).toNat % 2147483629 = m
  intro h3 h4
  exact pow_int (by decide) (by decide) (by omega) (int_1 (mod_int (by decide) (div_int (by decide) (by decide) (int_1 (mod_int n0 (q _ (Int.emod_nonneg _ (by omega)) (Int.emod_lt_of_pos _ n0)))))))
theorem draw2_ok {K : PySem.W.Frag} {st La Ca : Addr} {n t : Int} {H H1 : Hp} {cs ls : List Int} {left turn : Int} {Q : VK} {nx : L2.St → Hp → Prop} (n0 : 0 < n) (n1 : n ≤ 2 ^ 29) (tl : t ≤ 2 ^ 40) (d : DrwF st La Ca cs H1 ls left turn) (ht : turn ≤ t)
    (fr : Dr st La H H1) (q : ∀ r H', 0 ≤ r → r < n → Drw st La Ca H' (t + 1) → Dr st La H H' → Q (.int r) H') :
    rdDraw2 K ⟨nx, Q, fun _ _ => False, fun _ _ => False⟩ [some (.ref st), some (.int n), none, none, none, none] H1 := by
  unfold rdDraw2
  simp only [tSeq, tWhile, tAnd, tTest, tOp, tVar, tC, tLst, tNil, tAsg, tBM, tCons, gSub, tIfS, tCB, gName, tRet, tNext, tIf, List.getElem?_cons_zero, List.getElem?_cons_succ, List.set_cons_zero, List.set_cons_succ, Option.some.injEq, exists_eq_left']
  have sl : sizeLine = 16777216 := sizeLine_eq
  have d4 : ∀ l t, (dwL La Ca l t).length < sizeLine := fun l t => by rw [sl]; show 4 < 16777216; decide
  refine sub_k d.st dw_left (gt_int ⟨_, rfl, ?_⟩)
  by_cases c : 0 < left
  · rw [if_pos (decide_eq_true c)]
    refine sub_k d.st dw_left (int_1 (mod_int n0 ?_))
    refine sub_k d.st dw_left (div_int n0 (by omega) ?_)
    refine put_k d.st (d4 _ _) ?_
    exact q _ _ (Int.emod_nonneg _ (by omega)) (Int.emod_lt_of_pos _ n0) ⟨cs, ls, _, turn, d.setl (Int.ediv_nonneg (by omega) (by omega)), by omega⟩ fr.put
  · rw [if_neg (by simpa using c)]
    refine sub_k d.st dw_turn ?_
    show G.rPut (.ref st) (.str "turn") (.int (turn + 1)) H1 _
    refine put_k d.st (d4 _ _) ?_
    have t0 := d.t0
    have d2 := d.sett (z := turn + 1) (by omega)
    have f2 : Dr st La H (upd H1 st (.dK (putK (dwL La Ca left turn) (kS "turn") (.int (turn + 1))))) := fr.put
    rw [dw_turn'] at d2 f2 ⊢
    refine sub_k d2.st dw_cells ⟨by rw [sl]; decide, fun p hp => ?_⟩
    have d3 := d2.new (o := .lst []) hp
    have f3 := f2.new (o := .lst []) hp
    refine ne_nil (.inl (.inl d3.ca)) upd_same ⟨_, rfl, ?_⟩
    have u1 : turn + 1 < 2 ^ 41 := by omega
    have fin : ∀ r, 0 ≤ r → r < n → Q (.int r) (upd (upd H1 st (.dK (dwL La Ca left (turn + 1)))) p (.lst [])) := fun r h0 h1 => q r _ h0 h1 ⟨cs, ls, left, turn + 1, d3, by omega⟩ f3
    cases cs with
    | nil =>
      rw [if_neg (by simp)]
      exact mix_ok (c := 0) n0 (by omega) u1 fin
    | cons z zs =>
      rw [if_pos (by simp)]
      refine sub_k d3.st dw_cells (int_1 (sub_k d3.st dw_cells (.inl ⟨_, (z :: zs).length, rfl, .inl ⟨_, .inl (.inl d3.ca), by rw [List.length_map]⟩, mod_int (by rw [List.length_cons]; omega) ?_⟩)))
      have hk : (0 : Int) ≤ (turn + 1) % ((z :: zs).length : Int) := Int.emod_nonneg _ (by rw [List.length_cons]; omega)
      have hk2 : (turn + 1) % ((z :: zs).length : Int) < ((z :: zs).length : Int) := Int.emod_lt_of_pos _ (by rw [List.length_cons]; omega)
      have hk3 : ((turn + 1) % ((z :: zs).length : Int)).toNat < (z :: zs).length := by omega
      refine ix_ok (.inl (.inl d3.ca)) hk (v := .int ((z :: zs)[((turn + 1) % ((z :: zs).length : Int)).toNat])) (by rw [List.getElem?_map, List.getElem?_eq_getElem hk3]; rfl) ?_
      exact mix_ok n0 (by omega) u1 fin
theorem draw_ok {K : PySem.W.Frag} {N : List Str} (hN : N.length = 6) {acts : Acts} {vs : List V} {H : Hp} {Q : VK} {E : XK} {nx : L2.St → Hp → Prop} (h : spDraw acts vs [] H Q E) :
    rdDraw K ⟨nx, Q, fun _ _ => False, fun _ _ => False⟩ (L2.start N vs) H := by
  obtain ⟨st, La, Ca, n, t, e, n0, n1, tl, ⟨cs, ls, left, turn, d, ht⟩, q⟩ := h
  rw [List.append_nil] at e
  subst e
  have eN : L2.start N [.ref st, .int n] = [some (.ref st), some (.int n), none, none, none, none] := by
    unfold L2.start
    rw [hN]
    rfl
  rw [eN]
  unfold rdDraw rdDraw1
  simp only [tSeq, tWhile, tAnd, tTest, tOp, tVar, tC, tLst, tNil, tAsg, tBM, tCons, gSub, tIfS, tCB, gName, tRet, tNext, tIf, List.getElem?_cons_zero, List.getElem?_cons_succ, Option.some.injEq, exists_eq_left']
  have sl : sizeLine = 16777216 := sizeLine_eq
  have d4 : ∀ l t, (dwL La Ca l t).length < sizeLine := fun l t => by rw [sl]; show 4 < 16777216; decide
  refine ⟨fun m σ H' => ∃ ls left, ls.length = m ∧ σ = [some (.ref st), some (.int n), none, none, none, none] ∧ DrwF st La Ca cs H' ls left turn ∧ Dr st La H H', ⟨_, ls, left, rfl, rfl, d, Dr.refl _ _ _⟩, ?_⟩
  rintro m σ H1 ⟨ls, left, rfl, rfl, d, fr⟩
  simp only [List.getElem?_cons_zero, List.getElem?_cons_succ, Option.some.injEq, exists_eq_left']
  refine sub_k d.st dw_left (eq_int ⟨_, rfl, ?_⟩)
  by_cases c : left = 0
  · rw [if_pos (decide_eq_true c)]
    refine sub_k d.st dw_large ⟨by rw [sl]; decide, fun p hp => ?_⟩
    have d2 := d.new (o := .lst []) hp
    have f2 := fr.new (o := .lst []) hp
    refine ne_nil (.inl (.inl d2.la)) upd_same ⟨_, rfl, ?_⟩
    cases ls with
    | nil =>
      rw [if_neg (by simp)]
      exact draw2_ok n0 n1 tl d2 ht f2 q
    | cons z ls =>
      rw [if_pos (by simp)]
      refine ⟨fun σ H' => ∃ left, σ = [some (.ref st), some (.int n), none, none, none, none] ∧ DrwF st La Ca cs H' ls left turn ∧ Dr st La H H', fun σ' H' ⟨l, h1, h2, h3⟩ => ⟨_, Nat.lt_succ_self _, ls, l, rfl, h1, h2, h3⟩, ?_⟩
      refine sub_k d2.st dw_large ⟨.inl ⟨rfl, _, .inl (.inl d2.la)⟩, La, _, 0, 0, .int z, rfl, rfl, d2.la, by decide, by decide, seqIndex_of (Int.le_refl 0) (by rw [List.length_map, List.length_cons]; omega), rfl, ?_⟩
      have d3 := d2.pop
      have f3 := f2.pop (o := .lst (ls.map V.int))
      refine put_k (kvs := dwL La Ca left turn) d3.st (d4 _ _) ⟨z, rfl, d3.setl (d2.ls0 z List.mem_cons_self), f3.put⟩
  · rw [if_neg (by simpa using c), if_neg (by simp)]
    exact draw2_ok n0 n1 tl d ht fr q
end G

set_option Elab.async false
set_option linter.all false
set_option maxRecDepth 100000
set_option maxHeartbeats 8000000
namespace G
open PySem PySem.Spec PyProof.Rows L2 LamX
/-! ## the laws' picks, their beginning, what they catch -/
def spPick : SpG := fun _ vs zs H Q _ => ∃ st La Ca t a xs, vs ++ zs = [.ref st, .ref a] ∧ t ≤ 2 ^ 40 ∧ Drw st La Ca H t ∧ a ≠ La ∧ H a = some (.lst xs) ∧ 0 < xs.length ∧ xs.length ≤ 1000000 ∧
  ∀ x H', x ∈ xs → Drw st La Ca H' (t + 1) → Dr st La H H' → Q x H'
def rdPick (K : PySem.W.Frag) (acts : Acts) (W : WX) : TS :=
  (tRet (tOp (G.rSub2 K) (tVar 1) (tFn spDraw (fun _ _ => acts) W (tCons (tVar 0) (tCons (tCB (G.rLen K) (tCons (tVar 1) tNil)) tNil)) tNil 2 0)))
theorem Drw.full {st La Ca : Addr} {H : Hp} {t : Int} (d : Drw st La Ca H t) : ∃ l u, H st = some (.dK (dwL La Ca l u)) := by
  obtain ⟨_, _, l, u, d, _⟩ := d
  exact ⟨l, u, d.st⟩
theorem pick_ok {K : PySem.W.Frag} {N : List Str} (hN : N.length = 2) {acts acts' : Acts} {W : WX} {vs : List V} {H : Hp} {Q : VK} {E : XK} {nx : L2.St → Hp → Prop} (h : spPick acts vs [] H Q E) :
    rdPick K acts' W ⟨nx, Q, fun _ _ => False, fun _ _ => False⟩ (L2.start N vs) H := by
  obtain ⟨st, La, Ca, t, a, xs, e, tl, d, na, ha, l0, l1, q⟩ := h
  rw [List.append_nil] at e
  subst e
  have eN : L2.start N [.ref st, .ref a] = [some (.ref st), some (.ref a)] := by
    unfold L2.start
    rw [hN]
    rfl
  rw [eN]
  unfold rdPick
  simp only [tOp, tVar, tNil, tCons, tCB, tRet, tFn, List.getElem?_cons_zero, List.getElem?_cons_succ, Option.some.injEq, exists_eq_left']
  refine .inl ⟨_, xs.length, rfl, .inl ⟨_, .inl (.inl ha), rfl⟩, rfl, rfl, ?_⟩
  refine ⟨st, La, Ca, xs.length, t, rfl, by omega, by omega, tl, d, fun r H' h0 h1 d' f' => ?_⟩
  have ns : a ≠ st := fun e => by
    obtain ⟨l, u, z⟩ := d.full
    rw [← e, ha] at z
    cases z
  have h2 : r.toNat < xs.length := by omega
  refine ix_ok (.inl (.inl (f' a _ ha ns na))) h0 (List.getElem?_eq_getElem h2) (q _ _ (List.getElem_mem h2) d' f')
/-! ### the beginning -/
def spBegun (K : PySem.W.Frag) : SpG := fun _ vs us H Q _ => ∃ (a : Addr) (zs : List Int), vs ++ us = [.ref a] ∧ SqL K H a (zs.map V.int) ∧ zs.length ≤ 1000000 ∧
  ∀ st La Ca H', H st = none → H La = none → Same H H' → Drw st La Ca H' 0 → Q (.ref st) H'
def rdBegun (K : PySem.W.Frag) : TS :=
  (tSeq (tAsg (tLc (iSeq K (tVar 0)) (gName 2) tYes (tCB G.rAbs1 (tCons (tVar 2) tNil)) [2]) (gName 1))
  (tSeq (tAsg (tLc (iSeq K (tVar 1)) (gName 2) (tTest (tOp (G.rCmp K .GtE) (tVar 2) (tOp (G.rBin K .Pow) (tC (.int 10)) (tC (.int 18))))) (tOp (G.rBin K .Sub) (tVar 2) (tOp (G.rBin K .Pow) (tC (.int 10)) (tC (.int 18)))) [2]) (gName 3))
  (tRet (tDisp [((tC (.str "large")), (tVar 3)), ((tC (.str "cells")), (tVar 1)), ((tC (.str "left")), (tC (.int 0))), ((tC (.str "turn")), (tC (.int 0)))]))))
theorem sql_same {K : PySem.W.Frag} {H H' : Hp} {a : Addr} {xs : List V} (h : SqL K H a xs) (e : Same H H') : SqL K H' a xs := by
  rcases h with (h | ⟨o, h⟩) | h
  · exact .inl (.inl (e _ _ h))
  · exact .inl (.inr ⟨o, e _ _ h⟩)
  · exact .inr h
theorem same_new {H H' : Hp} {p : Addr} {o : HO} (e : Same H H') (n : H p = none) : Same H (upd H' p o) := fun b u h => by
  rw [upd_ne (ne_of_none h n)]
  exact e b u h
theorem ge_int {K : PySem.W.Frag} {H : Hp} {i j : Int} {Q : VK} (q : Q (.bl (decide (j ≤ i))) H) : G.rCmp K .GtE (.int i) (.int j) H Q := q
theorem begun_ok {K : PySem.W.Frag} {N : List Str} (hN : N.length = 4) {acts : Acts} {vs : List V} {H : Hp} {Q : VK} {E : XK} {nx : L2.St → Hp → Prop} (h : spBegun K acts vs [] H Q E) :
    rdBegun K ⟨nx, Q, fun _ _ => False, fun _ _ => False⟩ (L2.start N vs) H := by
  obtain ⟨a, zs, e, ha, hl, q⟩ := h
  rw [List.append_nil] at e
  subst e
  have eN : L2.start N [.ref a] = [some (.ref a), none, none, none] := by
    unfold L2.start
    rw [hN]
    rfl
  rw [eN]
  unfold rdBegun
  simp only [tSeq, tAsg, lc_go, iSeq, iList, tVar, tC, gName, tRet, List.getElem?_cons_zero, List.getElem?_cons_succ, List.set_cons_zero, List.set_cons_succ, Option.some.injEq, exists_eq_left']
  refine .inl ⟨a, rfl, ⟨_, ha⟩, ?_⟩
  refine lc_list (zs.map V.int) (fun D i acc H' => H D = none ∧ Same H H' ∧ ∃ cs : List Int, acc = cs.map V.int ∧ ∀ z ∈ cs, 0 ≤ z) (fun D hD => ⟨hD, same_new (Same.refl H) hD, [], rfl, fun z hz => nomatch hz⟩) (fun D i acc H' h => sql_same ha h.2.1) ?_ ?_
  · rintro D i acc H' x hx hA hz ⟨hD, hS, cs, rfl, h0⟩
    rw [List.getElem?_map] at hx
    obtain ⟨z, hz2, rfl⟩ := Option.map_eq_some_iff.mp hx
    have hi : i < zs.length := (List.getElem?_eq_some_iff.mp hz2).1
    show tCB G.rAbs1 (tCons (tVar 2) tNil) [some (.ref a), none, some (.int z), none] H' _
    simp only [tCB, tCons, tVar, tNil, List.getElem?_cons_zero, List.getElem?_cons_succ, Option.some.injEq, exists_eq_left']
    refine Lp.put hA hz (by omega) ⟨hD, same_new hS hD, cs ++ [_], by rw [List.map_append]; rfl, fun w hw => ?_⟩
    rcases List.mem_append.mp hw with h | h
    · exact h0 w h
    · rw [List.mem_singleton.mp h]
      split <;> omega
  · rintro Ca acc H1 hl2 hA ⟨hD, hS, cs, rfl, h0⟩
    rw [List.length_map, List.length_map] at hl2
    refine .inl ⟨Ca, rfl, ⟨_, .inl (.inl hA)⟩, ?_⟩
    refine lc_list (cs.map V.int) (fun D i acc H' => H1 D = none ∧ Same H1 H' ∧ ∃ ls : List Int, acc = ls.map V.int ∧ ∀ z ∈ ls, 0 ≤ z) (fun D hD => ⟨hD, same_new (Same.refl H1) hD, [], rfl, fun z hz => nomatch hz⟩) (fun D i acc H' h => .inl (.inl (h.2.1 _ _ hA))) ?_ ?_
    · rintro D i acc H' x hx hB hz ⟨hD, hS, ls, rfl, h0⟩
      rw [List.getElem?_map] at hx
      obtain ⟨z, hz2, rfl⟩ := Option.map_eq_some_iff.mp hx
      have hi : i < cs.length := (List.getElem?_eq_some_iff.mp hz2).1
      show tTest (tOp (G.rCmp K .GtE) (tVar 2) (tOp (G.rBin K .Pow) (tC (.int 10)) (tC (.int 18)))) [some (.ref a), some (.ref Ca), some (.int z), none] H' _
      simp only [tTest, tOp, tVar, tC, List.getElem?_cons_zero, List.getElem?_cons_succ, Option.some.injEq, exists_eq_left']
      refine pow_int (by decide) (by decide) (by decide) (ge_int ⟨_, rfl, ?_⟩)
      by_cases c : (10 : Int) ^ (18 : Int).toNat ≤ z
      · rw [if_pos (decide_eq_true c)]
        show tOp (G.rBin K .Sub) (tVar 2) (tOp (G.rBin K .Pow) (tC (.int 10)) (tC (.int 18))) [some (.ref a), some (.ref Ca), some (.int z), none] H' _
        simp only [tTest, tOp, tVar, tC, List.getElem?_cons_zero, List.getElem?_cons_succ, Option.some.injEq, exists_eq_left']
        refine pow_int (by decide) (by decide) (by decide) (sub_int ?_)
        refine Lp.put hB hz (by omega) ⟨hD, same_new hS hD, ls ++ [_], by rw [List.map_append]; rfl, fun w hw => ?_⟩
        rcases List.mem_append.mp hw with h | h
        · exact h0 w h
        · rw [List.mem_singleton.mp h]
          omega
      · rw [if_neg (by simpa using c)]
        exact Lp.skip hB hz ⟨hD, hS, ls, rfl, h0⟩
    · rintro La acc H2 hl3 hB ⟨hD2, hS2, ls, rfl, h02⟩
      rw [List.length_map, List.length_map] at hl3
      have hC := hS2 _ _ hA
      have sl : sizeLine = 16777216 := sizeLine_eq
      intro st hst
      show tPairs _ _ _ _
      simp only [tPairs, tC, tVar, List.getElem?_cons_zero, List.getElem?_cons_succ, List.set_cons_zero, List.set_cons_succ, Option.some.injEq, exists_eq_left']
      refine ⟨upd_same, [(kS "large", .ref La), (kS "cells", .ref Ca), (kS "left", .int 0), (kS "turn", .int 0)], rfl, Nat.le_of_ble_eq_true rfl, ?_⟩
      have nLa : La ≠ st := ne_of_none hB hst
      have nCa : Ca ≠ st := ne_of_none hC hst
      have nLC : La ≠ Ca := fun e => by rw [e, hA] at hD2; cases hD2
      have n0 : ∀ b, H2 b = none → H b = none := fun b n => by
        cases z : H b with
        | none => rfl
        | some o => rw [hS2 _ _ (hS _ _ z)] at n; cases n
      rw [dw_new, upd_upd]
      refine q st La Ca _ (n0 st hst) ?_ (same_new (hS.trans hS2) (n0 st hst)) ⟨cs, ls, 0, 0, ?_, Int.le_refl 0⟩
      · cases z : H La with
        | none => rfl
        | some o => rw [hS _ _ z] at hD2; cases hD2
      · exact ⟨upd_same, by rw [upd_ne nLa]; exact hB, by rw [upd_ne nCa]; exact hC, nLC, Int.le_refl 0, h02, by omega, by omega, Int.le_refl 0⟩
/-! ### what is caught -/
def spCaught (K : PySem.W.Frag) : SpG := fun acts vs zs H Q E => ∃ (f : Addr) (tl : TL), vs ++ zs = [.ref f] ∧ acts f tl ∧
  tl (fun cls d H' => ∃ b, PySem.W.exmOne K cls (.ref (He.ga K "ReelError")) = some b ∧ (b = true → ∀ a, H' a = none → Q (.ref a) (upd H' a (ExT cls d a))) ∧ (b = false → E cls d H')) H fun _ H' => Q .non H'
def rdCaught (K : PySem.W.Frag) (acts : Acts) (W : WX) : TS :=
  (tSeq (tAsg (tC .non) (gName 1))
  (tSeq (fun D σ H => (tDrop (tThunk 0 acts (wKeep K (.ref (He.ga K "ReelError")) 2 (tAsg (tVar 2) (gName 1)) W D))) D σ H)
  (tRet (tVar 1))))
theorem caught_ok {K : PySem.W.Frag} {N : List Str} (hN : N.length = 3) {acts : Acts} {vs : List V} {H : Hp} {Q : VK} {E : XK} {nx : L2.St → Hp → Prop} (h : spCaught K acts vs [] H Q E) :
    rdCaught K (fun g tl => true = true ∧ acts g tl) (fun cls d _ H' => E cls d H') ⟨nx, Q, fun _ _ => False, fun _ _ => False⟩ (L2.start N vs) H := by
  obtain ⟨f, tl, e, ha, ht⟩ := h
  rw [List.append_nil] at e
  subst e
  have eN : L2.start N [.ref f] = [some (.ref f), none, none] := by
    unfold L2.start
    rw [hN]
    rfl
  rw [eN]
  unfold rdCaught
  simp only [tSeq, tAsg, tC, tDrop, tThunk, wKeep, tVar, gName, tRet, List.getElem?_cons_zero, List.getElem?_cons_succ, List.set_cons_zero, List.set_cons_succ, Option.some.injEq, exists_eq_left']
  refine ⟨f, tl, rfl, ⟨trivial, ha⟩, ?_⟩
  unfold WE wKeep
  simp only [tAsg, tVar, gName, tRet, List.getElem?_cons_zero, List.getElem?_cons_succ, List.set_cons_zero, List.set_cons_succ, Option.some.injEq, exists_eq_left']
  exact ht
/-! ### a pick from a list that was just made -/
theorem pick_new {st La Ca p : Addr} {H : Hp} {t : Int} {xs : List V} {acts : Acts} {Q : VK} {E : XK} (d : Drw st La Ca H t) (tl : t ≤ 2 ^ 40) (hp : H p = none) (l0 : 0 < xs.length) (l1 : xs.length ≤ 1000000)
    (q : ∀ x H', x ∈ xs → Drw st La Ca H' (t + 1) → Dr st La H H' → Q x H') : spPick acts [.ref st, .ref p] [] (upd H p (.lst xs)) Q E := by
  refine ⟨st, La, Ca, t, p, xs, rfl, tl, d.new hp, fun e => ?_, upd_same, l0, l1, fun x H' hx d' f' => q x H' hx d' (((Dr.refl st La H).new hp).trans f')⟩
  obtain ⟨_, _, _, _, z, _⟩ := d
  rw [e, z.la] at hp
  cases hp
/-! ### what a law's lambdas leave alone: all but the state, its list, the tables -/
def DrN (st La : Addr) (H H' : Hp) : Prop := ∀ b o, H b = some o → b ≠ st → b ≠ La → (∀ ps, o ≠ .tbl ps) → H' b = some o
theorem DrN.refl (st La : Addr) (H : Hp) : DrN st La H H := fun _ _ h _ _ _ => h
theorem DrN.trans {st La : Addr} {H H1 H2 : Hp} (a : DrN st La H H1) (b : DrN st La H1 H2) : DrN st La H H2 := fun c o h n m k => b c o (a c o h n m k) n m k
theorem Dr.n {st La : Addr} {H H' : Hp} (a : Dr st La H H') : DrN st La H H' := fun b o h n m _ => a b o h n m
theorem ext_n {st La : Addr} {H H' : Hp} (a : ExtN H H') : DrN st La H H' := fun b o h _ _ k => a b o h k
theorem DrN.new {st La p : Addr} {H H1 : Hp} {o : HO} (a : DrN st La H H1) (n : H1 p = none) : DrN st La H (upd H1 p o) := fun c u h n1 m k => by
  have q := a c u h n1 m k
  rw [upd_ne (ne_of_none q n)]
  exact q
section
variable {st La Ca a : Addr} {H H' : Hp} {t u : Int}
theorem Drw.la (d : Drw st La Ca H t) : ∃ xs, H La = some (.lst xs) := by
  obtain ⟨_, _, _, _, z, _⟩ := d
  exact ⟨_, z.la⟩
theorem Drw.keepT (d : Drw st La Ca H t) (n : DrN st La H H') {xs : List V} (h : H a = some (.tup xs)) : H' a = some (.tup xs) := by
  obtain ⟨l, v, z⟩ := d.full
  obtain ⟨ys, z2⟩ := d.la
  exact n a _ h (fun e => by rw [e, z] at h; cases h) (fun e => by rw [e, z2] at h; cases h) fun _ e => by cases e
theorem Drw.keepX (d : Drw st La Ca H t) (n : DrN st La H H') {φ : Heap → Prop} (h : H a = some (.ext φ)) : H' a = some (.ext φ) := by
  obtain ⟨l, v, z⟩ := d.full
  obtain ⟨ys, z2⟩ := d.la
  exact n a _ h (fun e => by rw [e, z] at h; cases h) (fun e => by rw [e, z2] at h; cases h) fun _ e => by cases e
theorem Drw.keepL (d : Drw st La Ca H t) (n : DrN st La H H') {xs : List V} (ha : a ≠ La) (h : H a = some (.lst xs)) : H' a = some (.lst xs) := by
  obtain ⟨l, v, z⟩ := d.full
  exact n a _ h (fun e => by rw [e, z] at h; cases h) ha fun _ e => by cases e
theorem Drw.ext (d : Drw st La Ca H t) (n : ExtN H H') : Drw st La Ca H' t := by
  obtain ⟨cs, ls, l, v, z, h⟩ := d
  exact ⟨cs, ls, l, v, { z with st := n _ _ z.st (fun _ e => by cases e), la := n _ _ z.la (fun _ e => by cases e), ca := n _ _ z.ca (fun _ e => by cases e) }, h⟩
theorem tabs_new {T : List (Addr × Str)} {p : Addr} {o : HO} (h : Tabs T H) (n : H p = none) : Tabs T (upd H p o) := fun q hq => (h q hq).ext fun b u e => by
  rw [upd_ne (ne_of_none e n)]
  exact e
theorem tabs_dr {T : List (Addr × Str)} (h : Tabs T H) (d : Drw st La Ca H t) (n : Dr st La H H') : Tabs T H' := fun q hq => by
  obtain ⟨ps, h1, h2, h3⟩ := h q hq
  obtain ⟨l, v, z⟩ := d.full
  obtain ⟨ys, z2⟩ := d.la
  refine ⟨ps, n _ _ h1 (fun e => by rw [e, z] at h1; cases h1) (fun e => by rw [e, z2] at h1; cases h1), h2, fun pos cv hc => ?_⟩
  obtain ⟨c, e1, e2⟩ := h3 pos cv hc
  exact ⟨c, e1, d.keepX n.n e2⟩
end
/-! ### what is caught of a lambda -/
/-- how an error that leaves the lambda ends: kept, if it is the package's -/
def ErrK (K : PySem.W.Frag) (Q : VK) (E : XK) : XK := fun cls d H' => ∃ b, PySem.W.exmOne K cls (.ref (He.ga K "ReelError")) = some b ∧ (b = true → ∀ a, H' a = none → Q (.ref a) (upd H' a (ExT cls d a))) ∧ (b = false → E cls d H')
/-- a call that is handed a lambda: kept folded -/
def tLamFn (S : SpG) (acts : L2.St → Hp → Acts) (W : WX) (t tk : TA) (n m : Nat) : TE := tFn S acts W t tk n m
def tCaught (K : PySem.W.Frag) (acts : L2.St → Hp → Acts) (W : WX) (t : TE) : TE := tFn (spCaught K) acts W (tCons t tNil) tNil 1 0
theorem caught_lam {K : PySem.W.Frag} {n : Nat} {Γ : Gam} {sc scope : Scope} {body : Expr} {σ : L2.St} {H : Hp} {Q : VK} {W : WX} {lm : WX → TE} (hP : Γ.P.isSome = true) (L : lamSB sc scope = true) (hq : ∀ W', wE K n Γ.low scope W' body = lm W')
    (hT : Tabs Γ.T H) (go : ∀ H2, ExtN H H2 → Tabs Γ.T H2 → lm (fun cls d _ H' => ErrK K Q (WE W σ) cls d H') σ H2 fun _ H' => Q .non H') :
    tCaught K (actsAt Γ sc fun s W b => wE K n Γ.low s W b) W (tLamV Γ.qual Γ.cells Γ.T body scope) σ H Q := by
  refine ⟨hT, fun f c' o H1 hE hT1 nf hL hc => ?_⟩
  refine ⟨rfl, rfl, f, fun E H' Q' => H' c' = some (CodeO c' (Γ.qual ++ "<lambda>")) ∧ wE K n Γ.low scope (fun cls d _ H'' => E cls d H'') body σ H' Q', rfl, ?_, ?_⟩
  · unfold actsAt
    cases e : Γ.P with
    | none => rw [e] at hP; cases hP
    | some p => exact .inr ⟨o, body, scope, c', hP, L, upd_same, hL, rfl⟩
  · refine ⟨by rw [upd_ne (ne_of_none hc nf)]; exact hc, ?_⟩
    rw [hq]
    exact go _ (fun b u e k => by
      have z := hE b u e k
      rw [upd_ne (ne_of_none z nf)]
      exact z) (tabs_new hT1 nf)
end G

set_option Elab.async false
set_option linter.all false
set_option maxRecDepth 100000
set_option maxHeartbeats 8000000
namespace G
open PySem PySem.Spec PyProof.Rows L2 LamX
/-! ## defs put together -/
section
variable {P : Program} {w : World} {K : PySem.W.Frag} {mg : Str → Option Value} {base : Heap}
theorem binds_k {x qual : Str} {params : Arguments} {body : List Stmt} {scope : Scope} {f : Addr} {fd : FuncData} {ps : List Str} {n : Nat} {ks : List Str} {ix : List Nat} (F : FunD K x qual params body scope [] [] f fd)
    (h : ∀ (kV doc pm : Value) (an : Option Addr) (cdv ct : Value) (us ws : List Value), us.length = n → ws.length = ks.length →
      bindArgs (PySem.W.fnOf x qual params body scope .none kV doc pm an cdv ct) ⟨us, ks.zip ws⟩ = pure (ps.zip (pick (us ++ ws) ix))) (s : Shared) (us ws : List Value) (l1 : us.length = n) (l2 : ws.length = ks.length) :
    BindsTo s fd ⟨us, ks.zip ws⟩ (ps.zip (pick (us ++ ws) ix)) := by
  obtain ⟨oc, od, dV, kV, doc, pm, an, cdv, ct, osl, rfl, lk, hcd, hD, hK⟩ := F.ex
  rcases hD with ⟨_, rfl⟩ | ⟨e, _⟩
  · exact .of_eq (h kV doc pm an cdv ct us ws l1 l2)
  · exact absurd rfl e
theorem mk_fn {x : Str} {params : Arguments} {body : List Stmt} {scope : Scope} {f : Addr} {fd : FuncData} {N ps : List Str} {n : Nat} {ks : List Str} {ix : List Nat} {k : Nat} {S' : SpG} (S : Acts → List V → Hp → VK → XK → Prop)
    (F : FunD K x x params body scope [] [] f fd) (gx : mg x = some (.ref f)) (Sc : FnScope N ps scope)
    (hb : ∀ (kV doc pm : Value) (an : Option Addr) (cdv ct : Value) (us ws : List Value), us.length = n → ws.length = ks.length →
      bindArgs (PySem.W.fnOf x x params body scope .none kV doc pm an cdv ct) ⟨us, ks.zip ws⟩ = pure (ps.zip (pick (us ++ ws) ix)))
    (m : Md) (hm : MdOk P K mg m) (hkm : m.exa = [] ∨ 1 ≤ k) (fl : List FnE) (hfl : ∀ e ∈ fl, FnEOk P w K mg base k e) (ta : Bool) (hta : ta = true → lamRoom ≤ k) (T : List (Addr × Str)) (pt : Option Addr) (hP : ∀ p, pt = some p → TabOk K mg base f (x ++ ".<locals>.") T p)
    (t : List (Str × Addr) → Acts → XK → TS) (eq : ∀ (cells : List (Str × Addr)) (acts : Acts) (E : XK), wSL (wS K 40 (gam m N fl (fun g tl => ta = true ∧ acts g tl) (x ++ ".<locals>.") cells T pt) scope (fun cls d _ H' => E cls d H')) body = t cells acts E)
    (ok : ∀ (cells : List (Str × Addr)) (acts : Acts) (vs : List V) (H : Hp) (Q : VK) (E : XK), S acts vs H Q E → vs.length = ps.length ∧ t cells acts E ⟨fun _ H' => Q .non H', Q, fun _ _ => False, fun _ _ => False⟩ (L2.start N vs) H)
    (hi : ∀ acts vs zs H Q E, vs.length = n → zs.length = ks.length → S' acts vs zs H Q E → S acts (pick (vs ++ zs) ix) H Q E) : FnEOk P w K mg base (k + 1) ⟨x, n, ks, k + 1, S', none⟩ := by
  refine ⟨Nat.le_refl _, f, gx, F.kp, ?_⟩
  refine FnS.imp (fn_rule (ix := ix) (S := S) F Sc (fun s us ws l1 l2 => binds_k F hb s us ws l1 l2) m hm hkm fl hfl ta hta T pt hP 40 fun cells acts vs H Q E h => ?_) hi
  have z := ok cells acts vs H Q E h
  refine ⟨z.1, ?_⟩
  rw [eq cells acts E]
  exact z.2
end
/-! ## an exception class's facts, as a Bool -/
/-- where a def's lambdas are kept, by the head's facts -/
theorem tab_ok {K : PySem.W.Frag} {mg : Str → Option Value} {base : Heap} {x qual : Str} {params : Arguments} {body : List Stmt} {scope : Scope} {dvs : List V} {kws : List (Str × V)} {q : Str × Option Str} {fd : FuncData} {T : List (Addr × Str)} {lq : Str}
    (F : FunD K x qual params body scope dvs kws (He.fAd K q) fd) (tb : TabB base mg (He.cT K q).1 (He.cT K q).2) (hT : ((He.cT K q).2, lq ++ "<lambda>") ∈ T) (hu : ∀ r ∈ T, r.1 = (He.cT K q).2 → r.2 = lq ++ "<lambda>") : TabOk K mg base (He.fAd K q) lq T (He.cT K q).2 := by
  obtain ⟨oc, od, dV, kV, doc, pm, an, cdv, ct, osl, rfl, lk, hcd, hD, hK⟩ := F.ex
  obtain ⟨c, rfl⟩ := He.codeIn_ref hcd
  have e : He.codeOf K q = c := He.codeOf_eq lk rfl
  refine ⟨c, fun oc' od' fd' sl' lk' => ?_, ?_, hT, hu⟩
  · rw [lk] at lk'
    cases lk'
    rfl
  · have e2 : (He.cT K q).1 = c := e
    rw [e2] at tb
    exact tb
theorem hi_draw {acts : Acts} {vs zs : List V} {H : Hp} {Q : VK} {E : XK} (h : spDraw acts vs zs H Q E) : spDraw acts (pick (vs ++ zs) [0, 1]) [] H Q E := by
  obtain ⟨st, La, Ca, n, t, e, r⟩ := h
  exact ⟨st, La, Ca, n, t, by rw [e]; rfl, r⟩
theorem hi_pick {acts : Acts} {vs zs : List V} {H : Hp} {Q : VK} {E : XK} (h : spPick acts vs zs H Q E) : spPick acts (pick (vs ++ zs) [0, 1]) [] H Q E := by
  obtain ⟨st, La, Ca, t, a, xs, e, r⟩ := h
  exact ⟨st, La, Ca, t, a, xs, by rw [e]; rfl, r⟩
theorem hi_begun {K : PySem.W.Frag} {acts : Acts} {vs zs : List V} {H : Hp} {Q : VK} {E : XK} (h : spBegun K acts vs zs H Q E) : spBegun K acts (pick (vs ++ zs) [0]) [] H Q E := by
  obtain ⟨a, ys, e, r⟩ := h
  exact ⟨a, ys, by rw [e]; rfl, r⟩
theorem hi_caught {K : PySem.W.Frag} {acts : Acts} {vs zs : List V} {H : Hp} {Q : VK} {E : XK} (h : spCaught K acts vs zs H Q E) : spCaught K acts (pick (vs ++ zs) [0]) [] H Q E := by
  obtain ⟨f, tl, e, r⟩ := h
  exact ⟨f, tl, by rw [e]; rfl, r⟩
theorem ln_draw {acts : Acts} {vs : List V} {H : Hp} {Q : VK} {E : XK} (h : spDraw acts vs [] H Q E) : vs.length = 2 := by
  obtain ⟨st, La, Ca, n, t, e, r⟩ := h
  rw [List.append_nil] at e
  rw [e]
  rfl
theorem ln_pick {acts : Acts} {vs : List V} {H : Hp} {Q : VK} {E : XK} (h : spPick acts vs [] H Q E) : vs.length = 2 := by
  obtain ⟨st, La, Ca, t, a, xs, e, r⟩ := h
  rw [List.append_nil] at e
  rw [e]
  rfl
theorem ln_begun {K : PySem.W.Frag} {acts : Acts} {vs : List V} {H : Hp} {Q : VK} {E : XK} (h : spBegun K acts vs [] H Q E) : vs.length = 1 := by
  obtain ⟨a, ys, e, r⟩ := h
  rw [List.append_nil] at e
  rw [e]
  rfl
theorem ln_caught {K : PySem.W.Frag} {acts : Acts} {vs : List V} {H : Hp} {Q : VK} {E : XK} (h : spCaught K acts vs [] H Q E) : vs.length = 1 := by
  obtain ⟨f, tl, e, r⟩ := h
  rw [List.append_nil] at e
  rw [e]
  rfl
end G

set_option Elab.async false
set_option linter.all false
set_option maxRecDepth 100000
set_option maxHeartbeats 8000000
namespace G
open PySem PySem.Spec PyProof.Rows L2 LamX
/-! ## the head: closures' cells too, error classes with an __init__ -/
/-- what the text says of the __init__ -/
structure IniS (P : Program) (d : IniD) : Prop where
  top : (P.main.scope.names.lookup ("super" : Str)).isSome = false
  sh : ∃ (txt : Str) (a1 a2 : Arg) (p0 p1 p2 p3 p4 p5 p6 p7 p8 p9 : Pos) (j : Nat), d.params = iniArgs d.fld a1 a2 ∧ d.body = iniBody d.fld txt p0 p1 p2 p3 p4 p5 p6 p7 p8 p9 j ∧ a1.arg = "self" ∧ a2.arg = d.fld ∧ (p2.endLine == p4.line) = true ∧
    ∀ (kV doc pm cda ct : Value) (an : Option Addr) (cc : Addr) (u v : Value), bindArgs (PySem.W.ksFn "__init__" d.qual d.params d.body d.scope .none kV doc pm an cda ct cc) ⟨[u, v], []⟩ = pure [(("self" : Str), u), (d.fld, v)]
  ncell : ∀ y ∈ d.scope.names, y.2 ≠ .cell
  nco : d.scope.isCoroutine = false
  ngen : d.scope.isGenerator = false
  kind : d.scope.kind = .function
  s1 : d.scope.names.lookup ("super" : Str) = some .globalImplicit
  s2 : d.scope.names.lookup ("__class__" : Str) = some .free
  s3 : d.scope.names.lookup ("self" : Str) = some .local
  s4 : d.scope.names.lookup d.fld = some .local
  hd : (d.fld == ("__debug__" : Str)) = false
  hs : d.fld ≠ "self"
theorem ini_ok {K : PySem.W.Frag} {P : Program} {d : IniD} (S : IniS P d) (e : iniO K d.x = d.val) (h : iniB K P d = true) : IniF K P (He.ga K d.x) d.fld := by
  unfold iniB at h
  obtain ⟨h1, h⟩ := He.ba h
  obtain ⟨h2, h⟩ := He.ba h
  obtain ⟨h3, h⟩ := He.ba h
  obtain ⟨h4, h⟩ := He.ba h
  obtain ⟨h5, h⟩ := He.ba h
  obtain ⟨h6, h⟩ := He.ba h
  obtain ⟨h7, h⟩ := He.ba h
  obtain ⟨h8, h⟩ := He.ba h
  obtain ⟨h9, h⟩ := He.ba h
  obtain ⟨h10, h⟩ := He.ba h
  obtain ⟨h11, h⟩ := He.ba h
  obtain ⟨h12, h⟩ := He.ba h
  obtain ⟨h13, h⟩ := He.ba h
  refine ⟨⟨oexB_ok h1, He.eqO_ok h2, of_decide_eq_true h3, of_decide_eq_true h4, h5⟩, He.eqO_ok h6, of_decide_eq_true h7, He.eqO_ok h8, of_decide_eq_true h9, He.eqO_ok h10, He.eqO_ok h11, S.top, ?_⟩
  unfold iniO at e
  split at h
  · rename_i oc od fd sl lk
    rw [lk] at e
    obtain ⟨n1, n2, n3, n4, n5, n6, n7, n8, n9, n10, n11, n12, n13, n14, n15⟩ := fd
    have e2 : (some (n1, n2, n3, n4, n5, n6, n7.map (·.1), n15) : IniW) = some (("__init__" : Str), d.qual, d.params, FuncBody.stmts d.body, d.scope, mainGlobals, [("__class__" : Str)], builtinsNs) := e
    simp only [Option.some.injEq, Prod.mk.injEq] at e2
    obtain ⟨q1, q2, q3, q4, q5, q6, q7, q8⟩ := e2
    unfold fdB at h
    obtain ⟨g1, h⟩ := He.ba h
    obtain ⟨g2, h⟩ := He.ba h
    obtain ⟨g3, g4⟩ := He.ba h
    dsimp only at g1 g2 g3 g4
    have z2 := of_decide_eq_true g2
    subst z2
    obtain ⟨cda, rfl⟩ := He.codeIn_ref g1
    obtain ⟨ccl, cdd, vs, ccs, file, tf, lc, hv, hf⟩ := fileB_ok g3
    match n7, q7, g4 with
    | [(y, cc)], q7, g4 =>
      obtain ⟨cl, cld, csl, lcc⟩ := cellB_ok g4
      have y1 : y = ("__class__" : Str) := List.head_eq_of_cons_eq q7
      subst y1 q1 q2 q3 q4 q5 q6 q8
      obtain ⟨txt, a1, a2, p0, p1, p2, p3, p4, p5, p6, p7, p8, p9, j, w1, w2, w3, w4, w5, w6⟩ := S.sh
      refine ⟨He.fAd K (d.x, some "__init__"), cda, cc, oc, ccl, cl, od, cdd, cld, sl, ccs, csl, d.qual, txt, n9, n10, n11, n14, n12, a1, a2, d.scope, p0, p1, p2, p3, p4, p5, p6, p7, p8, p9, j, vs, file, tf, He.eqO_ok h12, of_decide_eq_true h13, ?_, g1, w3, w4, S.ncell, S.nco, S.ngen, S.kind, S.s1, S.s2, S.s3, S.s4, lc, hv, hf, lcc, fun _ _ => rfl, S.hd, S.hs, w5, fun u v => ?_⟩
      · rw [lk, w1, w2]
      · rw [← w1, ← w2]
        exact w6 n9 n10 n11 (.ref cda) n14 n12 cc u v
  · cases h
/-! ### the hook -/
theorem frT_as {as : List Addr} {h : Heap} : (He.frT h.get? as).In h := fun _ _ e => (He.frT_mem e).1
structure SaysY (fa : List He.Fa) (fn : List He.DefD) (ts : List He.Tab) (tf : List He.Defn) (ini : List IniD) (ex : PySem.W.Frag → Bool) (w : World) (h : Heap) (K : PySem.W.Frag) : Prop where
  x : He.SaysX fa fn ts tf ex w h K
  i : ini.map (fun d => iniO K d.x) = ini.map IniD.val
abbrev AlY : Type := He.AlX × List IniW
def obsY (n : Nat) (fa : List He.Fa) (fn : List He.DefD) (ts : List He.Tab) (tf : List He.Defn) (ini : List IniD) (ex : PySem.W.Frag → Bool) (g : Addr → Option Obj) : AlY :=
  ((He.obsT fa fn ts (He.frT g (asY g n)), ex (He.frT g (asY g n)) && He.tabsB g tf (He.frT g (asY g n))), ini.map fun d => iniO (He.frT g (asY g n)) d.x)
def valY (fn : List He.DefD) (ts : List He.Tab) (ini : List IniD) (w : World) : AlY := (He.valX fn ts w, ini.map IniD.val)
theorem saysY_of {n : Nat} {fa : List He.Fa} {fn : List He.DefD} {ts : List He.Tab} {tf : List He.Defn} {ini : List IniD} {ex : PySem.W.Frag → Bool} {w : World} {h : Heap} (e : obsY n fa fn ts tf ini ex h.get? = valY fn ts ini w) :
    SaysY fa fn ts tf ini ex w h (He.frT h.get? (asY h.get? n)) := by
  obtain ⟨K, eK⟩ : ∃ K, K = He.frT h.get? (asY h.get? n) := ⟨_, rfl⟩
  have e0 : ((He.obsT fa fn ts (He.frT h.get? (asY h.get? n)), ex (He.frT h.get? (asY h.get? n)) && He.tabsB h.get? tf (He.frT h.get? (asY h.get? n))), ini.map fun d => iniO (He.frT h.get? (asY h.get? n)) d.x) = ((He.valT fn ts w, true), ini.map IniD.val) := e
  rw [← eK] at e0 ⊢
  have e1 := congrArg (fun z : AlY => z.1.1) e0
  have e2 : (ex K && He.tabsB h.get? tf K) = true := congrArg (fun z : AlY => z.1.2) e0
  have e3 := congrArg (fun z : AlY => z.2) e0
  obtain ⟨h1, h2⟩ := He.ba e2
  have all : ∀ p ∈ tf, PySem.W.codeHdIn K (He.cT K p).1 (He.cT K p).2 = true ∧ ∃ o, h.get? (He.cT K p).2 = some o ∧ He.emptyTab o = true := fun p hp => by
    obtain ⟨a, b⟩ := He.ba (List.all_eq_true.mp h2 p hp)
    refine ⟨a, ?_⟩
    split at b
    · rename_i o q
      exact ⟨o, q, b⟩
    · cases b
  refine ⟨⟨e1, h1, fun p hp => (all p hp).1, fun p hp => ?_, fun p hp => ?_⟩, e3⟩
  · obtain ⟨_, o, q, z⟩ := all p hp
    have y := He.frT_none (as := asY h.get? n) q z
    rw [← eK] at y
    exact y
  · obtain ⟨_, o, q, z⟩ := all p hp
    rw [q, He.emptyTab_eq z]
def hookY (n : Nat) (fa : List He.Fa) (fn : List He.DefD) (ts : List He.Tab) (tf : List He.Defn) (ini : List IniD) (ex : PySem.W.Frag → Bool) : PySem.W.Hook where
  α := AlY
  obs := fun s => obsY n fa fn ts tf ini ex s.heap.get?
  val := fun w => valY fn ts ini w
  says := fun w h => ∃ K : PySem.W.Frag, K.In h ∧ SaysY fa fn ts tf ini ex w h K
  of := fun _ _ e => ⟨_, frT_as, saysY_of e⟩
  keeps := fun _ _ _ ⟨K, hK, c⟩ k => ⟨K, fun b o z => k b o (hK b o z), ⟨⟨c.x.t, c.x.more, c.x.hd, c.x.out, fun p hp => k _ _ (c.x.empty p hp)⟩, c.i⟩⟩
theorem obsY_eq {n : Nat} {fa : List He.Fa} {fn : List He.DefD} {ts : List He.Tab} {tf : List He.Defn} {ini : List IniD} {ex : PySem.W.Frag → Bool} {g : Addr → Option Obj} {s : Shared} (h : ∀ a, g a = s.heap.get? a) : obsY n fa fn ts tf ini ex g = (hookY n fa fn ts tf ini ex).obs s := by
  have e : g = s.heap.get? := funext h
  rw [e]
  rfl
theorem SaysY.ini {fa : List He.Fa} {fn : List He.DefD} {ts : List He.Tab} {tf : List He.Defn} {ini : List IniD} {ex : PySem.W.Frag → Bool} {w : World} {h : Heap} {K : PySem.W.Frag} {P : Program} (c : SaysY fa fn ts tf ini ex w h K) (i : Nat) {d : IniD} (e : ini[i]? = some d) (S : IniS P d) (b : iniB K P d = true) :
    IniF K P (He.ga K d.x) d.fld := by
  refine ini_ok S ?_ b
  have z : (ini.map fun d => iniO K d.x)[i]? = (ini.map IniD.val)[i]? := by rw [c.i]
  rw [List.getElem?_map, List.getElem?_map, e] at z
  exact Option.some.inj z
end G

set_option Elab.async false
set_option linter.all false
set_option maxRecDepth 100000
set_option maxHeartbeats 8000000
namespace G
open PySem PySem.Spec PyProof.Rows L2 LamX
/-! ## own classes: an instance made -/
section
variable {P : Program} {w : World} {K : PySem.W.Frag} {mg : Str → Option Value} {base : Heap} {A : Around} {outer : List Env} {s : Shared} {H : Hp}
abbrev madeH (h : Heap) (C : Addr) : Heap := (h.push PySem.W.emptyDict).push (PySem.W.instObj C h.objs.size)
abbrev madeT (h : Heap) (H : Hp) (C : Addr) : Hp := upd (upd H h.objs.size (.own (h.objs.size + 1))) (h.objs.size + 1) (.ins C h.objs.size [])
theorem made_kp {h : Heap} {C : Addr} : ∀ b u, h.get? b = some u → (madeH h C).get? b = some u := fun b u q => Heap.get?_push_of_some _ (Heap.get?_push_of_some _ q)
theorem made_sz {h : Heap} {C : Addr} : h.objs.size ≤ (madeH h C).objs.size := by
  rw [Heap.size_push, Heap.size_push]
  omega
theorem made_at {h : Heap} {H : Hp} {C b : Addr} (hb : b < h.objs.size) : madeT h H C b = H b := by
  unfold madeT
  have n1 : b ≠ h.objs.size := Nat.ne_of_lt hb
  have n2 : b ≠ h.objs.size + 1 := Nat.ne_of_lt (Nat.lt_succ_of_lt hb)
  rw [upd_ne n2, upd_ne n1]
theorem made_ok {h : Heap} {C : Addr} (x : HOk P w H h) : HOk P w (madeT h H C) (madeH h C) := by
  have e1 : (h.push PySem.W.emptyDict).get? h.objs.size = some PySem.W.emptyDict := Heap.get?_push_size h rfl
  have e2 : (madeH h C).get? (h.objs.size + 1) = some (PySem.W.instObj C h.objs.size) := by
    have := Heap.get?_push_size (h.push PySem.W.emptyDict) (o := PySem.W.instObj C h.objs.size) rfl
    rwa [Heap.size_push] at this
  have e3 : (h.push PySem.W.emptyDict).Ns h.objs.size (fun _ => none) := ⟨PySem.W.emptyDict, #[], _, e1, rfl, (fun e he => absurd he (by simp)), fun _ => rfl⟩
  have x1 : HOk P w (upd H h.objs.size (.own (h.objs.size + 1))) (h.push PySem.W.emptyDict) := x.laid (a := h.objs.size) (o := .own (h.objs.size + 1)) (fun b u q => Heap.get?_push_of_some _ q) (Nat.le_refl _) ⟨_, e1⟩
  refine x1.laid (a := h.objs.size + 1) (o := .ins C h.objs.size []) (fun b u q => Heap.get?_push_of_some _ q) (Nat.le_of_eq (Heap.size_push _ _)) ?_
  have ne : h.objs.size ≠ h.objs.size + 1 := Nat.ne_of_lt (Nat.lt_succ_self _)
  refine ⟨by rw [upd_ne ne, upd_same], Nat.zero_le _, ne, e2, fun _ => none, (Heap.Ns1.of_empty e3).at fun o q => Heap.get?_push_of_some _ q, fun _ => True.intro, fun y hy => absurd rfl hy⟩
theorem made_un {h : Heap} {C : Addr} {l : List Env} (x : HOk P w H h) : Un (frs l) [] H (madeT h H C) h (madeH h C) := by
  refine ⟨fun b o e _ _ _ => made_kp b o e, fun b o e _ _ _ => ⟨o.slots, made_kp b o e⟩, fun b o e n _ => by rw [made_at (Heap.lt_size e)]; exact n, fun b o e _ => ⟨o, made_kp b o e⟩, fun b xs e => ?_, fun b o u e => ?_, fun b ps e => ⟨#[], ?_⟩⟩
  all_goals
    have n1 : H h.objs.size = none := x.fresh (Nat.le_refl _)
    have n2 : H (h.objs.size + 1) = none := x.fresh (Nat.le_succ _)
    have b1 : b ≠ h.objs.size := ne_of_none e n1
    have b2 : b ≠ h.objs.size + 1 := ne_of_none e n2
    unfold madeT
    rw [upd_ne b2, upd_ne b1, e]
  simp
theorem made_env0 {C : Addr} {us : List Value} {kw : List (Str × Value)} (e : Env0 P w K mg base A outer s H) : Env0 P w K mg base (A.under (.builtin "type.__call__" ⟨.ref C :: us, kw⟩)) outer { s with heap := madeH s.heap C } (madeT s.heap H C) where
  frames := (e.make C us kw).frames
  mod := e.mod
  bs := fun b o q => by
    obtain ⟨h1, h2⟩ := e.bs b o q
    exact ⟨made_kp b o h1, by rw [made_at (Heap.lt_size h1)]; exact h2⟩
  bsz := Nat.le_trans e.bsz made_sz
  funs := PySem.Heap.FunFrames.of_keeps (fun b o q _ => ⟨o, made_kp b o q, rfl⟩) e.funs
  frf := fun b hb => by
    have n := e.frf b hb
    obtain ⟨_, o, q, _⟩ := e.funs.mem hb
    rw [made_at (Heap.lt_size q)]
    exact n
  hok := made_ok e.hok
  bare := e.bare
theorem ub_pre {fs : List Addr} {H1 H2 : Hp} {h h1 B h2 : Heap} (u : Un fs [] H H1 h h1) (k : ∀ b o, h.get? b = some o → h1.get? b = some o) (b : UB fs H1 H2 h1 B h2) : UB fs H H2 h B h2 where
  keep := fun c o q n hc => b.keep c o (k c o q) (u.free c o q n (by simp)) hc
  slot := fun c o q hc => b.slot c o (k c o q) hc
  free := fun c o q n => b.free c o (k c o q) (u.free c o q n (by simp))
  there := fun c o q hc => b.there c o (k c o q) hc
  tups := fun c xs q => b.tups c xs (u.tups c xs q)
  frzs := fun c o xs q => b.frzs c o xs (u.frzs c o xs q)
  tbls := fun c ps q => by
    obtain ⟨m1, e1⟩ := u.tbls c ps q
    obtain ⟨m2, e2⟩ := b.tbls c _ e1
    exact ⟨m1 ++ m2, by rw [e2, Array.append_assoc]⟩
/-- what a class's call wants: the new instance and its dict, then __init__ -/
def mkS (C : Addr) (S : SpG) : SpG := fun acts vs zs H Q E => ∀ x dx, H x = none → H dx = none → dx ≠ x → S acts (.ref x :: vs) zs (upd (upd H dx (.own x)) x (.ins C dx [])) (fun v H2 => v = .non ∧ Q (.ref x) H2) E
theorem cls_fn {k n : Nat} {ks : List Str} {C f : Addr} {S : SpG} (M : Mk K C f) (F : FnS P w K mg base k f (n + 1) ks S) : FnS P w K mg base (k + 1) C n ks (mkS C S) := by
  intro A outer s H us ws vs zs Q E acts hr e0 r rz l1 l2 ha hS
  have fr1 : H (s.heap.objs.size + 1) = none := e0.hok.fresh (Nat.le_succ _)
  have fr2 : H s.heap.objs.size = none := e0.hok.fresh (Nat.le_refl _)
  have hq := hS (s.heap.objs.size + 1) s.heap.objs.size fr1 fr2 (Nat.ne_of_lt (Nat.lt_succ_self _))
  have UN : Un (frs outer) [] H (madeT s.heap H C) s.heap (madeH s.heap C) := made_un e0.hok
  have KX : K.In s.heap := fun b o q => (e0.bs b o (e0.mod.kin b o q)).1
  refine make_map (f := f) KX M.makes M.init (beq_iff_eq.mp M.fn) ?_
  have run := F (A.under (.builtin "type.__call__" ⟨.ref C :: us, ks.zip ws⟩)) outer { s with heap := madeH s.heap C } (madeT s.heap H C) (.ref (s.heap.objs.size + 1) :: us) ws (.ref (s.heap.objs.size + 1) :: vs) zs _ E acts
    ⟨hr.r.make C us (ks.zip ws), hr.g⟩ (made_env0 e0) (.cons rfl r) rz (congrArg Nat.succ l1) l2 (fun g tl q => (ha g tl q).later UN (fun _ z => z) (fun b z n => absurd z n)) hq
  refine codeAny_mono run fun r s' hc => ?_
  cases r with
  | error er =>
    obtain ⟨a, B, H', cls, d, e1, e2, e3, e4, e5, e6, e7, e8⟩ := hc
    exact ⟨a, B, H', cls, d, e1, e2, e3, ub_pre UN made_kp e4, e5, e6, e7, e8⟩
  | ok fl =>
    cases fl with
    | ret u =>
      obtain ⟨v, H', e1, e2, e3, e4, e5, e6, e7⟩ := hc
      subst e6
      exact ⟨e5, .ref (s.heap.objs.size + 1), H', e1, e2, UN.trans e3, e4, rfl, e7⟩
    | next => exact hc.elim
    | brk => exact hc.elim
    | cont => exact hc.elim
theorem mk_cls {k n : Nat} {ks : List Str} {x : Str} {C f : Addr} {S : SpG} (M : Mk K C f) (hm : mg x = some (.ref C)) (F : FnS P w K mg base k f (n + 1) ks S) : FnEOk P w K mg base (k + 1) ⟨x, n, ks, k + 1, mkS C S, none⟩ :=
  ⟨Nat.le_refl _, C, hm, M.kp, cls_fn M F⟩
/-- a method of a class -/
theorem mk_mt {x qual : Str} {params : Arguments} {body : List Stmt} {scope : Scope} {f : Addr} {fd : FuncData} {N ps : List Str} {n : Nat} {ks : List Str} {ix : List Nat} {k : Nat} {S' : SpG} (S : Acts → List V → Hp → VK → XK → Prop)
    (F : FunD K x qual params body scope [] [] f fd) (Sc : FnScope N ps scope)
    (hb : ∀ (kV doc pm : Value) (an : Option Addr) (cdv ct : Value) (us ws : List Value), us.length = n → ws.length = ks.length →
      bindArgs (PySem.W.fnOf x qual params body scope .none kV doc pm an cdv ct) ⟨us, ks.zip ws⟩ = pure (ps.zip (pick (us ++ ws) ix)))
    (m : Md) (hm : MdOk P K mg m) (hkm : m.exa = [] ∨ 1 ≤ k) (fl : List FnE) (hfl : ∀ e ∈ fl, FnEOk P w K mg base k e) (ta : Bool) (hta : ta = true → lamRoom ≤ k) (T : List (Addr × Str)) (pt : Option Addr) (hP : ∀ p, pt = some p → TabOk K mg base f (qual ++ ".<locals>.") T p)
    (t : List (Str × Addr) → Acts → XK → TS) (eq : ∀ (cells : List (Str × Addr)) (acts : Acts) (E : XK), wSL (wS K 40 (gam m N fl (fun g tl => ta = true ∧ acts g tl) (qual ++ ".<locals>.") cells T pt) scope (fun cls d _ H' => E cls d H')) body = t cells acts E)
    (ok : ∀ (cells : List (Str × Addr)) (acts : Acts) (vs : List V) (H : Hp) (Q : VK) (E : XK), S acts vs H Q E → vs.length = ps.length ∧ t cells acts E ⟨fun _ H' => Q .non H', Q, fun _ _ => False, fun _ _ => False⟩ (L2.start N vs) H)
    (hi : ∀ acts vs zs H Q E, vs.length = n → zs.length = ks.length → S' acts vs zs H Q E → S acts (pick (vs ++ zs) ix) H Q E) : FnS P w K mg base (k + 1) f n ks S' := by
  refine FnS.imp (fn_rule (ix := ix) (S := S) F Sc (fun s us ws l1 l2 => binds_k F hb s us ws l1 l2) m hm hkm fl hfl ta hta T pt hP 40 fun cells acts vs H Q E h => ?_) hi
  have z := ok cells acts vs H Q E h
  refine ⟨z.1, ?_⟩
  rw [eq cells acts E]
  exact z.2
end
/-! ### what is asked of the class, as a Bool -/
def mkB (K : PySem.W.Frag) (C f : Addr) : Bool := PySem.W.makesIn K C && (He.eqO (PySem.W.findIn K (.ref C) "__init__") (some (some (.ref f))) && (PySem.W.isFn K (.ref f) && PySem.W.keepIn K (.ref C)))
theorem mkB_ok {K : PySem.W.Frag} {C f : Addr} (h : mkB K C f = true) : Mk K C f := by
  obtain ⟨h1, h⟩ := He.ba h
  obtain ⟨h2, h⟩ := He.ba h
  obtain ⟨h3, h4⟩ := He.ba h
  exact ⟨h1, He.eqO_ok h2, h3, h4⟩
def clsB (K : PySem.W.Frag) (C : Addr) : Bool := PySem.W.plainGet K C Str.empty && (PySem.W.hasDictIn K C && (PySem.W.plainOver K C && He.eqO (PySem.W.findIn K (.ref C) "__setattr__") (some (some (.builtin "object.__setattr__")))))
theorem clsB_ok {K : PySem.W.Frag} {C : Addr} (h : clsB K C = true) : Cls K C := by
  obtain ⟨h1, h⟩ := He.ba h
  obtain ⟨h2, h⟩ := He.ba h
  obtain ⟨h3, h4⟩ := He.ba h
  exact ⟨h1, h2, h3, He.eqO_ok h4⟩
/-- isinstance of an instance: what TyOf.ins asks -/
structure InsC (K : PySem.W.Frag) (C : Addr) : Prop where
  cl : Cls K C
  ha : PySem.W.findIn K (.ref C) "__class__" = some (some (.builtin "object.__class__"))
  hn : PySem.W.specialIn K (.builtin "object.__class__") "__get__" = some (some (.builtin "getset_descriptor.__get__"))
  ht : PySem.W.takesIn K (.builtin "object.__class__") = some true
  hm : PySem.W.mroIn K C (.type "object") = some true
  one : PySem.W.kitOne K (.ref C) (.ref C) = some true
def insB (K : PySem.W.Frag) (C : Addr) : Bool := clsB K C && (He.eqO (PySem.W.findIn K (.ref C) "__class__") (some (some (.builtin "object.__class__"))) &&
  (He.eqO (PySem.W.specialIn K (.builtin "object.__class__") "__get__") (some (some (.builtin "getset_descriptor.__get__"))) && (decide (PySem.W.takesIn K (.builtin "object.__class__") = some true) && (decide (PySem.W.mroIn K C (.type "object") = some true) &&
  decide (PySem.W.kitOne K (.ref C) (.ref C) = some true)))))
theorem insB_ok {K : PySem.W.Frag} {C : Addr} (h : insB K C = true) : InsC K C := by
  obtain ⟨h1, h⟩ := He.ba h
  obtain ⟨h2, h⟩ := He.ba h
  obtain ⟨h3, h⟩ := He.ba h
  obtain ⟨h4, h⟩ := He.ba h
  obtain ⟨h5, h6⟩ := He.ba h
  exact ⟨clsB_ok h1, He.eqO_ok h2, He.eqO_ok h3, of_decide_eq_true h4, of_decide_eq_true h5, of_decide_eq_true h6⟩
end G

set_option Elab.async false
set_option linter.all false
set_option maxRecDepth 100000
set_option maxHeartbeats 8000000
namespace Pk
open PySem PySem.Spec PyProof.Rows L2 LamX G
/-! ## values of any kind -/
/-- none, a bool, an int, a text, a list, a tuple, a dict -/
def Kd (H : Hp) : V → Prop
  | .non => True
  | .bl _ => True
  | .int _ => True
  | .str _ => True
  | .ref a => (∃ xs, H a = some (.lst xs)) ∨ (∃ xs, H a = some (.tup xs)) ∨ ∃ kvs, H a = some (.dK kvs)
  | _ => False
def isTy (n : String) : V → Bool
  | .bl _ => n == "bool" || n == "int"
  | .int _ => n == "int"
  | .str _ => n == "str"
  | _ => false
theorem kit_b {K : PySem.W.Frag} : PySem.W.kitOne K (.type "bool") (.type "int") = some true ∧ PySem.W.kitOne K (.type "bool") (.type "bool") = some true ∧ PySem.W.kitOne K (.type "bool") (.type "str") = some false := ⟨rfl, rfl, rfl⟩
theorem isX_kd {K : PySem.W.Frag} {H : Hp} {x : V} {n : String} {Q : VK} (hn : n = "int" ∨ n = "bool" ∨ n = "str") (k : Kd H x) (q : Q (.bl (isTy n x)) H) : G.rIsX K [x, .ty n] H Q := by
  refine .inl ?_
  have go : ∀ (t : String) (b : Bool), TyOf K H x (.type t) → PySem.W.kitOne K (.type t) (.type n) = some b → b = isTy n x → rIsi K [x, .ty n] H Q := fun t b h1 h2 h3 => ⟨x, .ty n, _, .type n, b, rfl, .ty n, .base h1, h2, by rw [h3]; exact q⟩
  cases x with
  | non => rcases hn with rfl | rfl | rfl <;> exact go _ _ .non rfl rfl
  | bl b => rcases hn with rfl | rfl | rfl <;> exact go _ _ (.bl b) rfl rfl
  | int i => rcases hn with rfl | rfl | rfl <;> exact go _ _ (.int i) rfl rfl
  | str y => rcases hn with rfl | rfl | rfl <;> exact go _ _ (.str y) rfl rfl
  | ref a =>
    rcases k with ⟨xs, h⟩ | ⟨xs, h⟩ | ⟨kvs, h⟩
    · rcases hn with rfl | rfl | rfl <;> exact go _ _ (.lst h) rfl rfl
    · rcases hn with rfl | rfl | rfl <;> exact go _ _ (.tup h) rfl rfl
    · rcases hn with rfl | rfl | rfl <;> exact go _ _ (.dK h) rfl rfl
  | _ => exact k.elim
def isNum : V → Bool
  | .int _ => true
  | _ => false
def btw (x : V) (lo hi : Int) : Bool := match x with
  | .int i => decide (lo ≤ i) && decide (i ≤ hi)
  | _ => false
theorem isNum_eq (x : V) : isNum x = (isTy "int" x && !isTy "bool" x) := by cases x <;> rfl
theorem btw_int {x : V} {lo hi : Int} (h : btw x lo hi = true) : ∃ i, x = .int i ∧ lo ≤ i ∧ i ≤ hi := by
  cases x with
  | int i =>
    have z : (decide (lo ≤ i) && decide (i ≤ hi)) = true := h
    rw [Bool.and_eq_true, decide_eq_true_eq, decide_eq_true_eq] at z
    exact ⟨i, rfl, z.1, z.2⟩
  | _ => cases h
theorem btw_of {i lo hi : Int} (h1 : lo ≤ i) (h2 : i ≤ hi) : btw (.int i) lo hi = true := by
  show (decide (lo ≤ i) && decide (i ≤ hi)) = true
  rw [decide_eq_true h1, decide_eq_true h2]
  rfl
def isBits : V → Bool
  | .str a => decide (Txt.stripChars a "01" = "")
  | _ => false
def foldZ (i : Int) : Int := if 0 < i then 2 * i - 1 else -2 * i
def unfoldZ (i : Int) : Int := if i % 2 = 1 then (i + 1) / 2 else -(i / 2)
def many (i : Int) : Nat := (foldZ i + 1).toNat.log2
def longW (i : Int) : Str := ones (many i) ++ "0" ++ tw (many i) (foldZ i + 1) ""
def gradeW (i g : Int) : Str := if foldZ i / 2 ^ g.toNat < 12 then ones (foldZ i / 2 ^ g.toNat).toNat ++ "0" ++ tw g.toNat (foldZ i % 2 ^ g.toNat) "" else ones 12 ++ tw 16 (foldZ i) ""
/-! ## what each def promises -/
abbrev SpD := List V → Hp → VK → XK → Prop
abbrev bad (K : PySem.W.Frag) (x : Str) : Value := .ref (He.ga K x)
def sp_is_number : SpD := fun vs H Q _ => ∃ x, vs = [x] ∧ Kd H x ∧ Q (.bl (isNum x)) H
def sp_is_between : SpD := fun vs H Q _ => ∃ x lo hi, vs = [x, .int lo, .int hi] ∧ Kd H x ∧ Q (.bl (btw x lo hi)) H
def sp_is_told : SpD := fun vs H Q _ => ∃ x, vs = [x] ∧ Kd H x ∧ Q (.bl (btw x (-32767) 32767)) H
def sp_is_bits : SpD := fun vs H Q _ => ∃ x, vs = [x] ∧ Kd H x ∧ (∀ a, x = .str a → a.length ≤ 1000000) ∧ Q (.bl (isBits x)) H
def sp_need (K : PySem.W.Frag) (C : Str) (lo hi : Int) : SpD := fun vs H Q E => ∃ x, vs = [x] ∧ Kd H x ∧ (btw x lo hi = true → Q .non H) ∧ (btw x lo hi = false → E (bad K C) none H)
def sp_fold : SpD := fun vs H Q _ => ∃ i, vs = [.int i] ∧ -1000000000000 < i ∧ i < 1000000000000 ∧ Q (.int (foldZ i)) H
def sp_unfold : SpD := fun vs H Q _ => ∃ i, vs = [.int i] ∧ Q (.int (unfoldZ i)) H
def sp_folded (K : PySem.W.Frag) : SpD := fun vs H Q E => ∃ x, vs = [x] ∧ Kd H x ∧ (∀ i, x = .int i → -32767 ≤ i → i ≤ 32767 → Q (.int (foldZ i)) H) ∧ (btw x (-32767) 32767 = false → E (bad K "BadNumber") none H)
def sp_unfolded (K : PySem.W.Frag) : SpD := fun vs H Q E => ∃ x, vs = [x] ∧ Kd H x ∧ (∀ i, x = .int i → 0 ≤ i → i ≤ 65534 → Q (.int (unfoldZ i)) H) ∧ (btw x 0 65534 = false → E (bad K "BadNumber") none H)
def sp_in_twos : SpD := fun vs H Q _ => ∃ i k, vs = [.int i, .int k] ∧ 0 ≤ k ∧ k ≤ 100 ∧ Q (.str (tw k.toNat i "")) H
def sp_fixed_bits (K : PySem.W.Frag) : SpD := fun vs H Q E => ∃ x y, vs = [x, y] ∧ Kd H x ∧ Kd H y ∧ (∀ i k, x = .int i → y = .int k → 1 ≤ k → k ≤ 16 → 0 ≤ i → i < 2 ^ k.toNat → Q (.str (tw k.toNat i "")) H) ∧ (btw y 1 16 = false → E (bad K "BadMany") none H) ∧
  (∀ k, y = .int k → 1 ≤ k → k ≤ 16 → btw x 0 (2 ^ k.toNat - 1) = false → E (bad K "BadNumber") none H)
def sp_long_word : SpD := fun vs H Q _ => ∃ i, vs = [.int i] ∧ -32768 < i ∧ i < 32768 ∧ Q (.str (longW i)) H
def sp_long_bits (K : PySem.W.Frag) : SpD := fun vs H Q E => ∃ x, vs = [x] ∧ Kd H x ∧ (∀ i, x = .int i → -32767 ≤ i → i ≤ 32767 → Q (.str (longW i)) H) ∧ (btw x (-32767) 32767 = false → E (bad K "BadNumber") none H)
def sp_grade_word : SpD := fun vs H Q _ => ∃ i g, vs = [.int i, .int g] ∧ -32768 < i ∧ i < 32768 ∧ 0 ≤ g ∧ g ≤ 7 ∧ Q (.str (gradeW i g)) H
def sp_grade_bits (K : PySem.W.Frag) : SpD := fun vs H Q E => ∃ x y, vs = [x, y] ∧ Kd H x ∧ Kd H y ∧ (∀ i g, x = .int i → y = .int g → -32767 ≤ i → i ≤ 32767 → 0 ≤ g → g ≤ 7 → Q (.str (gradeW i g)) H) ∧ (btw x (-32767) 32767 = false → E (bad K "BadNumber") none H) ∧
  (btw x (-32767) 32767 = true → btw y 0 7 = false → E (bad K "BadGrade") none H)
abbrev sh (s : SpD) (ix : List Nat) : SpG := fun _ vs zs H Q E => s (pick (vs ++ zs) ix) H Q E
abbrev S_is_number (_ : PySem.W.Frag) : SpG := sh sp_is_number [0]
abbrev S_is_between (_ : PySem.W.Frag) : SpG := sh sp_is_between [0, 1, 2]
abbrev S_is_told (_ : PySem.W.Frag) : SpG := sh sp_is_told [0]
abbrev S_is_bits (_ : PySem.W.Frag) : SpG := sh sp_is_bits [0]
abbrev S_need_told (K : PySem.W.Frag) : SpG := sh (sp_need K "BadNumber" (-32767) 32767) [0]
abbrev S_need_grade (K : PySem.W.Frag) : SpG := sh (sp_need K "BadGrade" 0 7) [0]
abbrev S_need_many (K : PySem.W.Frag) : SpG := sh (sp_need K "BadMany" 1 16) [0]
abbrev S_fold (_ : PySem.W.Frag) : SpG := sh sp_fold [0]
abbrev S_unfold (_ : PySem.W.Frag) : SpG := sh sp_unfold [0]
abbrev S_folded (K : PySem.W.Frag) : SpG := sh (sp_folded K) [0]
abbrev S_unfolded (K : PySem.W.Frag) : SpG := sh (sp_unfolded K) [0]
abbrev S_in_twos (_ : PySem.W.Frag) : SpG := sh sp_in_twos [0, 1]
abbrev S_fixed_bits (K : PySem.W.Frag) : SpG := sh (sp_fixed_bits K) [0, 1]
abbrev S_long_word (_ : PySem.W.Frag) : SpG := sh sp_long_word [0]
abbrev S_long_bits (K : PySem.W.Frag) : SpG := sh (sp_long_bits K) [0]
abbrev S_grade_word (_ : PySem.W.Frag) : SpG := sh sp_grade_word [0, 1]
abbrev S_grade_bits (K : PySem.W.Frag) : SpG := sh (sp_grade_bits K) [0, 1]
abbrev S_folded_k0_number (K : PySem.W.Frag) : SpG := sh (sp_folded K) [0]
abbrev S_unfolded_k0_number (K : PySem.W.Frag) : SpG := sh (sp_unfolded K) [0]
abbrev S_long_bits_k0_number (K : PySem.W.Frag) : SpG := sh (sp_long_bits K) [0]
abbrev S_grade_bits_k0_grade_number (K : PySem.W.Frag) : SpG := sh (sp_grade_bits K) [1, 0]
abbrev S_fixed_bits_k0_many_number (K : PySem.W.Frag) : SpG := sh (sp_fixed_bits K) [1, 0]
abbrev S_is_bits_k0_thing (_ : PySem.W.Frag) : SpG := sh sp_is_bits [0]
/-! ## the readings -/
abbrev act_is_number (acts : Acts) : Acts := fun g tl => false = true ∧ acts g tl
def t_is_number (K : PySem.W.Frag) (cells : List (Str × Addr)) (acts : Acts) (T : List (Addr × Str)) (pt : Option Addr) (W : WX) : TS :=
  (tRet (tAndT K (tCB (G.rIsX K) (tCons (tVar 0) (tCons (tC (.ty "int")) tNil))) (tNotT K (tCB (G.rIsX K) (tCons (tVar 0) (tCons (tC (.ty "bool")) tNil))))))
abbrev act_is_between (acts : Acts) : Acts := fun g tl => false = true ∧ acts g tl
def t_is_between (K : PySem.W.Frag) (cells : List (Str × Addr)) (acts : Acts) (T : List (Addr × Str)) (pt : Option Addr) (W : WX) : TS :=
  (tRet (tAndT K (tFn (S_is_number K) (fun _ _ => act_is_between acts) W (tCons (tVar 0) tNil) tNil 1 0) (tChain (G.rCmp K .LtE) (G.rCmp K .LtE) (tVar 1) (tVar 0) (tVar 2))))
abbrev act_is_told (acts : Acts) : Acts := fun g tl => false = true ∧ acts g tl
def t_is_told (K : PySem.W.Frag) (cells : List (Str × Addr)) (acts : Acts) (T : List (Addr × Str)) (pt : Option Addr) (W : WX) : TS :=
  (tRet (tFn (S_is_between K) (fun _ _ => act_is_told acts) W (tCons (tVar 0) (tCons (tUn (rU fun i => .int (-i)) (tC (.int 32767))) (tCons (tC (.int 32767)) tNil))) tNil 3 0))
abbrev act_is_bits (acts : Acts) : Acts := fun g tl => false = true ∧ acts g tl
def t_is_bits (K : PySem.W.Frag) (cells : List (Str × Addr)) (acts : Acts) (T : List (Addr × Str)) (pt : Option Addr) (W : WX) : TS :=
  (tRet (tAndT K (tCB (G.rIsX K) (tCons (tVar 0) (tCons (tC (.ty "str")) tNil))) (tOp (G.rCmp K .Eq) (tBM K "str" G.rStripC (tVar 0) (tCons (tC (.str "01")) tNil)) (tC (.str "")))))
abbrev act_need_told (acts : Acts) : Acts := fun g tl => false = true ∧ acts g tl
def t_need_told (K : PySem.W.Frag) (cells : List (Str × Addr)) (acts : Acts) (T : List (Addr × Str)) (pt : Option Addr) (W : WX) : TS :=
  (tIfS (tNot (tTru K (tFn (S_is_told K) (fun _ _ => act_need_told acts) W (tCons (tVar 0) tNil) tNil 1 0)))
  (tRaise0 (He.ga K "BadNumber") W)
  tNext)
abbrev act_need_grade (acts : Acts) : Acts := fun g tl => false = true ∧ acts g tl
def t_need_grade (K : PySem.W.Frag) (cells : List (Str × Addr)) (acts : Acts) (T : List (Addr × Str)) (pt : Option Addr) (W : WX) : TS :=
  (tIfS (tNot (tTru K (tFn (S_is_between K) (fun _ _ => act_need_grade acts) W (tCons (tVar 0) (tCons (tC (.int 0)) (tCons (tC (.int 7)) tNil))) tNil 3 0)))
  (tRaise0 (He.ga K "BadGrade") W)
  tNext)
abbrev act_need_many (acts : Acts) : Acts := fun g tl => false = true ∧ acts g tl
def t_need_many (K : PySem.W.Frag) (cells : List (Str × Addr)) (acts : Acts) (T : List (Addr × Str)) (pt : Option Addr) (W : WX) : TS :=
  (tIfS (tNot (tTru K (tFn (S_is_between K) (fun _ _ => act_need_many acts) W (tCons (tVar 0) (tCons (tC (.int 1)) (tCons (tC (.int 16)) tNil))) tNil 3 0)))
  (tRaise0 (He.ga K "BadMany") W)
  tNext)
abbrev act_fold (acts : Acts) : Acts := fun g tl => false = true ∧ acts g tl
def t_fold (K : PySem.W.Frag) (cells : List (Str × Addr)) (acts : Acts) (T : List (Addr × Str)) (pt : Option Addr) (W : WX) : TS :=
  (tRet (tIf (tTest (tOp (G.rCmp K .Gt) (tVar 0) (tC (.int 0)))) (tOp (G.rBin K .Sub) (tOp (G.rBin K .Mult) (tC (.int 2)) (tVar 0)) (tC (.int 1))) (tOp (G.rBin K .Mult) (tUn (rU fun i => .int (-i)) (tC (.int 2))) (tVar 0))))
abbrev act_unfold (acts : Acts) : Acts := fun g tl => false = true ∧ acts g tl
def t_unfold (K : PySem.W.Frag) (cells : List (Str × Addr)) (acts : Acts) (T : List (Addr × Str)) (pt : Option Addr) (W : WX) : TS :=
  (tRet (tIf (tTest (tOp (G.rCmp K .Eq) (tOp (G.rBin K .Mod) (tVar 0) (tC (.int 2))) (tC (.int 1)))) (tOp (G.rBin K .FloorDiv) (tOp (G.rBin K .Add) (tVar 0) (tC (.int 1))) (tC (.int 2))) (tUn (rU fun i => .int (-i)) (tOp (G.rBin K .FloorDiv) (tVar 0) (tC (.int 2))))))
abbrev act_folded (acts : Acts) : Acts := fun g tl => false = true ∧ acts g tl
def t_folded (K : PySem.W.Frag) (cells : List (Str × Addr)) (acts : Acts) (T : List (Addr × Str)) (pt : Option Addr) (W : WX) : TS :=
  (tSeq (tDrop (tFn (S_need_told K) (fun _ _ => act_folded acts) W (tCons (tVar 0) tNil) tNil 1 0))
  (tRet (tFn (S_fold K) (fun _ _ => act_folded acts) W (tCons (tVar 0) tNil) tNil 1 0)))
abbrev act_unfolded (acts : Acts) : Acts := fun g tl => false = true ∧ acts g tl
def t_unfolded (K : PySem.W.Frag) (cells : List (Str × Addr)) (acts : Acts) (T : List (Addr × Str)) (pt : Option Addr) (W : WX) : TS :=
  (tSeq (tIfS (tNot (tTru K (tFn (S_is_between K) (fun _ _ => act_unfolded acts) W (tCons (tVar 0) (tCons (tC (.int 0)) (tCons (tC (.int 65534)) tNil))) tNil 3 0)))
  (tRaise0 (He.ga K "BadNumber") W)
  tNext)
  (tRet (tFn (S_unfold K) (fun _ _ => act_unfolded acts) W (tCons (tVar 0) tNil) tNil 1 0)))
abbrev act_in_twos (acts : Acts) : Acts := fun g tl => false = true ∧ acts g tl
def t_in_twos (K : PySem.W.Frag) (cells : List (Str × Addr)) (acts : Acts) (T : List (Addr × Str)) (pt : Option Addr) (W : WX) : TS :=
  (tSeq (tAsg (tC (.str "")) (gName 2))
  (tSeq (tFor (iRng1 (tCons (tVar 1) tNil)) (gName 3)
  (tSeq (tAsg (tOp (G.rBin K .Add) (tCB G.rStr1 (tCons (tOp (G.rBin K .Mod) (tVar 0) (tC (.int 2))) tNil)) (tVar 2)) (gName 2))
  (tAug 0 (tC (.int 2)) (G.rAug K .FloorDiv))))
  (tRet (tVar 2))))
abbrev act_fixed_bits (acts : Acts) : Acts := fun g tl => false = true ∧ acts g tl
def t_fixed_bits (K : PySem.W.Frag) (cells : List (Str × Addr)) (acts : Acts) (T : List (Addr × Str)) (pt : Option Addr) (W : WX) : TS :=
  (tSeq (tDrop (tFn (S_need_many K) (fun _ _ => act_fixed_bits acts) W (tCons (tVar 1) tNil) tNil 1 0))
  (tSeq (tIfS (tNot (tTru K (tFn (S_is_between K) (fun _ _ => act_fixed_bits acts) W (tCons (tVar 0) (tCons (tC (.int 0)) (tCons (tOp (G.rBin K .Sub) (tOp (G.rBin K .LShift) (tC (.int 1)) (tVar 1)) (tC (.int 1))) tNil))) tNil 3 0)))
  (tRaise0 (He.ga K "BadNumber") W)
  tNext)
  (tRet (tFn (S_in_twos K) (fun _ _ => act_fixed_bits acts) W (tCons (tVar 0) (tCons (tVar 1) tNil)) tNil 2 0))))
abbrev act_long_word (acts : Acts) : Acts := fun g tl => false = true ∧ acts g tl
def t_long_word (K : PySem.W.Frag) (cells : List (Str × Addr)) (acts : Acts) (T : List (Addr × Str)) (pt : Option Addr) (W : WX) : TS :=
  (tSeq (tPar 1 2 (tCons (tOp (G.rBin K .Add) (tFn (S_fold K) (fun _ _ => act_long_word acts) W (tCons (tVar 0) tNil) tNil 1 0) (tC (.int 1))) (tCons (tC (.int 0)) tNil)))
  (tSeq (tWhile (tTest (tOp (G.rCmp K .GtE) (tVar 1) (tOp (G.rBin K .LShift) (tC (.int 1)) (tOp (G.rBin K .Add) (tVar 2) (tC (.int 1))))))
  (tAug 2 (tC (.int 1)) (G.rAug K .Add)))
  (tRet (tOp (G.rBin K .Add) (tOp (G.rBin K .Add) (tOp (G.rBin K .Mult) (tC (.str "1")) (tVar 2)) (tC (.str "0"))) (tFn (S_in_twos K) (fun _ _ => act_long_word acts) W (tCons (tOp (G.rBin K .Sub) (tVar 1) (tOp (G.rBin K .LShift) (tC (.int 1)) (tVar 2))) (tCons (tVar 2) tNil)) tNil 2 0)))))
abbrev act_long_bits (acts : Acts) : Acts := fun g tl => false = true ∧ acts g tl
def t_long_bits (K : PySem.W.Frag) (cells : List (Str × Addr)) (acts : Acts) (T : List (Addr × Str)) (pt : Option Addr) (W : WX) : TS :=
  (tSeq (tDrop (tFn (S_need_told K) (fun _ _ => act_long_bits acts) W (tCons (tVar 0) tNil) tNil 1 0))
  (tRet (tFn (S_long_word K) (fun _ _ => act_long_bits acts) W (tCons (tVar 0) tNil) tNil 1 0)))
abbrev act_grade_word (acts : Acts) : Acts := fun g tl => false = true ∧ acts g tl
def t_grade_word (K : PySem.W.Frag) (cells : List (Str × Addr)) (acts : Acts) (T : List (Addr × Str)) (pt : Option Addr) (W : WX) : TS :=
  (tSeq (tAsg (tFn (S_fold K) (fun _ _ => act_grade_word acts) W (tCons (tVar 0) tNil) tNil 1 0) (gName 2))
  (tSeq (tAsg (tOp (G.rBin K .RShift) (tVar 2) (tVar 1)) (gName 3))
  (tSeq (tIfS (tTest (tOp (G.rCmp K .Lt) (tVar 3) (tC (.int 12))))
  (tRet (tOp (G.rBin K .Add) (tOp (G.rBin K .Add) (tOp (G.rBin K .Mult) (tC (.str "1")) (tVar 3)) (tC (.str "0"))) (tFn (S_in_twos K) (fun _ _ => act_grade_word acts) W (tCons (tOp (G.rBin K .Mod) (tVar 2) (tOp (G.rBin K .LShift) (tC (.int 1)) (tVar 1))) (tCons (tVar 1) tNil)) tNil 2 0)))
  tNext)
  (tRet (tOp (G.rBin K .Add) (tOp (G.rBin K .Mult) (tC (.str "1")) (tC (.int 12))) (tFn (S_in_twos K) (fun _ _ => act_grade_word acts) W (tCons (tVar 2) (tCons (tC (.int 16)) tNil)) tNil 2 0))))))
abbrev act_grade_bits (acts : Acts) : Acts := fun g tl => false = true ∧ acts g tl
def t_grade_bits (K : PySem.W.Frag) (cells : List (Str × Addr)) (acts : Acts) (T : List (Addr × Str)) (pt : Option Addr) (W : WX) : TS :=
  (tSeq (tDrop (tFn (S_need_told K) (fun _ _ => act_grade_bits acts) W (tCons (tVar 0) tNil) tNil 1 0))
  (tSeq (tDrop (tFn (S_need_grade K) (fun _ _ => act_grade_bits acts) W (tCons (tVar 1) tNil) tNil 1 0))
  (tRet (tFn (S_grade_word K) (fun _ _ => act_grade_bits acts) W (tCons (tVar 0) (tCons (tVar 1) tNil)) tNil 2 0))))

/-! ## each promise holds -/
abbrev Dd (Q : VK) : Ends := ⟨fun _ H' => Q .non H', Q, fun _ _ => False, fun _ _ => False⟩
abbrev Ww (E : XK) : WX := fun cls d _ H' => E cls d H'
section
variable {K : PySem.W.Frag} {cells : List (Str × Addr)} {acts : Acts} {T : List (Addr × Str)} {pt : Option Addr} {vs : List V} {H : Hp} {Q : VK} {E : XK}
theorem le_int {K : PySem.W.Frag} {H : Hp} {i j : Int} {Q : VK} (q : Q (.bl (decide (i ≤ j))) H) : G.rCmp K .LtE (.int i) (.int j) H Q := q
theorem ok_is_number (h : sp_is_number vs H Q E) : vs.length = 1 ∧ t_is_number K cells acts T pt (Ww E) (Dd Q) (L2.start ["thing"] vs) H := by
  obtain ⟨x, rfl, hk, q⟩ := h
  refine ⟨rfl, ?_⟩
  rw [show L2.start ["thing"] [x] = [some x] from rfl]
  unfold t_is_number
  simp only [tSeq, tWhile, tAnd, tOr, tNot, tTest, tTru, tOp, tUn, tVar, tC, tLst, tTup, tNil, tAsg, tBM, tBM0, tCons, gSub, tIfS, tCB, gName, tRet, tRetN, tNext, tIf, tFn, tDrop, tRaise0, tAndT, tOrT, tNotT, tChain, tAug, tPar, tPar3, for_go, lc_go, iRng1, iRng2, iSeq, List.getElem?_cons_zero, List.getElem?_cons_succ, List.set_cons_zero, List.set_cons_succ, Option.some.injEq, exists_eq_left']
  refine isX_kd (.inl rfl) hk ⟨_, rfl, ?_⟩
  rw [isNum_eq] at q
  by_cases c : isTy "int" x = true
  · rw [if_pos c]
    rw [c] at q
    exact isX_kd (.inr (.inl rfl)) hk ⟨_, rfl, q⟩
  · rw [if_neg c]
    rw [Bool.eq_false_iff.mpr c] at q ⊢
    exact q
theorem ok_is_between (h : sp_is_between vs H Q E) : vs.length = 3 ∧ t_is_between K cells acts T pt (Ww E) (Dd Q) (L2.start ["thing", "low", "high"] vs) H := by
  obtain ⟨x, lo, hi, rfl, hk, q⟩ := h
  refine ⟨rfl, ?_⟩
  rw [show L2.start ["thing", "low", "high"] [x, .int lo, .int hi] = [some x, some (.int lo), some (.int hi)] from rfl]
  unfold t_is_between
  simp only [tSeq, tWhile, tAnd, tOr, tNot, tTest, tTru, tOp, tUn, tVar, tC, tLst, tTup, tNil, tAsg, tBM, tBM0, tCons, gSub, tIfS, tCB, gName, tRet, tRetN, tNext, tIf, tFn, tDrop, tRaise0, tAndT, tOrT, tNotT, tChain, tAug, tPar, tPar3, for_go, lc_go, iRng1, iRng2, iSeq, List.getElem?_cons_zero, List.getElem?_cons_succ, List.set_cons_zero, List.set_cons_succ, Option.some.injEq, exists_eq_left']
  refine ⟨rfl, rfl, x, rfl, hk, _, rfl, ?_⟩
  cases x with
  | int i =>
    rw [if_pos (show isNum (.int i) = true from rfl)]
    refine le_int ⟨_, rfl, ?_⟩
    by_cases c : lo ≤ i
    · rw [if_pos (decide_eq_true c)]
      refine le_int ?_
      have e : btw (.int i) lo hi = decide (i ≤ hi) := by
        show (decide (lo ≤ i) && decide (i ≤ hi)) = _
        rw [decide_eq_true c, Bool.true_and]
      rw [e] at q
      exact q
    · rw [if_neg (by simpa using c)]
      have e : btw (.int i) lo hi = false := by
        show (decide (lo ≤ i) && decide (i ≤ hi)) = _
        rw [decide_eq_false c, Bool.false_and]
      rw [e] at q
      exact q
  | _ => exact q
theorem ok_is_told (h : sp_is_told vs H Q E) : vs.length = 1 ∧ t_is_told K cells acts T pt (Ww E) (Dd Q) (L2.start ["thing"] vs) H := by
  obtain ⟨x, rfl, hk, q⟩ := h
  refine ⟨rfl, ?_⟩
  rw [show L2.start ["thing"] [x] = [some x] from rfl]
  unfold t_is_told
  simp only [tSeq, tWhile, tAnd, tOr, tNot, tTest, tTru, tOp, tUn, tVar, tC, tLst, tTup, tNil, tAsg, tBM, tBM0, tCons, gSub, tIfS, tCB, gName, tRet, tRetN, tNext, tIf, tFn, tDrop, tRaise0, tAndT, tOrT, tNotT, tChain, tAug, tPar, tPar3, for_go, lc_go, iRng1, iRng2, iSeq, List.getElem?_cons_zero, List.getElem?_cons_succ, List.set_cons_zero, List.set_cons_succ, Option.some.injEq, exists_eq_left']
  exact ⟨32767, rfl, rfl, rfl, x, -32767, 32767, rfl, hk, q⟩
theorem ok_is_bits (h : sp_is_bits vs H Q E) : vs.length = 1 ∧ t_is_bits K cells acts T pt (Ww E) (Dd Q) (L2.start ["thing"] vs) H := by
  obtain ⟨x, rfl, hk, hl, q⟩ := h
  refine ⟨rfl, ?_⟩
  rw [show L2.start ["thing"] [x] = [some x] from rfl]
  unfold t_is_bits
  simp only [tSeq, tWhile, tAnd, tOr, tNot, tTest, tTru, tOp, tUn, tVar, tC, tLst, tTup, tNil, tAsg, tBM, tBM0, tCons, gSub, tIfS, tCB, gName, tRet, tRetN, tNext, tIf, tFn, tDrop, tRaise0, tAndT, tOrT, tNotT, tChain, tAug, tPar, tPar3, for_go, lc_go, iRng1, iRng2, iSeq, List.getElem?_cons_zero, List.getElem?_cons_succ, List.set_cons_zero, List.set_cons_succ, Option.some.injEq, exists_eq_left']
  refine isX_kd (.inr (.inr rfl)) hk ⟨_, rfl, ?_⟩
  cases x with
  | str a =>
    rw [if_pos (show isTy "str" (.str a) = true from rfl)]
    have l := hl a rfl
    have sl : sizeLine = 16777216 := sizeLine_eq
    exact ⟨rfl, a, "01", rfl, rfl, by omega, eq_str q⟩
  | _ => exact q
theorem need_ok {C : Str} {lo hi : Int} {x : V} {D : Ends} {σ : L2.St} (hk : Kd H x) (h1 : btw x lo hi = true → D.nx σ H) (h2 : btw x lo hi = false → E (bad K C) none H) :
    tIfS (fun _ H Q => ∃ k, TruV K (.bl (btw x lo hi)) H k ∧ Q (!k) H) (tRaise0 (He.ga K C) (Ww E)) tNext D σ H := by
  unfold tIfS
  refine ⟨_, rfl, ?_⟩
  cases c : btw x lo hi with
  | true => exact h1 c
  | false => exact h2 c
theorem ok_need_told (h : sp_need K "BadNumber" (-32767) 32767 vs H Q E) : vs.length = 1 ∧ t_need_told K cells acts T pt (Ww E) (Dd Q) (L2.start ["number"] vs) H := by
  obtain ⟨x, rfl, hk, h1, h2⟩ := h
  refine ⟨rfl, ?_⟩
  rw [show L2.start ["number"] [x] = [some x] from rfl]
  unfold t_need_told
  simp only [tSeq, tWhile, tAnd, tOr, tNot, tTest, tTru, tOp, tUn, tVar, tC, tLst, tTup, tNil, tAsg, tBM, tBM0, tCons, gSub, tIfS, tCB, gName, tRet, tRetN, tNext, tIf, tFn, tDrop, tRaise0, tAndT, tOrT, tNotT, tChain, tAug, tPar, tPar3, for_go, lc_go, iRng1, iRng2, iSeq, List.getElem?_cons_zero, List.getElem?_cons_succ, List.set_cons_zero, List.set_cons_succ, Option.some.injEq, exists_eq_left']
  refine ⟨rfl, rfl, x, rfl, hk, _, rfl, ?_⟩
  cases c : btw x (-32767) 32767 with
  | true => exact h1 c
  | false => exact h2 c
theorem ok_need_grade (h : sp_need K "BadGrade" 0 7 vs H Q E) : vs.length = 1 ∧ t_need_grade K cells acts T pt (Ww E) (Dd Q) (L2.start ["grade"] vs) H := by
  obtain ⟨x, rfl, hk, h1, h2⟩ := h
  refine ⟨rfl, ?_⟩
  rw [show L2.start ["grade"] [x] = [some x] from rfl]
  unfold t_need_grade
  simp only [tSeq, tWhile, tAnd, tOr, tNot, tTest, tTru, tOp, tUn, tVar, tC, tLst, tTup, tNil, tAsg, tBM, tBM0, tCons, gSub, tIfS, tCB, gName, tRet, tRetN, tNext, tIf, tFn, tDrop, tRaise0, tAndT, tOrT, tNotT, tChain, tAug, tPar, tPar3, for_go, lc_go, iRng1, iRng2, iSeq, List.getElem?_cons_zero, List.getElem?_cons_succ, List.set_cons_zero, List.set_cons_succ, Option.some.injEq, exists_eq_left']
  refine ⟨rfl, rfl, x, 0, 7, rfl, hk, _, rfl, ?_⟩
  cases c : btw x 0 7 with
  | true => exact h1 c
  | false => exact h2 c
theorem ok_need_many (h : sp_need K "BadMany" 1 16 vs H Q E) : vs.length = 1 ∧ t_need_many K cells acts T pt (Ww E) (Dd Q) (L2.start ["many"] vs) H := by
  obtain ⟨x, rfl, hk, h1, h2⟩ := h
  refine ⟨rfl, ?_⟩
  rw [show L2.start ["many"] [x] = [some x] from rfl]
  unfold t_need_many
  simp only [tSeq, tWhile, tAnd, tOr, tNot, tTest, tTru, tOp, tUn, tVar, tC, tLst, tTup, tNil, tAsg, tBM, tBM0, tCons, gSub, tIfS, tCB, gName, tRet, tRetN, tNext, tIf, tFn, tDrop, tRaise0, tAndT, tOrT, tNotT, tChain, tAug, tPar, tPar3, for_go, lc_go, iRng1, iRng2, iSeq, List.getElem?_cons_zero, List.getElem?_cons_succ, List.set_cons_zero, List.set_cons_succ, Option.some.injEq, exists_eq_left']
  refine ⟨rfl, rfl, x, 1, 16, rfl, hk, _, rfl, ?_⟩
  cases c : btw x 1 16 with
  | true => exact h1 c
  | false => exact h2 c
theorem fold_read {i : Int} {σ : L2.St} (h1 : -1000000000000 < i) (h2 : i < 1000000000000) (q : Q (.int (foldZ i)) H) (e : σ[0]? = some (some (.int i))) :
    (tIf (tTest (tOp (G.rCmp K .Gt) (tVar 0) (tC (.int 0)))) (tOp (G.rBin K .Sub) (tOp (G.rBin K .Mult) (tC (.int 2)) (tVar 0)) (tC (.int 1))) (tOp (G.rBin K .Mult) (tUn (rU fun i => .int (-i)) (tC (.int 2))) (tVar 0))) σ H Q := by
  simp only [tIf, tTest, tOp, tUn, tVar, tC, e, Option.some.injEq, exists_eq_left']
  refine gt_int ⟨_, rfl, ?_⟩
  unfold foldZ at q
  by_cases c : 0 < i
  · rw [if_pos (decide_eq_true c)]
    rw [if_pos c] at q
    exact mul_int (by decide) (by decide) (sub_int q)
  · rw [if_neg (by simpa using c)]
    rw [if_neg c] at q
    exact ⟨2, rfl, mul_int (by decide) (by decide) q⟩
theorem ok_fold (h : sp_fold vs H Q E) : vs.length = 1 ∧ t_fold K cells acts T pt (Ww E) (Dd Q) (L2.start ["number"] vs) H := by
  obtain ⟨i, rfl, h1, h2, q⟩ := h
  refine ⟨rfl, ?_⟩
  exact fold_read (K := K) h1 h2 q rfl
theorem ok_unfold (h : sp_unfold vs H Q E) : vs.length = 1 ∧ t_unfold K cells acts T pt (Ww E) (Dd Q) (L2.start ["number"] vs) H := by
  obtain ⟨i, rfl, q⟩ := h
  refine ⟨rfl, ?_⟩
  rw [show L2.start ["number"] [V.int i] = [some (.int i)] from rfl]
  unfold t_unfold
  simp only [tSeq, tWhile, tAnd, tOr, tNot, tTest, tTru, tOp, tUn, tVar, tC, tLst, tTup, tNil, tAsg, tBM, tBM0, tCons, gSub, tIfS, tCB, gName, tRet, tRetN, tNext, tIf, tFn, tDrop, tRaise0, tAndT, tOrT, tNotT, tChain, tAug, tPar, tPar3, for_go, lc_go, iRng1, iRng2, iSeq, List.getElem?_cons_zero, List.getElem?_cons_succ, List.set_cons_zero, List.set_cons_succ, Option.some.injEq, exists_eq_left']
  refine mod_int (by decide) (eq_int ⟨_, rfl, ?_⟩)
  unfold unfoldZ at q
  by_cases c : i % 2 = 1
  · rw [if_pos (decide_eq_true c)]
    rw [if_pos c] at q
    exact div_int (K := K) (by decide) (by decide) q
  · rw [if_neg (by simpa using c)]
    rw [if_neg c] at q
    exact div_int (K := K) (by decide) (by decide) ⟨_, rfl, q⟩
theorem ok_folded (h : sp_folded K vs H Q E) : vs.length = 1 ∧ t_folded K cells acts T pt (Ww E) (Dd Q) (L2.start ["number"] vs) H := by
  obtain ⟨x, rfl, hk, h1, h2⟩ := h
  refine ⟨rfl, ?_⟩
  rw [show L2.start ["number"] [x] = [some x] from rfl]
  unfold t_folded
  simp only [tSeq, tWhile, tAnd, tOr, tNot, tTest, tTru, tOp, tUn, tVar, tC, tLst, tTup, tNil, tAsg, tBM, tBM0, tCons, gSub, tIfS, tCB, gName, tRet, tRetN, tNext, tIf, tFn, tDrop, tRaise0, tAndT, tOrT, tNotT, tChain, tAug, tPar, tPar3, for_go, lc_go, iRng1, iRng2, iSeq, List.getElem?_cons_zero, List.getElem?_cons_succ, List.set_cons_zero, List.set_cons_succ, Option.some.injEq, exists_eq_left']
  refine ⟨rfl, rfl, x, rfl, hk, fun c => ?_, h2⟩
  obtain ⟨i, rfl, c1, c2⟩ := btw_int c
  exact ⟨rfl, rfl, i, rfl, by omega, by omega, h1 i rfl c1 c2⟩
theorem ok_unfolded (h : sp_unfolded K vs H Q E) : vs.length = 1 ∧ t_unfolded K cells acts T pt (Ww E) (Dd Q) (L2.start ["number"] vs) H := by
  obtain ⟨x, rfl, hk, h1, h2⟩ := h
  refine ⟨rfl, ?_⟩
  rw [show L2.start ["number"] [x] = [some x] from rfl]
  unfold t_unfolded
  simp only [tSeq, tWhile, tAnd, tOr, tNot, tTest, tTru, tOp, tUn, tVar, tC, tLst, tTup, tNil, tAsg, tBM, tBM0, tCons, gSub, tIfS, tCB, gName, tRet, tRetN, tNext, tIf, tFn, tDrop, tRaise0, tAndT, tOrT, tNotT, tChain, tAug, tPar, tPar3, for_go, lc_go, iRng1, iRng2, iSeq, List.getElem?_cons_zero, List.getElem?_cons_succ, List.set_cons_zero, List.set_cons_succ, Option.some.injEq, exists_eq_left']
  refine ⟨rfl, rfl, x, 0, 65534, rfl, hk, _, rfl, ?_⟩
  cases c : btw x 0 65534 with
  | true =>
    obtain ⟨i, rfl, c1, c2⟩ := btw_int c
    exact ⟨rfl, rfl, i, rfl, h1 i rfl c1 c2⟩
  | false => exact h2 c
theorem foldZ_bounds {i : Int} (h1 : -32768 < i) (h2 : i < 32768) : 0 ≤ foldZ i ∧ foldZ i ≤ 65534 := by
  unfold foldZ
  split <;> omega
theorem str_dig {H : Hp} {i : Int} {Q : VK} (q : Q (.str (dig i)) H) : G.rStr1 [.int (i % 2)] H Q := by
  refine ⟨?_, q⟩
  rcases Int.emod_two_eq i with h | h <;> rw [h] <;> decide
theorem add_str {K : PySem.W.Frag} {H : Hp} {a b : Str} {Q : VK} (h : a.length + b.length ≤ 100000) (q : Q (.str (a ++ b)) H) : G.rBin K .Add (.str a) (.str b) H Q :=
  ⟨Nat.le_trans h (by rw [sizeLine_eq]; decide), q⟩
theorem mul_ones {K : PySem.W.Frag} {H : Hp} {n : Nat} {Q : VK} (h : n ≤ 1000000) (q : Q (.str (ones n)) H) : G.rBin K .Mult (.str "1") (.int n) H Q := ⟨mul_ok1 h, q⟩
theorem shl_one {K : PySem.W.Frag} {H : Hp} {n : Nat} {j : Int} {Q : VK} (e : j = n) (h : n ≤ 1000000) (q : Q (.int (2 ^ n)) H) : G.rBin K .LShift (.int 1) (.int j) H Q := by
  subst e
  refine ⟨⟨by omega, by omega, by decide⟩, ?_⟩
  show Q (.int (1 * 2 ^ (n : Int).toNat)) H
  rw [Int.one_mul, Int.toNat_natCast]
  exact q
theorem log_le {t : Int} {j : Nat} (h : 0 < t) : j ≤ t.toNat.log2 ↔ (2 : Int) ^ j ≤ t := by
  rw [Nat.le_log2 (by omega)]
  have e : ((2 ^ j : Nat) : Int) = (2 : Int) ^ j := by rw [Int.natCast_pow]; rfl
  constructor
  · intro z
    rw [← e]
    omega
  · intro z
    rw [← e] at z
    omega
theorem log_small {t : Int} {k : Nat} (h : 0 < t) (h2 : t < 2 ^ (k + 1)) : t.toNat.log2 ≤ k := by
  have : ¬ (k + 1 ≤ t.toNat.log2) := fun z => by
    rw [log_le h] at z
    omega
  omega
theorem ok_in_twos (h : sp_in_twos vs H Q E) : vs.length = 2 ∧ t_in_twos K cells acts T pt (Ww E) (Dd Q) (L2.start ["number", "many", "found", "turn"] vs) H := by
  obtain ⟨i, k, rfl, h0, h1, q⟩ := h
  refine ⟨rfl, ?_⟩
  rw [show L2.start ["number", "many", "found", "turn"] [V.int i, V.int k] = [some (.int i), some (.int k), none, none] from rfl]
  unfold t_in_twos
  simp only [tSeq, tWhile, tAnd, tOr, tNot, tTest, tTru, tOp, tUn, tVar, tC, tLst, tTup, tNil, tAsg, tBM, tBM0, tCons, gSub, tIfS, tCB, gName, tRet, tRetN, tNext, tIf, tFn, tDrop, tRaise0, tAndT, tOrT, tNotT, tChain, tAug, tPar, tPar3, for_go, lc_go, iRng1, iRng2, iSeq, List.getElem?_cons_zero, List.getElem?_cons_succ, List.set_cons_zero, List.set_cons_succ, Option.some.injEq, exists_eq_left']
  refine ⟨k, rfl, by omega, by omega, ?_⟩
  refine go_rng (fun m σ H' => H' = H ∧ ∃ (a : Int) (acc : Str) (tn : Option V), σ = [some (.int a), some (.int k), some (.str acc), tn] ∧ acc.length = m ∧ tw (k.toNat - m) a acc = tw k.toNat i "") ⟨rfl, i, "", none, rfl, len_e, rfl⟩ ?_ ?_
  · rintro m σ H' hm ⟨rfl, a, acc, tn, rfl, hl, ht⟩
    simp only [tSeq, tWhile, tAnd, tOr, tNot, tTest, tTru, tOp, tUn, tVar, tC, tLst, tTup, tNil, tAsg, tBM, tBM0, tCons, gSub, tIfS, tCB, gName, tRet, tRetN, tNext, tIf, tFn, tDrop, tRaise0, tAndT, tOrT, tNotT, tChain, tAug, tPar, tPar3, for_go, lc_go, iRng1, iRng2, iSeq, List.getElem?_cons_zero, List.getElem?_cons_succ, List.set_cons_zero, List.set_cons_succ, Option.some.injEq, exists_eq_left']
    refine mod_int (by decide) (str_dig (add_str (by rw [dig_len]; omega) ⟨⟨by decide, by decide⟩, rfl, a / 2, dig a ++ acc, _, rfl, by rw [strLen_append, dig_len]; omega, ?_⟩))
    rw [← ht]
    have e : k.toNat - m = (k.toNat - (m + 1)) + 1 := by omega
    rw [e]
    rfl
  · rintro σ H' ⟨rfl, a, acc, tn, rfl, hl, ht⟩
    simp only [tSeq, tWhile, tAnd, tOr, tNot, tTest, tTru, tOp, tUn, tVar, tC, tLst, tTup, tNil, tAsg, tBM, tBM0, tCons, gSub, tIfS, tCB, gName, tRet, tRetN, tNext, tIf, tFn, tDrop, tRaise0, tAndT, tOrT, tNotT, tChain, tAug, tPar, tPar3, for_go, lc_go, iRng1, iRng2, iSeq, List.getElem?_cons_zero, List.getElem?_cons_succ, List.set_cons_zero, List.set_cons_succ, Option.some.injEq, exists_eq_left']
    rw [Nat.sub_self] at ht
    rw [← ht] at q
    exact q
theorem ok_long_word (h : sp_long_word vs H Q E) : vs.length = 1 ∧ t_long_word K cells acts T pt (Ww E) (Dd Q) (L2.start ["number", "told", "many"] vs) H := by
  obtain ⟨i, rfl, h1, h2, q⟩ := h
  refine ⟨rfl, ?_⟩
  rw [show L2.start ["number", "told", "many"] [V.int i] = [some (.int i), none, none] from rfl]
  unfold t_long_word
  simp only [tSeq, tWhile, tAnd, tOr, tNot, tTest, tTru, tOp, tUn, tVar, tC, tLst, tTup, tNil, tAsg, tBM, tBM0, tCons, gSub, tIfS, tCB, gName, tRet, tRetN, tNext, tIf, tFn, tDrop, tRaise0, tAndT, tOrT, tNotT, tChain, tAug, tPar, tPar3, for_go, lc_go, iRng1, iRng2, iSeq, List.getElem?_cons_zero, List.getElem?_cons_succ, List.set_cons_zero, List.set_cons_succ, Option.some.injEq, exists_eq_left']
  obtain ⟨b1, b2⟩ := foldZ_bounds h1 h2
  refine ⟨rfl, rfl, i, rfl, by omega, by omega, add_int ⟨_, _, rfl, ?_⟩⟩
  have tp : 0 < foldZ i + 1 := by omega
  have L : (foldZ i + 1).toNat.log2 ≤ 16 := log_small tp (by omega)
  refine ⟨fun m σ H' => H' = H ∧ ∃ j : Nat, σ = [some (.int i), some (.int (foldZ i + 1)), some (.int j)] ∧ j + m = many i, ⟨many i, rfl, 0, rfl, by omega⟩, ?_⟩
  rintro m σ H' ⟨rfl, j, rfl, hj⟩
  have L2' : j ≤ 16 := by unfold many at hj; omega
  simp only [tSeq, tWhile, tAnd, tOr, tNot, tTest, tTru, tOp, tUn, tVar, tC, tLst, tTup, tNil, tAsg, tBM, tBM0, tCons, gSub, tIfS, tCB, gName, tRet, tRetN, tNext, tIf, tFn, tDrop, tRaise0, tAndT, tOrT, tNotT, tChain, tAug, tPar, tPar3, for_go, lc_go, iRng1, iRng2, iSeq, List.getElem?_cons_zero, List.getElem?_cons_succ, List.set_cons_zero, List.set_cons_succ, Option.some.injEq, exists_eq_left']
  refine add_int (shl_one (n := j + 1) (by omega) (by omega) (ge_int ⟨_, rfl, ?_⟩))
  by_cases c : (2 : Int) ^ (j + 1) ≤ foldZ i + 1
  · rw [if_pos (decide_eq_true c)]
    have c2 := (log_le tp).mpr c
    refine ⟨fun σ H' => H' = _ ∧ σ = [some (.int i), some (.int (foldZ i + 1)), some (.int (j + 1 : Nat))], fun σ' H2 ⟨e1, e2⟩ => ⟨m - 1, by unfold many at hj; omega, e1, j + 1, e2, by unfold many at hj ⊢; omega⟩, ?_⟩
    exact ⟨rfl, rfl⟩
  · rw [if_neg (by simpa using c)]
    have ej : j = many i := by
      have z : ¬ (j + 1 ≤ many i) := fun z => c ((log_le tp).mp z)
      omega
    subst ej
    refine mul_ones (by omega) (add_str (by rw [ones_len, len_0]; omega) ?_)
    refine shl_one rfl (by omega) (sub_int ⟨rfl, rfl, _, _, rfl, by omega, by omega, ?_⟩)
    have et : tw (many i : Int).toNat (foldZ i + 1 - 2 ^ many i) "" = tw (many i) (foldZ i + 1) "" := by
      rw [Int.toNat_natCast]
      have z := tw_low (many i) (foldZ i + 1) (-1) ""
      rw [Int.mul_neg, Int.mul_one] at z
      exact z
    rw [et]
    refine add_str ?_ q
    rw [strLen_append, ones_len, len_0, tw_len, len_e]
    omega
theorem ok_long_bits (h : sp_long_bits K vs H Q E) : vs.length = 1 ∧ t_long_bits K cells acts T pt (Ww E) (Dd Q) (L2.start ["number"] vs) H := by
  obtain ⟨x, rfl, hk, h1, h2⟩ := h
  refine ⟨rfl, ?_⟩
  rw [show L2.start ["number"] [x] = [some x] from rfl]
  unfold t_long_bits
  simp only [tSeq, tWhile, tAnd, tOr, tNot, tTest, tTru, tOp, tUn, tVar, tC, tLst, tTup, tNil, tAsg, tBM, tBM0, tCons, gSub, tIfS, tCB, gName, tRet, tRetN, tNext, tIf, tFn, tDrop, tRaise0, tAndT, tOrT, tNotT, tChain, tAug, tPar, tPar3, for_go, lc_go, iRng1, iRng2, iSeq, List.getElem?_cons_zero, List.getElem?_cons_succ, List.set_cons_zero, List.set_cons_succ, Option.some.injEq, exists_eq_left']
  refine ⟨rfl, rfl, x, rfl, hk, fun c => ?_, h2⟩
  obtain ⟨i, rfl, c1, c2⟩ := btw_int c
  exact ⟨rfl, rfl, i, rfl, by omega, by omega, h1 i rfl c1 c2⟩
theorem ok_fixed_bits (h : sp_fixed_bits K vs H Q E) : vs.length = 2 ∧ t_fixed_bits K cells acts T pt (Ww E) (Dd Q) (L2.start ["number", "many"] vs) H := by
  obtain ⟨x, y, rfl, hk, hy, h1, h2, h3⟩ := h
  refine ⟨rfl, ?_⟩
  rw [show L2.start ["number", "many"] [x, y] = [some x, some y] from rfl]
  unfold t_fixed_bits
  simp only [tSeq, tWhile, tAnd, tOr, tNot, tTest, tTru, tOp, tUn, tVar, tC, tLst, tTup, tNil, tAsg, tBM, tBM0, tCons, gSub, tIfS, tCB, gName, tRet, tRetN, tNext, tIf, tFn, tDrop, tRaise0, tAndT, tOrT, tNotT, tChain, tAug, tPar, tPar3, for_go, lc_go, iRng1, iRng2, iSeq, List.getElem?_cons_zero, List.getElem?_cons_succ, List.set_cons_zero, List.set_cons_succ, Option.some.injEq, exists_eq_left']
  refine ⟨rfl, rfl, y, rfl, hy, fun c => ?_, h2⟩
  obtain ⟨k, rfl, c1, c2⟩ := btw_int c
  refine shl_one (n := k.toNat) (by omega) (by omega) (sub_int ⟨rfl, rfl, x, 0, _, rfl, hk, _, rfl, ?_⟩)
  cases c3 : btw x 0 (2 ^ k.toNat - 1) with
  | true =>
    obtain ⟨i, rfl, d1, d2⟩ := btw_int c3
    exact ⟨rfl, rfl, i, k, rfl, by omega, by omega, h1 i k rfl rfl c1 c2 d1 (by omega)⟩
  | false => exact h3 k rfl c1 c2 c3
theorem lt_int {K : PySem.W.Frag} {H : Hp} {i j : Int} {Q : VK} (q : Q (.bl (decide (i < j))) H) : G.rCmp K .Lt (.int i) (.int j) H Q := q
theorem ok_grade_word (h : sp_grade_word vs H Q E) : vs.length = 2 ∧ t_grade_word K cells acts T pt (Ww E) (Dd Q) (L2.start ["number", "grade", "told", "ones"] vs) H := by
  obtain ⟨i, g, rfl, h1, h2, g0, g1, q⟩ := h
  refine ⟨rfl, ?_⟩
  rw [show L2.start ["number", "grade", "told", "ones"] [V.int i, V.int g] = [some (.int i), some (.int g), none, none] from rfl]
  unfold t_grade_word
  simp only [tSeq, tWhile, tAnd, tOr, tNot, tTest, tTru, tOp, tUn, tVar, tC, tLst, tTup, tNil, tAsg, tBM, tBM0, tCons, gSub, tIfS, tCB, gName, tRet, tRetN, tNext, tIf, tFn, tDrop, tRaise0, tAndT, tOrT, tNotT, tChain, tAug, tPar, tPar3, for_go, lc_go, iRng1, iRng2, iSeq, List.getElem?_cons_zero, List.getElem?_cons_succ, List.set_cons_zero, List.set_cons_succ, Option.some.injEq, exists_eq_left']
  obtain ⟨b1, b2⟩ := foldZ_bounds h1 h2
  refine ⟨rfl, rfl, i, rfl, by omega, by omega, ⟨g0, lt_int ⟨_, rfl, ?_⟩⟩⟩
  have p0 : (0 : Int) < 2 ^ g.toNat := Int.pow_pos (by decide)
  have o0 : 0 ≤ foldZ i / 2 ^ g.toNat := Int.ediv_nonneg b1 (Int.le_of_lt p0)
  unfold gradeW at q
  by_cases c : foldZ i / 2 ^ g.toNat < 12
  · rw [if_pos (decide_eq_true c)]
    rw [if_pos c] at q
    obtain ⟨n, hn⟩ : ∃ n : Nat, foldZ i / 2 ^ g.toNat = n := ⟨_, (Int.toNat_of_nonneg o0).symm⟩
    rw [hn] at q c ⊢
    refine mul_ones (by omega) (add_str (by rw [ones_len, len_0]; omega) ?_)
    refine shl_one (n := g.toNat) (by omega) (by omega) (mod_int p0 ⟨rfl, rfl, _, _, rfl, by omega, by omega, ?_⟩)
    rw [Int.toNat_natCast] at q
    refine add_str ?_ q
    rw [strLen_append, ones_len, len_0, tw_len, len_e]
    omega
  · rw [if_neg (by simpa using c)]
    rw [if_neg c] at q
    refine mul_ones (n := 12) (by omega) ⟨rfl, rfl, _, 16, rfl, by omega, by omega, ?_⟩
    refine add_str ?_ q
    rw [ones_len, tw_len, len_e]
    show 12 + (16 + 0) ≤ _
    decide
theorem ok_grade_bits (h : sp_grade_bits K vs H Q E) : vs.length = 2 ∧ t_grade_bits K cells acts T pt (Ww E) (Dd Q) (L2.start ["number", "grade"] vs) H := by
  obtain ⟨x, y, rfl, hk, hy, h1, h2, h3⟩ := h
  refine ⟨rfl, ?_⟩
  rw [show L2.start ["number", "grade"] [x, y] = [some x, some y] from rfl]
  unfold t_grade_bits
  simp only [tSeq, tWhile, tAnd, tOr, tNot, tTest, tTru, tOp, tUn, tVar, tC, tLst, tTup, tNil, tAsg, tBM, tBM0, tCons, gSub, tIfS, tCB, gName, tRet, tRetN, tNext, tIf, tFn, tDrop, tRaise0, tAndT, tOrT, tNotT, tChain, tAug, tPar, tPar3, for_go, lc_go, iRng1, iRng2, iSeq, List.getElem?_cons_zero, List.getElem?_cons_succ, List.set_cons_zero, List.set_cons_succ, Option.some.injEq, exists_eq_left']
  refine ⟨rfl, rfl, x, rfl, hk, fun c => ?_, h2⟩
  refine ⟨rfl, rfl, y, rfl, hy, fun d => ?_, h3 c⟩
  obtain ⟨i, rfl, c1, c2⟩ := btw_int c
  obtain ⟨g, rfl, d1, d2⟩ := btw_int d
  exact ⟨rfl, rfl, i, g, rfl, by omega, by omega, d1, d2, h1 i g rfl rfl c1 c2 d1 d2⟩
end
end Pk

set_option Elab.async false
set_option linter.all false
set_option maxRecDepth 100000
set_option maxHeartbeats 8000000
namespace Pk
open PySem PySem.Spec PyProof.Rows L2 LamX G
/-! ## signs in a row -/
def onesL (l : List Nat) (p : Nat) : Nat := ((l.drop p).takeWhile (fun c => c == 49)).length
def valL (l : List Nat) : Int := l.foldl (fun n c => 2 * n + (if c = 49 then 1 else 0)) 0
theorem whl_get {f : Nat → Bool} : ∀ {l : List Nat} {j : Nat}, j < (l.takeWhile f).length → ∃ c, l[j]? = some c ∧ f c = true
  | [], j, h => by simp at h
  | c :: r, j, h => by
    rw [List.takeWhile_cons] at h
    by_cases q : f c = true
    · rw [if_pos q] at h
      cases j with
      | zero => exact ⟨c, rfl, q⟩
      | succ j => exact whl_get (l := r) (by simpa using h)
    · rw [if_neg q] at h
      simp at h
theorem whl_stop {f : Nat → Bool} : ∀ {l : List Nat} {c : Nat}, l[(l.takeWhile f).length]? = some c → f c = false
  | [], c, h => by simp at h
  | d :: r, c, h => by
    rw [List.takeWhile_cons] at h
    by_cases q : f d = true
    · rw [if_pos q, List.length_cons, List.getElem?_cons_succ] at h
      exact whl_stop h
    · rw [if_neg q] at h
      have e : d = c := by simpa using h
      rw [← e]
      exact Bool.eq_false_iff.mpr q
theorem ones_in {l : List Nat} {p j : Nat} (h : j < onesL l p) : l[p + j]? = some 49 := by
  obtain ⟨c, e, q⟩ := whl_get h
  rw [List.getElem?_drop] at e
  rw [e, beq_iff_eq.mp q]
theorem ones_end {l : List Nat} {p : Nat} : l[p + onesL l p]? ≠ some 49 := fun e => by
  have e2 : (l.drop p)[((l.drop p).takeWhile (fun c => c == 49)).length]? = some 49 := by
    rw [List.getElem?_drop]
    exact e
  have z := whl_stop e2
  cases z
theorem ones_le {l : List Nat} {p : Nat} (h : p ≤ l.length) : p + onesL l p ≤ l.length := by
  by_cases c : onesL l p = 0
  · omega
  · have z := ones_in (l := l) (p := p) (j := onesL l p - 1) (by omega)
    have z2 := (List.getElem?_eq_some_iff.mp z).1
    omega
theorem val_snoc (l : List Nat) (c : Nat) : valL (l ++ [c]) = 2 * valL l + (if c = 49 then 1 else 0) := by
  unfold valL
  rw [List.foldl_append]
  rfl
theorem val_take {l : List Nat} {i c : Nat} (h : l[i]? = some c) : valL (l.take (i + 1)) = 2 * valL (l.take i) + (if c = 49 then 1 else 0) := by
  rw [List.take_succ, h]
  exact val_snoc _ _
theorem cps_one : (("1" : Str)) = ⟨#[49]⟩ := by decide +kernel
theorem cps_zero : (("0" : Str)) = ⟨#[48]⟩ := by decide +kernel
theorem sign_one {c d : Nat} : ((⟨#[c]⟩ : Str) = ⟨#[d]⟩) ↔ c = d := by
  constructor
  · intro h
    have z := congrArg (fun s : Str => s.cps.toList) h
    simpa using z
  · intro h
    rw [h]
theorem cut_nat {z : Str} {p q : Nat} (h : q ≤ z.length) : (cutS z (some (p : Int)) (some (q : Int))).cps.toList = (z.cps.toList.drop p).take (q - p) := by
  have ll : z.cps.toList.length = z.length := len_cps z
  unfold cutS
  rw [HT.sIx_nat, HT.sIx_nat]
  show (z.cps.toList.drop (min p z.length)).take (min q z.length - min p z.length) = _
  by_cases c : p ≤ z.length
  · rw [Nat.min_eq_left c, Nat.min_eq_left h]
  · rw [Nat.min_eq_right (a := p) (b := z.length) (by omega), Nat.min_eq_left h, List.drop_eq_nil_of_le (i := z.length) (by omega), List.drop_eq_nil_of_le (i := p) (by omega)]
    simp
theorem cut_sign {z : Str} {p c : Nat} : cutS z (some (p : Int)) (some ((p : Int) + 1)) = ⟨#[c]⟩ ↔ z.cps.toList[p]? = some c := by
  have ll : z.cps.toList.length = z.length := len_cps z
  have e1 : ((p : Int) + 1) = ((p + 1 : Nat) : Int) := rfl
  rw [e1]
  by_cases h : p < z.length
  · have z1 : cutS z (some (p : Int)) (some ((p + 1 : Nat) : Int)) = ⟨#[z.cps.toList[p]'(by omega)]⟩ := by
      have z2 := cut_nat (z := z) (p := p) (q := p + 1) (by omega)
      rw [show p + 1 - p = 1 from by omega, List.drop_eq_getElem_cons (by omega)] at z2
      have z3 : (cutS z (some (p : Int)) (some ((p + 1 : Nat) : Int))).cps = #[z.cps.toList[p]'(by omega)] := by
        apply Array.toList_inj.mp
        rw [z2]
        rfl
      cases hh : cutS z (some (p : Int)) (some ((p + 1 : Nat) : Int)) with
      | mk a =>
        rw [hh] at z3
        rw [← z3]
    rw [z1, sign_one, List.getElem?_eq_getElem (by omega)]
    simp
  · constructor
    · intro e
      have z2 := congrArg (fun s : Str => s.cps.toList.length) e
      have z3 : (cutS z (some (p : Int)) (some ((p + 1 : Nat) : Int))).cps.toList.length = 0 := by
        unfold cutS
        rw [HT.sIx_nat, HT.sIx_nat, Nat.min_eq_right (by omega), Nat.min_eq_right (by omega)]
        simp
      have z4 : (cutS z (some (p : Int)) (some ((p + 1 : Nat) : Int))).cps.toList.length = 1 := z2
      omega
    · intro e
      have := (List.getElem?_eq_some_iff.mp e).1
      omega
def fixedR (l : List Nat) (p m : Nat) : Option (Int × Int) := if p + m ≤ l.length then some (valL ((l.drop p).take m), (p : Int) + m) else none
def longR (l : List Nat) (p : Nat) : Option (Int × Int) := if onesL l p ≤ 15 ∧ p + 2 * onesL l p + 1 ≤ l.length then
  some (unfoldZ (2 ^ onesL l p + valL ((l.drop (p + onesL l p + 1)).take (onesL l p)) - 1), (p : Int) + 2 * (onesL l p : Int) + 1) else none
def gradeR (l : List Nat) (p g : Nat) : Option (Int × Int) := if 12 ≤ onesL l p then
    (if p + 28 ≤ l.length ∧ 12 * 2 ^ g ≤ valL ((l.drop (p + 12)).take 16) ∧ valL ((l.drop (p + 12)).take 16) ≤ 65534 then some (unfoldZ (valL ((l.drop (p + 12)).take 16)), (p : Int) + 28) else none)
  else if p + onesL l p + 1 + g ≤ l.length then some (unfoldZ ((onesL l p : Int) * 2 ^ g + valL ((l.drop (p + onesL l p + 1)).take g)), (p : Int) + (onesL l p : Int) + 1 + g) else none
def OutR (K : PySem.W.Frag) (r : Option (Int × Int)) (p : Nat) (H : Hp) (Q : VK) (E : XK) : Prop := match r with
  | some (v, b) => ∀ t, H t = none → Q (.ref t) (upd H t (.tup [.int v, .int b]))
  | none => ∀ d, H d = none → E (bad K "BadStream") (some d) (upd H d (.xd [("at", .int p)]))
/-! ## promises -/
def sp_need_bits (K : PySem.W.Frag) : SpD := fun vs H Q E => ∃ x, vs = [x] ∧ Kd H x ∧ (∀ a, x = .str a → a.length ≤ 1000000) ∧ (isBits x = true → Q .non H) ∧ (isBits x = false → E (bad K "BadBits") none H)
def sp_need_at (K : PySem.W.Frag) : SpD := fun vs H Q E => ∃ a y, vs = [.str a, y] ∧ a.length ≤ 100000 ∧ Kd H y ∧ (btw y 0 a.length = true → Q .non H) ∧ (btw y 0 a.length = false → E (bad K "BadAt") none H)
def sp_from_twos : SpD := fun vs H Q _ => ∃ a, vs = [.str a] ∧ a.length ≤ 100000 ∧ Q (.int (valL a.cps.toList)) H
def sp_ones_at : SpD := fun vs H Q _ => ∃ (a : Str) (p m : Nat), vs = [.str a, .int p, .int m] ∧ a.length ≤ 100000 ∧ Q (.int (min m (onesL a.cps.toList p) : Nat)) H
def sp_take_bits (K : PySem.W.Frag) : SpD := fun vs H Q E => ∃ (a : Str) (p m : Nat) (y : V), vs = [.str a, .int p, .int m, y] ∧ a.length ≤ 100000 ∧ (p + m ≤ a.length → Q (.int (valL ((a.cps.toList.drop p).take m))) H) ∧
  (a.length < p + m → ∀ d, H d = none → E (bad K "BadStream") (some d) (upd H d (.xd [("at", y)])))
def sp_take_fixed (K : PySem.W.Frag) : SpD := fun vs H Q E => ∃ (a : Str) (p m : Nat), vs = [.str a, .int p, .int m] ∧ a.length ≤ 100000 ∧ OutR K (fixedR a.cps.toList p m) p H Q E
def sp_take_long (K : PySem.W.Frag) : SpD := fun vs H Q E => ∃ (a : Str) (p : Nat), vs = [.str a, .int p] ∧ a.length ≤ 100000 ∧ BitS a ∧ OutR K (longR a.cps.toList p) p H Q E
def sp_take_grade (K : PySem.W.Frag) : SpD := fun vs H Q E => ∃ (a : Str) (p g : Nat), vs = [.str a, .int p, .int g] ∧ a.length ≤ 100000 ∧ BitS a ∧ g ≤ 7 ∧ OutR K (gradeR a.cps.toList p g) p H Q E
def sp_read_long (K : PySem.W.Frag) : SpD := fun vs H Q E => ∃ x y, vs = [x, y] ∧ Kd H x ∧ Kd H y ∧ (∀ a, x = .str a → a.length ≤ 100000) ∧ (isBits x = false → E (bad K "BadBits") none H) ∧
  ∀ a, x = .str a → BitS a → (btw y 0 a.length = false → E (bad K "BadAt") none H) ∧ ∀ p : Nat, y = .int p → p ≤ a.length → OutR K (longR a.cps.toList p) p H Q E
def sp_read3 (K : PySem.W.Frag) (C : Str) (lo hi : Nat) (R : List Nat → Nat → Nat → Option (Int × Int)) : SpD := fun vs H Q E => ∃ x y z, vs = [x, y, z] ∧ Kd H x ∧ Kd H y ∧ Kd H z ∧ (∀ a, x = .str a → a.length ≤ 100000) ∧ (isBits x = false → E (bad K "BadBits") none H) ∧
  ∀ a, x = .str a → BitS a → (btw y 0 a.length = false → E (bad K "BadAt") none H) ∧ ∀ p : Nat, y = .int p → p ≤ a.length → (btw z lo hi = false → E (bad K C) none H) ∧ ∀ m : Nat, z = .int m → lo ≤ m → m ≤ hi → OutR K (R a.cps.toList p m) p H Q E
abbrev S_need_bits (K : PySem.W.Frag) : SpG := sh (sp_need_bits K) [0]
abbrev S_need_at (K : PySem.W.Frag) : SpG := sh (sp_need_at K) [0, 1]
abbrev S_from_twos (_ : PySem.W.Frag) : SpG := sh sp_from_twos [0]
abbrev S_ones_at (_ : PySem.W.Frag) : SpG := sh sp_ones_at [0, 1, 2]
abbrev S_take_bits (K : PySem.W.Frag) : SpG := sh (sp_take_bits K) [0, 1, 2, 3]
abbrev S_take_fixed (K : PySem.W.Frag) : SpG := sh (sp_take_fixed K) [0, 1, 2]
abbrev S_take_long (K : PySem.W.Frag) : SpG := sh (sp_take_long K) [0, 1]
abbrev S_take_grade (K : PySem.W.Frag) : SpG := sh (sp_take_grade K) [0, 1, 2]
abbrev S_read_long (K : PySem.W.Frag) : SpG := sh (sp_read_long K) [0, 1]
abbrev S_read_long_k0_at_bits (K : PySem.W.Frag) : SpG := sh (sp_read_long K) [1, 0]
abbrev S_read_grade (K : PySem.W.Frag) : SpG := sh (sp_read3 K "BadGrade" 0 7 gradeR) [0, 1, 2]
abbrev S_read_grade_k0_grade_at_bits (K : PySem.W.Frag) : SpG := sh (sp_read3 K "BadGrade" 0 7 gradeR) [2, 1, 0]
abbrev S_read_fixed (K : PySem.W.Frag) : SpG := sh (sp_read3 K "BadMany" 1 16 fixedR) [0, 1, 2]
abbrev S_read_fixed_k0_bits_many_at (K : PySem.W.Frag) : SpG := sh (sp_read3 K "BadMany" 1 16 fixedR) [0, 2, 1]
/-! ## the readings -/
abbrev act_need_bits (acts : Acts) : Acts := fun g tl => false = true ∧ acts g tl
def t_need_bits (K : PySem.W.Frag) (cells : List (Str × Addr)) (acts : Acts) (T : List (Addr × Str)) (pt : Option Addr) (W : WX) : TS :=
  (tIfS (tNot (tTru K (tFn (S_is_bits K) (fun _ _ => act_need_bits acts) W (tCons (tVar 0) tNil) tNil 1 0)))
  (tRaise0 (He.ga K "BadBits") W)
  tNext)
abbrev act_need_at (acts : Acts) : Acts := fun g tl => false = true ∧ acts g tl
def t_need_at (K : PySem.W.Frag) (cells : List (Str × Addr)) (acts : Acts) (T : List (Addr × Str)) (pt : Option Addr) (W : WX) : TS :=
  (tIfS (tNot (tTru K (tFn (S_is_between K) (fun _ _ => act_need_at acts) W (tCons (tVar 1) (tCons (tC (.int 0)) (tCons (tCB (G.rLen K) (tCons (tVar 0) tNil)) tNil))) tNil 3 0)))
  (tRaise0 (He.ga K "BadAt") W)
  tNext)
abbrev act_from_twos (acts : Acts) : Acts := fun g tl => false = true ∧ acts g tl
def t_from_twos (K : PySem.W.Frag) (cells : List (Str × Addr)) (acts : Acts) (T : List (Addr × Str)) (pt : Option Addr) (W : WX) : TS :=
  (tSeq (tAsg (tC (.int 0)) (gName 1))
  (tSeq (tFor (iSeq K (tVar 0)) (gName 2)
  (tAsg (tOp (G.rBin K .Add) (tOp (G.rBin K .Mult) (tC (.int 2)) (tVar 1)) (tCB G.rInt1 (tCons (tOp (G.rCmp K .Eq) (tVar 2) (tC (.str "1"))) tNil))) (gName 1)))
  (tRet (tVar 1))))
abbrev act_ones_at (acts : Acts) : Acts := fun g tl => false = true ∧ acts g tl
def t_ones_at (K : PySem.W.Frag) (cells : List (Str × Addr)) (acts : Acts) (T : List (Addr × Str)) (pt : Option Addr) (W : WX) : TS :=
  (tSeq (tAsg (tC (.int 0)) (gName 3))
  (tSeq (tWhile (tAnd (tTest (tOp (G.rCmp K .Lt) (tVar 3) (tVar 2))) (tTest (tOp (G.rCmp K .Eq) (tSl (G.rSlG K) (tVar 0) (tPart (tOp (G.rBin K .Add) (tVar 1) (tVar 3))) (tPart (tOp (G.rBin K .Add) (tOp (G.rBin K .Add) (tVar 1) (tVar 3)) (tC (.int 1))))) (tC (.str "1")))))
  (tAug 3 (tC (.int 1)) (G.rAug K .Add)))
  (tRet (tVar 3))))
abbrev act_take_bits (acts : Acts) : Acts := fun g tl => false = true ∧ acts g tl
def t_take_bits (K : PySem.W.Frag) (cells : List (Str × Addr)) (acts : Acts) (T : List (Addr × Str)) (pt : Option Addr) (W : WX) : TS :=
  (tSeq (tIfS (tTest (tOp (G.rCmp K .Gt) (tOp (G.rBin K .Add) (tVar 1) (tVar 2)) (tCB (G.rLen K) (tCons (tVar 0) tNil))))
  (tRaiseA (He.ga K "BadStream") "at" W (tCons (tVar 3) tNil))
  tNext)
  (tRet (tFn (S_from_twos K) (fun _ _ => act_take_bits acts) W (tCons (tSl (G.rSlG K) (tVar 0) (tPart (tVar 1)) (tPart (tOp (G.rBin K .Add) (tVar 1) (tVar 2)))) tNil) tNil 1 0)))
abbrev act_take_fixed (acts : Acts) : Acts := fun g tl => false = true ∧ acts g tl
def t_take_fixed (K : PySem.W.Frag) (cells : List (Str × Addr)) (acts : Acts) (T : List (Addr × Str)) (pt : Option Addr) (W : WX) : TS :=
  (tRet (tTup (tCons (tFn (S_take_bits K) (fun _ _ => act_take_fixed acts) W (tCons (tVar 0) (tCons (tVar 1) (tCons (tVar 2) (tCons (tVar 1) tNil)))) tNil 4 0) (tCons (tOp (G.rBin K .Add) (tVar 1) (tVar 2)) tNil))))
abbrev act_take_long (acts : Acts) : Acts := fun g tl => false = true ∧ acts g tl
def t_take_long (K : PySem.W.Frag) (cells : List (Str × Addr)) (acts : Acts) (T : List (Addr × Str)) (pt : Option Addr) (W : WX) : TS :=
  (tSeq (tAsg (tFn (S_ones_at K) (fun _ _ => act_take_long acts) W (tCons (tVar 0) (tCons (tVar 1) (tCons (tOp (G.rBin K .Add) (tC (.int 15)) (tC (.int 1))) tNil))) tNil 3 0) (gName 2))
  (tSeq (tIfS (tOr (tTest (tOp (G.rCmp K .Gt) (tVar 2) (tC (.int 15)))) (tTest (tOp (G.rCmp K .NotEq) (tSl (G.rSlG K) (tVar 0) (tPart (tOp (G.rBin K .Add) (tVar 1) (tVar 2))) (tPart (tOp (G.rBin K .Add) (tOp (G.rBin K .Add) (tVar 1) (tVar 2)) (tC (.int 1))))) (tC (.str "0")))))
  (tRaiseA (He.ga K "BadStream") "at" W (tCons (tVar 1) tNil))
  tNext)
  (tSeq (tAsg (tFn (S_take_bits K) (fun _ _ => act_take_long acts) W (tCons (tVar 0) (tCons (tOp (G.rBin K .Add) (tOp (G.rBin K .Add) (tVar 1) (tVar 2)) (tC (.int 1))) (tCons (tVar 2) (tCons (tVar 1) tNil)))) tNil 4 0) (gName 3))
  (tRet (tTup (tCons (tFn (S_unfold K) (fun _ _ => act_take_long acts) W (tCons (tOp (G.rBin K .Sub) (tOp (G.rBin K .Add) (tOp (G.rBin K .LShift) (tC (.int 1)) (tVar 2)) (tVar 3)) (tC (.int 1))) tNil) tNil 1 0) (tCons (tOp (G.rBin K .Add) (tOp (G.rBin K .Add) (tVar 1) (tOp (G.rBin K .Mult) (tC (.int 2)) (tVar 2))) (tC (.int 1))) tNil)))))))
abbrev act_take_grade (acts : Acts) : Acts := fun g tl => false = true ∧ acts g tl
def t_take_grade (K : PySem.W.Frag) (cells : List (Str × Addr)) (acts : Acts) (T : List (Addr × Str)) (pt : Option Addr) (W : WX) : TS :=
  (tSeq (tAsg (tFn (S_ones_at K) (fun _ _ => act_take_grade acts) W (tCons (tVar 0) (tCons (tVar 1) (tCons (tC (.int 12)) tNil))) tNil 3 0) (gName 3))
  (tSeq (tIfS (tTest (tOp (G.rCmp K .Eq) (tVar 3) (tC (.int 12))))
  (tSeq (tAsg (tFn (S_take_bits K) (fun _ _ => act_take_grade acts) W (tCons (tVar 0) (tCons (tOp (G.rBin K .Add) (tVar 1) (tVar 3)) (tCons (tC (.int 16)) (tCons (tVar 1) tNil)))) tNil 4 0) (gName 4))
  (tSeq (tIfS (tOr (tTest (tOp (G.rCmp K .Lt) (tVar 4) (tOp (G.rBin K .LShift) (tC (.int 12)) (tVar 2)))) (tTest (tOp (G.rCmp K .Gt) (tVar 4) (tC (.int 65534)))))
  (tRaiseA (He.ga K "BadStream") "at" W (tCons (tVar 1) tNil))
  tNext)
  (tRet (tTup (tCons (tFn (S_unfold K) (fun _ _ => act_take_grade acts) W (tCons (tVar 4) tNil) tNil 1 0) (tCons (tOp (G.rBin K .Add) (tOp (G.rBin K .Add) (tVar 1) (tVar 3)) (tC (.int 16))) tNil))))))
  tNext)
  (tSeq (tIfS (tTest (tOp (G.rCmp K .NotEq) (tSl (G.rSlG K) (tVar 0) (tPart (tOp (G.rBin K .Add) (tVar 1) (tVar 3))) (tPart (tOp (G.rBin K .Add) (tOp (G.rBin K .Add) (tVar 1) (tVar 3)) (tC (.int 1))))) (tC (.str "0"))))
  (tRaiseA (He.ga K "BadStream") "at" W (tCons (tVar 1) tNil))
  tNext)
  (tSeq (tAsg (tFn (S_take_bits K) (fun _ _ => act_take_grade acts) W (tCons (tVar 0) (tCons (tOp (G.rBin K .Add) (tOp (G.rBin K .Add) (tVar 1) (tVar 3)) (tC (.int 1))) (tCons (tVar 2) (tCons (tVar 1) tNil)))) tNil 4 0) (gName 5))
  (tRet (tTup (tCons (tFn (S_unfold K) (fun _ _ => act_take_grade acts) W (tCons (tOp (G.rBin K .Add) (tOp (G.rBin K .LShift) (tVar 3) (tVar 2)) (tVar 5)) tNil) tNil 1 0) (tCons (tOp (G.rBin K .Add) (tOp (G.rBin K .Add) (tOp (G.rBin K .Add) (tVar 1) (tVar 3)) (tC (.int 1))) (tVar 2)) tNil))))))))
abbrev act_read_fixed (acts : Acts) : Acts := fun g tl => false = true ∧ acts g tl
def t_read_fixed (K : PySem.W.Frag) (cells : List (Str × Addr)) (acts : Acts) (T : List (Addr × Str)) (pt : Option Addr) (W : WX) : TS :=
  (tSeq (tDrop (tFn (S_need_bits K) (fun _ _ => act_read_fixed acts) W (tCons (tVar 0) tNil) tNil 1 0))
  (tSeq (tDrop (tFn (S_need_at K) (fun _ _ => act_read_fixed acts) W (tCons (tVar 0) (tCons (tVar 1) tNil)) tNil 2 0))
  (tSeq (tDrop (tFn (S_need_many K) (fun _ _ => act_read_fixed acts) W (tCons (tVar 2) tNil) tNil 1 0))
  (tRet (tFn (S_take_fixed K) (fun _ _ => act_read_fixed acts) W (tCons (tVar 0) (tCons (tVar 1) (tCons (tVar 2) tNil))) tNil 3 0)))))
abbrev act_read_long (acts : Acts) : Acts := fun g tl => false = true ∧ acts g tl
def t_read_long (K : PySem.W.Frag) (cells : List (Str × Addr)) (acts : Acts) (T : List (Addr × Str)) (pt : Option Addr) (W : WX) : TS :=
  (tSeq (tDrop (tFn (S_need_bits K) (fun _ _ => act_read_long acts) W (tCons (tVar 0) tNil) tNil 1 0))
  (tSeq (tDrop (tFn (S_need_at K) (fun _ _ => act_read_long acts) W (tCons (tVar 0) (tCons (tVar 1) tNil)) tNil 2 0))
  (tRet (tFn (S_take_long K) (fun _ _ => act_read_long acts) W (tCons (tVar 0) (tCons (tVar 1) tNil)) tNil 2 0))))
abbrev act_read_grade (acts : Acts) : Acts := fun g tl => false = true ∧ acts g tl
def t_read_grade (K : PySem.W.Frag) (cells : List (Str × Addr)) (acts : Acts) (T : List (Addr × Str)) (pt : Option Addr) (W : WX) : TS :=
  (tSeq (tDrop (tFn (S_need_bits K) (fun _ _ => act_read_grade acts) W (tCons (tVar 0) tNil) tNil 1 0))
  (tSeq (tDrop (tFn (S_need_at K) (fun _ _ => act_read_grade acts) W (tCons (tVar 0) (tCons (tVar 1) tNil)) tNil 2 0))
  (tSeq (tDrop (tFn (S_need_grade K) (fun _ _ => act_read_grade acts) W (tCons (tVar 2) tNil) tNil 1 0))
  (tRet (tFn (S_take_grade K) (fun _ _ => act_read_grade acts) W (tCons (tVar 0) (tCons (tVar 1) (tCons (tVar 2) tNil))) tNil 3 0)))))

/-! ## each promise holds -/
section
variable {K : PySem.W.Frag} {cells : List (Str × Addr)} {acts : Acts} {T : List (Addr × Str)} {pt : Option Addr} {vs : List V} {H : Hp} {Q : VK} {E : XK}
theorem len_txt {K : PySem.W.Frag} {H : Hp} {x : Str} {Q : VK} (h : x.length ≤ 100000) (q : Q (.int x.length) H) : G.rLen K [.str x] H Q := .inl ⟨_, x.length, rfl, ⟨Nat.le_trans h (by rw [sizeLine_eq]; decide), rfl⟩, q⟩
theorem sl_s {K : PySem.W.Frag} {H : Hp} {x : Str} {i j : Int} {p q : Nat} {Q : VK} (h : x.length ≤ 100000) (e : i = p) (e2 : j = q) (hq : Q (.str (cutS x (some (p : Int)) (some (q : Int)))) H) : G.rSlG K (.str x) (some i) (some j) H Q := by
  subst e e2
  exact .inr (.inr ⟨x, rfl, Nat.le_trans h (by rw [sizeLine_eq]; decide), hq⟩)
theorem isBits_in {x : V} (h : isBits x = true) : ∃ a, x = .str a ∧ BitS a := by
  cases x with
  | str a =>
    refine ⟨a, rfl, fun c hc => ?_⟩
    have z : decide (Txt.stripChars a "01" = "") = true := h
    have z1 := of_decide_eq_true z
    refine Classical.byContradiction fun n => ?_
    refine strip_some (y := "01") hc ?_ z1
    have e : (("01" : Str)).cps = #[48, 49] := by decide +kernel
    rw [e]
    simpa using n
  | _ => cases h
theorem ok_need_bits (h : sp_need_bits K vs H Q E) : vs.length = 1 ∧ t_need_bits K cells acts T pt (Ww E) (Dd Q) (L2.start ["bits"] vs) H := by
  obtain ⟨x, rfl, hk, hl, h1, h2⟩ := h
  refine ⟨rfl, ?_⟩
  rw [show L2.start ["bits"] [x] = [some x] from rfl]
  unfold t_need_bits
  simp only [tSeq, tWhile, tAnd, tOr, tNot, tTest, tTru, tOp, tUn, tVar, tC, tLst, tTup, tNil, tAsg, tBM, tBM0, tCons, gSub, tIfS, tCB, gName, tRet, tRetN, tNext, tIf, tFn, tDrop, tRaise0, tAndT, tOrT, tNotT, tChain, tAug, tPar, tPar3, for_go, lc_go, iRng1, iRng2, iSeq, tSl, tPart, tNoPart, tRaiseA, tAttr, List.getElem?_cons_zero, List.getElem?_cons_succ, List.set_cons_zero, List.set_cons_succ, Option.some.injEq, exists_eq_left']
  refine ⟨rfl, rfl, x, rfl, hk, hl, _, rfl, ?_⟩
  cases c : isBits x with
  | true => exact h1 c
  | false => exact h2 c
theorem ok_need_at (h : sp_need_at K vs H Q E) : vs.length = 2 ∧ t_need_at K cells acts T pt (Ww E) (Dd Q) (L2.start ["bits", "at"] vs) H := by
  obtain ⟨a, y, rfl, hl, hk, h1, h2⟩ := h
  refine ⟨rfl, ?_⟩
  rw [show L2.start ["bits", "at"] [.str a, y] = [some (.str a), some y] from rfl]
  unfold t_need_at
  simp only [tSeq, tWhile, tAnd, tOr, tNot, tTest, tTru, tOp, tUn, tVar, tC, tLst, tTup, tNil, tAsg, tBM, tBM0, tCons, gSub, tIfS, tCB, gName, tRet, tRetN, tNext, tIf, tFn, tDrop, tRaise0, tAndT, tOrT, tNotT, tChain, tAug, tPar, tPar3, for_go, lc_go, iRng1, iRng2, iSeq, tSl, tPart, tNoPart, tRaiseA, tAttr, List.getElem?_cons_zero, List.getElem?_cons_succ, List.set_cons_zero, List.set_cons_succ, Option.some.injEq, exists_eq_left']
  refine len_txt hl ⟨rfl, rfl, y, 0, _, rfl, hk, _, rfl, ?_⟩
  cases c : btw y 0 a.length with
  | true => exact h1 c
  | false => exact h2 c
theorem int_bl {b : Bool} {Q : VK} (q : Q (.int (if b then 1 else 0)) H) : G.rInt1 [.bl b] H Q := q
theorem twos_loop {a : Str} {n ix : Nat} {σ0 : L2.St} {D : Ends} (hl : a.length ≤ 100000) (h0 : σ0[n]? = some (some (.int 0))) (hn : n ≠ ix) (hi : ix < σ0.length) (P : L2.St → Prop) (hP : P σ0)
    (keep : ∀ σ v w, P σ → P ((σ.set ix (some v)).set n (some w))) (q : ∀ σ, P σ → σ[n]? = some (some (.int (valL a.cps.toList))) → D.nx σ H) :
    ForGo (Its a) (gName ix) (tAsg (tOp (G.rBin K .Add) (tOp (G.rBin K .Mult) (tC (.int 2)) (tVar n)) (tCB G.rInt1 (tCons (tOp (G.rCmp K .Eq) (tVar ix) (tC (.str "1"))) tNil))) (gName n)) D σ0 H := by
  have ll : a.cps.toList.length = a.length := len_cps a
  refine go_its (x := a) (fun i σ H' => H' = H ∧ P σ ∧ σ.length = σ0.length ∧ σ[n]? = some (some (.int (valL (a.cps.toList.take i))))) ⟨rfl, hP, rfl, by rw [List.take_zero]; exact h0⟩ ?_ ?_
  · rintro i c σ H' hc ⟨rfl, hp, hz, hv⟩
    have hn2 : n < σ.length := (List.getElem?_eq_some_iff.mp hv).1
    simp only [tAsg, tOp, tC, tVar, tCB, tCons, tNil, gName]
    refine ⟨_, by rw [List.getElem?_set_ne (Ne.symm hn)]; exact hv, mul_int (by decide) (by decide) ⟨_, by rw [List.getElem?_set_self (by omega)], ?_⟩⟩
    rw [cps_one]
    refine eq_str (int_bl (G.add_int ⟨rfl, keep _ _ _ hp, by rw [List.length_set, List.length_set]; exact hz, ?_⟩))
    rw [List.getElem?_set_self (by rw [List.length_set]; omega), val_take hc]
    have e : ((⟨#[c]⟩ : Str) = ⟨#[49]⟩) = (c = 49) := propext sign_one
    by_cases cc : c = 49
    · subst cc
      rfl
    · rw [if_neg cc, decide_eq_false (fun z => cc (sign_one.mp z))]
      rfl
  · rintro σ H' ⟨rfl, hp, hz, hv⟩
    refine q σ hp ?_
    rw [hv, ← ll, List.take_length]
theorem ok_from_twos (h : sp_from_twos vs H Q E) : vs.length = 1 ∧ t_from_twos K cells acts T pt (Ww E) (Dd Q) (L2.start ["bits", "number", "sign"] vs) H := by
  obtain ⟨a, rfl, hl, q⟩ := h
  refine ⟨rfl, ?_⟩
  rw [show L2.start ["bits", "number", "sign"] [.str a] = [some (.str a), none, none] from rfl]
  unfold t_from_twos
  simp only [tSeq, tAsg, tC, gName, for_go, iSeq, iStr, List.set_cons_succ, List.set_cons_zero]
  refine .inr (.inr ⟨_, rfl, a, rfl, ?_⟩)
  refine twos_loop (n := 1) (ix := 2) hl rfl (by decide) (Nat.le_refl 3) (fun _ => True) trivial (fun _ _ _ _ => trivial) fun σ _ hv => ?_
  simp only [tRet, tVar]
  exact ⟨_, hv, q⟩
theorem ones_step {K : PySem.W.Frag} {a : Str} {p j : Nat} {R : VK} (hl : a.length ≤ 100000) (h1 : j < onesL a.cps.toList p → R (.bl true) H) (h2 : j = onesL a.cps.toList p → R (.bl false) H) (hj : j ≤ onesL a.cps.toList p) :
    G.rSlG K (.str a) (some ((p : Int) + j)) (some ((p : Int) + j + 1)) H fun x H' => G.rCmp K .Eq x (.str "1") H' R := by
  refine sl_s (p := p + j) (q := p + j + 1) hl (by omega) (by omega) (eq_str ?_)
  have e := cut_sign (z := a) (p := p + j) (c := 49)
  rw [← cps_one] at e
  have e2 : ((p + j : Nat) : Int) + 1 = ((p + j + 1 : Nat) : Int) := rfl
  rw [e2] at e
  by_cases c : j < onesL a.cps.toList p
  · rw [decide_eq_true (e.mpr (ones_in c))]
    exact h1 c
  · have c2 : j = onesL a.cps.toList p := by omega
    rw [decide_eq_false (fun z => ones_end (by rw [← c2]; exact e.mp z))]
    exact h2 c2
theorem ok_ones_at (h : sp_ones_at vs H Q E) : vs.length = 3 ∧ t_ones_at K cells acts T pt (Ww E) (Dd Q) (L2.start ["bits", "at", "most", "many"] vs) H := by
  obtain ⟨a, p, mo, rfl, hl, q⟩ := h
  refine ⟨rfl, ?_⟩
  rw [show L2.start ["bits", "at", "most", "many"] [.str a, .int p, .int mo] = [some (.str a), some (.int p), some (.int mo), none] from rfl]
  unfold t_ones_at
  simp only [tSeq, tWhile, tAnd, tOr, tNot, tTest, tTru, tOp, tUn, tVar, tC, tLst, tTup, tNil, tAsg, tBM, tBM0, tCons, gSub, tIfS, tCB, gName, tRet, tRetN, tNext, tIf, tFn, tDrop, tRaise0, tAndT, tOrT, tNotT, tChain, tAug, tPar, tPar3, for_go, lc_go, iRng1, iRng2, iSeq, tSl, tPart, tNoPart, tRaiseA, tAttr, List.getElem?_cons_zero, List.getElem?_cons_succ, List.set_cons_zero, List.set_cons_succ, Option.some.injEq, exists_eq_left']
  refine ⟨fun m σ H' => H' = H ∧ ∃ j : Nat, σ = [some (.str a), some (.int p), some (.int mo), some (.int j)] ∧ j ≤ mo ∧ j ≤ onesL a.cps.toList p ∧ j + m = mo, ⟨mo, rfl, 0, rfl, by omega, by omega, by omega⟩, ?_⟩
  rintro m σ H' ⟨rfl, j, rfl, hj1, hj2, hm⟩
  simp only [tSeq, tWhile, tAnd, tOr, tNot, tTest, tTru, tOp, tUn, tVar, tC, tLst, tTup, tNil, tAsg, tBM, tBM0, tCons, gSub, tIfS, tCB, gName, tRet, tRetN, tNext, tIf, tFn, tDrop, tRaise0, tAndT, tOrT, tNotT, tChain, tAug, tPar, tPar3, for_go, lc_go, iRng1, iRng2, iSeq, tSl, tPart, tNoPart, tRaiseA, tAttr, List.getElem?_cons_zero, List.getElem?_cons_succ, List.set_cons_zero, List.set_cons_succ, Option.some.injEq, exists_eq_left']
  refine lt_int ⟨_, rfl, ?_⟩
  by_cases c : j < mo
  · rw [if_pos (decide_eq_true (by omega))]
    refine add_int ⟨_, rfl, add_int (add_int ⟨_, rfl, ?_⟩)⟩
    refine ones_step (p := p) (j := j) hl (fun c2 => ⟨_, rfl, ?_⟩) (fun c2 => ⟨_, rfl, ?_⟩) hj2
    · rw [if_pos rfl]
      refine ⟨fun σ H' => H' = _ ∧ σ = [some (.str a), some (.int p), some (.int mo), some (.int (j + 1 : Nat))], fun σ' H2 ⟨e1, e2⟩ => ⟨m - 1, by omega, e1, j + 1, e2, by omega, by omega, by omega⟩, ?_⟩
      exact ⟨rfl, rfl⟩
    · rw [if_neg (by simp)]
      have e : min mo (onesL a.cps.toList p) = j := by omega
      rw [e] at q
      exact q
  · rw [if_neg (by rw [decide_eq_true_eq]; omega)]
    have e : min mo (onesL a.cps.toList p) = j := by omega
    rw [e] at q
    rw [if_neg (by simp)]
    exact q
theorem ok_take_bits (h : sp_take_bits K vs H Q E) : vs.length = 4 ∧ t_take_bits K cells acts T pt (Ww E) (Dd Q) (L2.start ["bits", "index", "many", "at"] vs) H := by
  obtain ⟨a, p, m, y, rfl, hl, h1, h2⟩ := h
  refine ⟨rfl, ?_⟩
  rw [show L2.start ["bits", "index", "many", "at"] [.str a, .int p, .int m, y] = [some (.str a), some (.int p), some (.int m), some y] from rfl]
  unfold t_take_bits
  simp only [tSeq, tWhile, tAnd, tOr, tNot, tTest, tTru, tOp, tUn, tVar, tC, tLst, tTup, tNil, tAsg, tBM, tBM0, tCons, gSub, tIfS, tCB, gName, tRet, tRetN, tNext, tIf, tFn, tDrop, tRaise0, tAndT, tOrT, tNotT, tChain, tAug, tPar, tPar3, for_go, lc_go, iRng1, iRng2, iSeq, tSl, tPart, tNoPart, tRaiseA, tAttr, List.getElem?_cons_zero, List.getElem?_cons_succ, List.set_cons_zero, List.set_cons_succ, Option.some.injEq, exists_eq_left']
  refine add_int (len_txt hl (gt_int ⟨_, rfl, ?_⟩))
  by_cases c : p + m ≤ a.length
  · rw [if_neg (by rw [decide_eq_true_eq]; omega)]
    refine ⟨_, rfl, add_int ⟨_, rfl, sl_s (p := p) (q := p + m) hl rfl rfl ⟨rfl, rfl, _, rfl, Nat.le_trans (cutS_length _ _ _) hl, ?_⟩⟩⟩
    rw [cut_nat c, show p + m - p = m from by omega]
    exact h1 c
  · rw [if_pos (by rw [decide_eq_true_eq]; omega)]
    exact ⟨_, rfl, fun d hd => h2 (by omega) d hd⟩
theorem small2 {n : Nat} (h : Nat.ble n 100 = true) : n ≤ sizeLine := by
  have z := Nat.le_of_ble_eq_true h
  rw [sizeLine_eq]
  omega
theorem ok_take_fixed (h : sp_take_fixed K vs H Q E) : vs.length = 3 ∧ t_take_fixed K cells acts T pt (Ww E) (Dd Q) (L2.start ["bits", "at", "many"] vs) H := by
  obtain ⟨a, p, m, rfl, hl, h1⟩ := h
  refine ⟨rfl, ?_⟩
  rw [show L2.start ["bits", "at", "many"] [.str a, .int p, .int m] = [some (.str a), some (.int p), some (.int m)] from rfl]
  unfold t_take_fixed
  simp only [tSeq, tWhile, tAnd, tOr, tNot, tTest, tTru, tOp, tUn, tVar, tC, tLst, tTup, tNil, tAsg, tBM, tBM0, tCons, gSub, tIfS, tCB, gName, tRet, tRetN, tNext, tIf, tFn, tDrop, tRaise0, tAndT, tOrT, tNotT, tChain, tAug, tPar, tPar3, for_go, lc_go, iRng1, iRng2, iSeq, tSl, tPart, tNoPart, tRaiseA, tAttr, List.getElem?_cons_zero, List.getElem?_cons_succ, List.set_cons_zero, List.set_cons_succ, Option.some.injEq, exists_eq_left']
  have ll : a.cps.toList.length = a.length := len_cps a
  unfold fixedR at h1
  refine ⟨rfl, rfl, a, p, m, .int p, rfl, hl, fun c => add_int ⟨small2 rfl, fun t ht => ?_⟩, fun c d hd => ?_⟩
  · rw [if_pos (by omega)] at h1
    exact h1 t ht
  · rw [if_neg (by omega)] at h1
    exact h1 d hd
theorem at_zero {a : Str} (hb : BitS a) {p : Nat} (h : p + onesL a.cps.toList p < a.length) : a.cps.toList[p + onesL a.cps.toList p]? = some 48 := by
  have ll : a.cps.toList.length = a.length := len_cps a
  have e := List.getElem?_eq_getElem (l := a.cps.toList) (i := p + onesL a.cps.toList p) (by omega)
  rcases hb _ (List.mem_of_getElem? e) with z | z
  · rw [e, z]
  · exact absurd (by rw [e, z]) (ones_end (l := a.cps.toList) (p := p))
theorem zero_step {K : PySem.W.Frag} {a : Str} {p j : Nat} {R : VK} (hb : BitS a) (hl : a.length ≤ 100000) (hj : j = onesL a.cps.toList p) (h1 : p + j < a.length → R (.bl false) H) (h2 : a.length ≤ p + j → R (.bl true) H) :
    G.rSlG K (.str a) (some ((p : Int) + j)) (some ((p : Int) + j + 1)) H fun x H' => G.rCmp K .NotEq x (.str "0") H' R := by
  have ll : a.cps.toList.length = a.length := len_cps a
  refine sl_s (p := p + j) (q := p + j + 1) hl (by omega) (by omega) (ne_str ?_)
  have e := cut_sign (z := a) (p := p + j) (c := 48)
  rw [← cps_zero] at e
  have e2 : ((p + j : Nat) : Int) + 1 = ((p + j + 1 : Nat) : Int) := rfl
  rw [e2] at e
  by_cases c : p + j < a.length
  · rw [decide_eq_true (e.mpr (by rw [hj]; exact at_zero hb (by rw [← hj]; exact c)))]
    exact h1 c
  · rw [decide_eq_false (fun z => by
      have := (List.getElem?_eq_some_iff.mp (e.mp z)).1
      omega)]
    exact h2 (by omega)
theorem ok_take_long (h : sp_take_long K vs H Q E) : vs.length = 2 ∧ t_take_long K cells acts T pt (Ww E) (Dd Q) (L2.start ["bits", "at", "ones", "tail"] vs) H := by
  obtain ⟨a, p, rfl, hl, hb, h1⟩ := h
  refine ⟨rfl, ?_⟩
  rw [show L2.start ["bits", "at", "ones", "tail"] [.str a, .int p] = [some (.str a), some (.int p), none, none] from rfl]
  unfold t_take_long
  simp only [tSeq, tWhile, tAnd, tOr, tNot, tTest, tTru, tOp, tUn, tVar, tC, tLst, tTup, tNil, tAsg, tBM, tBM0, tCons, gSub, tIfS, tCB, gName, tRet, tRetN, tNext, tIf, tFn, tDrop, tRaise0, tAndT, tOrT, tNotT, tChain, tAug, tPar, tPar3, for_go, lc_go, iRng1, iRng2, iSeq, tSl, tPart, tNoPart, tRaiseA, tAttr, List.getElem?_cons_zero, List.getElem?_cons_succ, List.set_cons_zero, List.set_cons_succ, Option.some.injEq, exists_eq_left']
  have ll : a.cps.toList.length = a.length := len_cps a
  unfold longR at h1
  refine add_int ⟨rfl, rfl, a, p, 16, rfl, hl, gt_int ⟨_, rfl, ?_⟩⟩
  by_cases c : onesL a.cps.toList p ≤ 15
  · rw [show min 16 (onesL a.cps.toList p) = onesL a.cps.toList p from by omega]
    rw [if_neg (by rw [decide_eq_true_eq]; omega)]
    refine add_int ⟨_, rfl, add_int (add_int ⟨_, rfl, zero_step hb hl rfl (fun c2 => ⟨_, rfl, ?_⟩) (fun c2 => ⟨_, rfl, ?_⟩)⟩)⟩
    · rw [if_neg (by simp)]
      refine add_int (add_int ⟨rfl, rfl, a, p + onesL a.cps.toList p + 1, onesL a.cps.toList p, .int p, rfl, hl, fun c3 => ?_, fun c3 d hd => ?_⟩)
      · rw [if_pos ⟨c, by omega⟩] at h1
        refine shl_one (n := onesL a.cps.toList p) rfl (by omega) (add_int (G.sub_int ⟨rfl, rfl, _, rfl, mul_int (by decide) (by decide) (add_int (add_int ⟨small2 rfl, fun t ht => h1 t ht⟩))⟩))
      · rw [if_neg (by omega)] at h1
        exact h1 d hd
    · rw [if_pos rfl]
      rw [if_neg (by omega)] at h1
      exact ⟨_, rfl, fun d hd => h1 d hd⟩
  · rw [if_pos (by rw [decide_eq_true_eq]; omega), if_pos trivial]
    rw [if_neg (by omega)] at h1
    exact ⟨_, rfl, fun d hd => h1 d hd⟩
theorem shl_any {K : PySem.W.Frag} {H : Hp} {i j : Int} {n : Nat} {Q : VK} (e : j = n) (hn : n ≤ 1000000) (hi : i.natAbs < 18446744073709551616) (q : Q (.int (i * 2 ^ n)) H) : G.rBin K .LShift (.int i) (.int j) H Q := by
  subst e
  refine ⟨⟨by omega, by omega, hi⟩, ?_⟩
  show Q (.int (i * 2 ^ (n : Int).toNat)) H
  rw [Int.toNat_natCast]
  exact q
theorem ok_take_grade (h : sp_take_grade K vs H Q E) : vs.length = 3 ∧ t_take_grade K cells acts T pt (Ww E) (Dd Q) (L2.start ["bits", "at", "grade", "ones", "told", "tail"] vs) H := by
  obtain ⟨a, p, g, rfl, hl, hb, hg, h1⟩ := h
  refine ⟨rfl, ?_⟩
  rw [show L2.start ["bits", "at", "grade", "ones", "told", "tail"] [.str a, .int p, .int g] = [some (.str a), some (.int p), some (.int g), none, none, none] from rfl]
  unfold t_take_grade
  simp only [tSeq, tWhile, tAnd, tOr, tNot, tTest, tTru, tOp, tUn, tVar, tC, tLst, tTup, tNil, tAsg, tBM, tBM0, tCons, gSub, tIfS, tCB, gName, tRet, tRetN, tNext, tIf, tFn, tDrop, tRaise0, tAndT, tOrT, tNotT, tChain, tAug, tPar, tPar3, for_go, lc_go, iRng1, iRng2, iSeq, tSl, tPart, tNoPart, tRaiseA, tAttr, List.getElem?_cons_zero, List.getElem?_cons_succ, List.set_cons_zero, List.set_cons_succ, Option.some.injEq, exists_eq_left']
  have ll : a.cps.toList.length = a.length := len_cps a
  unfold gradeR at h1
  refine ⟨rfl, rfl, a, p, 12, rfl, hl, eq_int ⟨_, rfl, ?_⟩⟩
  by_cases c : 12 ≤ onesL a.cps.toList p
  · rw [if_pos c] at h1
    rw [show min 12 (onesL a.cps.toList p) = 12 from by omega, if_pos (by decide)]
    refine add_int ⟨rfl, rfl, a, p + 12, 16, .int p, rfl, hl, fun c2 => ?_, fun c2 d hd => ?_⟩
    · revert h1
      generalize valL ((a.cps.toList.drop (p + 12)).take 16) = t
      intro h1
      refine shl_any (n := g) rfl (by omega) (by decide) (lt_int ⟨_, rfl, ?_⟩)
      by_cases c3 : 12 * 2 ^ g ≤ t
      · rw [if_neg (by rw [decide_eq_true_eq]; omega)]
        refine gt_int ⟨_, rfl, ?_⟩
        by_cases c4 : t ≤ 65534
        · rw [if_neg (by rw [decide_eq_true_eq]; omega)]
          rw [if_pos ⟨by omega, c3, c4⟩] at h1
          refine ⟨rfl, rfl, _, rfl, add_int (add_int ⟨small2 rfl, fun r hr => ?_⟩)⟩
          have e : (p : Int) + ((12 : Nat) : Int) + 16 = (p : Int) + 28 := by omega
          rw [e]
          exact h1 r hr
        · rw [if_pos (by rw [decide_eq_true_eq]; omega)]
          rw [if_neg (fun z => c4 z.2.2)] at h1
          exact ⟨_, rfl, fun d hd => h1 d hd⟩
      · rw [if_pos (by rw [decide_eq_true_eq]; omega), if_pos trivial]
        rw [if_neg (fun z => c3 z.2.1)] at h1
        exact ⟨_, rfl, fun d hd => h1 d hd⟩
    · rw [if_neg (fun z => by omega)] at h1
      exact h1 d hd
  · rw [if_neg c] at h1
    rw [show min 12 (onesL a.cps.toList p) = onesL a.cps.toList p from by omega, if_neg (by rw [decide_eq_true_eq]; omega)]
    refine add_int ⟨_, rfl, add_int (add_int ⟨_, rfl, zero_step hb hl rfl (fun c2 => ⟨_, rfl, ?_⟩) (fun c2 => ⟨_, rfl, ?_⟩)⟩)⟩
    · rw [if_neg (by simp)]
      refine add_int (add_int ⟨rfl, rfl, a, p + onesL a.cps.toList p + 1, g, .int p, rfl, hl, fun c3 => ?_, fun c3 d hd => ?_⟩)
      · rw [if_pos (by omega)] at h1
        refine shl_any (n := g) rfl (by omega) (by omega) (add_int ⟨rfl, rfl, _, rfl, add_int (add_int (add_int ⟨small2 rfl, fun t ht => h1 t ht⟩))⟩)
      · rw [if_neg (by omega)] at h1
        exact h1 d hd
    · rw [if_pos rfl]
      rw [if_neg (by omega)] at h1
      exact ⟨_, rfl, fun d hd => h1 d hd⟩
theorem ok_read_long (h : sp_read_long K vs H Q E) : vs.length = 2 ∧ t_read_long K cells acts T pt (Ww E) (Dd Q) (L2.start ["bits", "at"] vs) H := by
  obtain ⟨x, y, rfl, hx, hy, hl, h1, h2⟩ := h
  refine ⟨rfl, ?_⟩
  rw [show L2.start ["bits", "at"] [x, y] = [some x, some y] from rfl]
  unfold t_read_long
  simp only [tSeq, tWhile, tAnd, tOr, tNot, tTest, tTru, tOp, tUn, tVar, tC, tLst, tTup, tNil, tAsg, tBM, tBM0, tCons, gSub, tIfS, tCB, gName, tRet, tRetN, tNext, tIf, tFn, tDrop, tRaise0, tAndT, tOrT, tNotT, tChain, tAug, tPar, tPar3, for_go, lc_go, iRng1, iRng2, iSeq, tSl, tPart, tNoPart, tRaiseA, tAttr, List.getElem?_cons_zero, List.getElem?_cons_succ, List.set_cons_zero, List.set_cons_succ, Option.some.injEq, exists_eq_left']
  refine ⟨rfl, rfl, x, rfl, hx, fun a e => Nat.le_trans (hl a e) (by decide), fun c => ?_, h1⟩
  obtain ⟨a, rfl, hb⟩ := isBits_in c
  obtain ⟨h3, h4⟩ := h2 a rfl hb
  refine ⟨rfl, rfl, a, y, rfl, hl a rfl, hy, fun c2 => ?_, h3⟩
  obtain ⟨i, rfl, b0, b1⟩ := btw_int c2
  have e : i = ((i.toNat : Nat) : Int) := by omega
  refine ⟨rfl, rfl, a, i.toNat, by rw [← e]; rfl, hl a rfl, hb, h4 i.toNat (by rw [← e]) (by omega)⟩
theorem ok_read_fixed (h : sp_read3 K "BadMany" 1 16 fixedR vs H Q E) : vs.length = 3 ∧ t_read_fixed K cells acts T pt (Ww E) (Dd Q) (L2.start ["bits", "at", "many"] vs) H := by
  obtain ⟨x, y, z, rfl, hx, hy, hz, hl, h1, h2⟩ := h
  refine ⟨rfl, ?_⟩
  rw [show L2.start ["bits", "at", "many"] [x, y, z] = [some x, some y, some z] from rfl]
  unfold t_read_fixed
  simp only [tSeq, tWhile, tAnd, tOr, tNot, tTest, tTru, tOp, tUn, tVar, tC, tLst, tTup, tNil, tAsg, tBM, tBM0, tCons, gSub, tIfS, tCB, gName, tRet, tRetN, tNext, tIf, tFn, tDrop, tRaise0, tAndT, tOrT, tNotT, tChain, tAug, tPar, tPar3, for_go, lc_go, iRng1, iRng2, iSeq, tSl, tPart, tNoPart, tRaiseA, tAttr, List.getElem?_cons_zero, List.getElem?_cons_succ, List.set_cons_zero, List.set_cons_succ, Option.some.injEq, exists_eq_left']
  refine ⟨rfl, rfl, x, rfl, hx, fun a e => Nat.le_trans (hl a e) (by decide), fun c => ?_, h1⟩
  obtain ⟨a, rfl, hb⟩ := isBits_in c
  obtain ⟨h3, h4⟩ := h2 a rfl hb
  refine ⟨rfl, rfl, a, y, rfl, hl a rfl, hy, fun c2 => ?_, h3⟩
  obtain ⟨i, rfl, b0, b1⟩ := btw_int c2
  have e : i = ((i.toNat : Nat) : Int) := by omega
  obtain ⟨h5, h6⟩ := h4 i.toNat (by rw [← e]) (by omega)
  refine ⟨rfl, rfl, z, rfl, hz, fun c3 => ?_, h5⟩
  obtain ⟨j, rfl, d0, d1⟩ := btw_int c3
  have e2 : j = ((j.toNat : Nat) : Int) := by omega
  exact ⟨rfl, rfl, a, i.toNat, j.toNat, by rw [← e, ← e2]; rfl, hl a rfl, h6 j.toNat (by rw [← e2]) (by omega) (by omega)⟩
theorem ok_read_grade (h : sp_read3 K "BadGrade" 0 7 gradeR vs H Q E) : vs.length = 3 ∧ t_read_grade K cells acts T pt (Ww E) (Dd Q) (L2.start ["bits", "at", "grade"] vs) H := by
  obtain ⟨x, y, z, rfl, hx, hy, hz, hl, h1, h2⟩ := h
  refine ⟨rfl, ?_⟩
  rw [show L2.start ["bits", "at", "grade"] [x, y, z] = [some x, some y, some z] from rfl]
  unfold t_read_grade
  simp only [tSeq, tWhile, tAnd, tOr, tNot, tTest, tTru, tOp, tUn, tVar, tC, tLst, tTup, tNil, tAsg, tBM, tBM0, tCons, gSub, tIfS, tCB, gName, tRet, tRetN, tNext, tIf, tFn, tDrop, tRaise0, tAndT, tOrT, tNotT, tChain, tAug, tPar, tPar3, for_go, lc_go, iRng1, iRng2, iSeq, tSl, tPart, tNoPart, tRaiseA, tAttr, List.getElem?_cons_zero, List.getElem?_cons_succ, List.set_cons_zero, List.set_cons_succ, Option.some.injEq, exists_eq_left']
  refine ⟨rfl, rfl, x, rfl, hx, fun a e => Nat.le_trans (hl a e) (by decide), fun c => ?_, h1⟩
  obtain ⟨a, rfl, hb⟩ := isBits_in c
  obtain ⟨h3, h4⟩ := h2 a rfl hb
  refine ⟨rfl, rfl, a, y, rfl, hl a rfl, hy, fun c2 => ?_, h3⟩
  obtain ⟨i, rfl, b0, b1⟩ := btw_int c2
  have e : i = ((i.toNat : Nat) : Int) := by omega
  obtain ⟨h5, h6⟩ := h4 i.toNat (by rw [← e]) (by omega)
  refine ⟨rfl, rfl, z, rfl, hz, fun c3 => ?_, h5⟩
  obtain ⟨j, rfl, d0, d1⟩ := btw_int c3
  have e2 : j = ((j.toNat : Nat) : Int) := by omega
  exact ⟨rfl, rfl, a, i.toNat, j.toNat, by rw [← e, ← e2]; rfl, hl a rfl, hb, by omega, h6 j.toNat (by rw [← e2]) (by omega) (by omega)⟩
end
end Pk

set_option Elab.async false
set_option linter.all false
set_option maxRecDepth 100000
set_option maxHeartbeats 8000000
namespace Pk
open PySem PySem.Spec PyProof.Rows L2 LamX G
/-! ### what many laws say: their promises, their readings -/
structure Ck (K : PySem.W.Frag) (C : Str) : Prop where
  exm : PySem.W.exmOne K (bad K C) (.ref (He.ga K "ReelError")) = some true
  ex : ExcC K (He.ga K C)
  one : PySem.W.kitOne K (bad K C) (bad K C) = some true
def sp_two : SpD := fun vs H Q _ => ∃ k, vs = [.int k] ∧ 0 ≤ k ∧ k ≤ 60 ∧ Q (.int (2 ^ k.toNat)) H
def sp_graded : SpD := fun vs H Q _ => ∃ i g, vs = [.int i, .int g] ∧ -32768 < i ∧ i < 32768 ∧ 0 ≤ g ∧ g ≤ 7 ∧ Q (.str (gradeW i g)) H
theorem pow_le {j k : Nat} (h : j ≤ k) : (2 : Int) ^ j ≤ 2 ^ k := by
  have z := Nat.pow_le_pow_right (show 0 < 2 by decide) h
  have e : ∀ n : Nat, ((2 ^ n : Nat) : Int) = (2 : Int) ^ n := fun n => by rw [Int.natCast_pow]; rfl
  rw [← e, ← e]
  exact Int.ofNat_le.mpr z
theorem small {n : Nat} (h : Nat.ble n 100 = true) : n ≤ sizeLine := by
  have z := Nat.le_of_ble_eq_true h
  rw [sizeLine_eq]
  omega
section
variable {K : PySem.W.Frag} {vs : List V} {H : Hp} {Q : VK} {E : XK} {W : WX} {ac : L2.St → Hp → Acts} {n0 n1 n2 n3 n4 : Str}
def rdTwo (K : PySem.W.Frag) : TS :=
  (tSeq (tAsg (tC (.int 1)) (gName 1))
  (tSeq (tFor (iRng1 (tCons (tVar 0) tNil)) (gName 2)
  (tAsg (tOp (G.rBin K .Mult) (tVar 1) (tC (.int 2))) (gName 1)))
  (tRet (tVar 1))))
theorem ok_two (h : sp_two vs H Q E) : vs.length = 1 ∧ rdTwo K (Dd Q) (L2.start [n0, n1, n2] vs) H := by
  obtain ⟨k, rfl, h0, h1, q⟩ := h
  refine ⟨rfl, ?_⟩
  rw [show L2.start [n0, n1, n2] [V.int k] = [some (.int k), none, none] from rfl]
  unfold rdTwo
  simp only [tSeq, tWhile, tAnd, tOr, tNot, tTest, tTru, tOp, tUn, tVar, tC, tLst, tTup, tNil, tAsg, tBM, tBM0, tCons, gSub, tIfS, tCB, gName, tRet, tRetN, tNext, tIf, tFn, tDrop, tRaise0, tAndT, tOrT, tNotT, tChain, tAug, tPar, tPar3, for_go, lc_go, iRng1, iRng2, iSeq, tSl, tPart, tNoPart, tRaiseA, tAttr, List.getElem?_cons_zero, List.getElem?_cons_succ, List.set_cons_zero, List.set_cons_succ, Option.some.injEq, exists_eq_left']
  refine ⟨k, rfl, by omega, by omega, ?_⟩
  refine go_rng (fun m σ H' => H' = H ∧ ∃ tn : Option V, σ = [some (.int k), some (.int (2 ^ m)), tn]) ⟨rfl, none, rfl⟩ ?_ ?_
  · rintro m σ H' hm ⟨rfl, tn, rfl⟩
    simp only [tSeq, tWhile, tAnd, tOr, tNot, tTest, tTru, tOp, tUn, tVar, tC, tLst, tTup, tNil, tAsg, tBM, tBM0, tCons, gSub, tIfS, tCB, gName, tRet, tRetN, tNext, tIf, tFn, tDrop, tRaise0, tAndT, tOrT, tNotT, tChain, tAug, tPar, tPar3, for_go, lc_go, iRng1, iRng2, iSeq, tSl, tPart, tNoPart, tRaiseA, tAttr, List.getElem?_cons_zero, List.getElem?_cons_succ, List.set_cons_zero, List.set_cons_succ, Option.some.injEq, exists_eq_left']
    refine ⟨.inl (.inr ⟨by decide, by decide⟩), rfl, _, by rw [Int.pow_succ]⟩
  · rintro σ H' ⟨rfl, tn, rfl⟩
    simp only [tSeq, tWhile, tAnd, tOr, tNot, tTest, tTru, tOp, tUn, tVar, tC, tLst, tTup, tNil, tAsg, tBM, tBM0, tCons, gSub, tIfS, tCB, gName, tRet, tRetN, tNext, tIf, tFn, tDrop, tRaise0, tAndT, tOrT, tNotT, tChain, tAug, tPar, tPar3, for_go, lc_go, iRng1, iRng2, iSeq, tSl, tPart, tNoPart, tRaiseA, tAttr, List.getElem?_cons_zero, List.getElem?_cons_succ, List.set_cons_zero, List.set_cons_succ, Option.some.injEq, exists_eq_left']
    exact q
def rdFold (K : PySem.W.Frag) : TS :=
  (tRet (tIf (tTest (tOp (G.rCmp K .Gt) (tVar 0) (tC (.int 0)))) (tOp (G.rBin K .Sub) (tOp (G.rBin K .Mult) (tC (.int 2)) (tVar 0)) (tC (.int 1))) (tOp (G.rBin K .Sub) (tC (.int 0)) (tOp (G.rBin K .Mult) (tC (.int 2)) (tVar 0)))))
theorem ok_lfold (h : sp_fold vs H Q E) : vs.length = 1 ∧ rdFold K (Dd Q) (L2.start [n0] vs) H := by
  obtain ⟨i, rfl, h1, h2, q⟩ := h
  refine ⟨rfl, ?_⟩
  rw [show L2.start [n0] [V.int i] = [some (.int i)] from rfl]
  unfold rdFold
  simp only [tSeq, tWhile, tAnd, tOr, tNot, tTest, tTru, tOp, tUn, tVar, tC, tLst, tTup, tNil, tAsg, tBM, tBM0, tCons, gSub, tIfS, tCB, gName, tRet, tRetN, tNext, tIf, tFn, tDrop, tRaise0, tAndT, tOrT, tNotT, tChain, tAug, tPar, tPar3, for_go, lc_go, iRng1, iRng2, iSeq, tSl, tPart, tNoPart, tRaiseA, tAttr, List.getElem?_cons_zero, List.getElem?_cons_succ, List.set_cons_zero, List.set_cons_succ, Option.some.injEq, exists_eq_left']
  refine gt_int ⟨_, rfl, ?_⟩
  unfold foldZ at q
  by_cases c : 0 < i
  · rw [if_pos (decide_eq_true c)]
    rw [if_pos c] at q
    exact mul_int (K := K) (by decide) (by decide) (G.sub_int (K := K) q)
  · rw [if_neg (by simpa using c)]
    rw [if_neg c] at q
    refine mul_int (K := K) (by decide) (by decide) (G.sub_int (K := K) ?_)
    have e : (0 : Int) - 2 * i = -2 * i := by omega
    rw [e]
    exact q
def rdTwos (K : PySem.W.Frag) : TS :=
  (tSeq (tAsg (tC (.str "")) (gName 2))
  (tSeq (tFor (iRng1 (tCons (tVar 1) tNil)) (gName 3)
  (tSeq (tAsg (tOp (G.rBin K .Add) (tCB G.rStr1 (tCons (tOp (G.rBin K .Mod) (tCB G.rInt1 (tCons (tVar 0) tNil)) (tC (.int 2))) tNil)) (tVar 2)) (gName 2))
  (tAsg (tOp (G.rBin K .FloorDiv) (tVar 0) (tC (.int 2))) (gName 0))))
  (tRet (tVar 2))))
theorem ok_ltwos (h : sp_in_twos vs H Q E) : vs.length = 2 ∧ rdTwos K (Dd Q) (L2.start [n0, n1, n2, n3] vs) H := by
  obtain ⟨i, k, rfl, h0, h1, q⟩ := h
  refine ⟨rfl, ?_⟩
  rw [show L2.start [n0, n1, n2, n3] [V.int i, V.int k] = [some (.int i), some (.int k), none, none] from rfl]
  unfold rdTwos
  simp only [tSeq, tWhile, tAnd, tOr, tNot, tTest, tTru, tOp, tUn, tVar, tC, tLst, tTup, tNil, tAsg, tBM, tBM0, tCons, gSub, tIfS, tCB, gName, tRet, tRetN, tNext, tIf, tFn, tDrop, tRaise0, tAndT, tOrT, tNotT, tChain, tAug, tPar, tPar3, for_go, lc_go, iRng1, iRng2, iSeq, tSl, tPart, tNoPart, tRaiseA, tAttr, List.getElem?_cons_zero, List.getElem?_cons_succ, List.set_cons_zero, List.set_cons_succ, Option.some.injEq, exists_eq_left']
  refine ⟨k, rfl, by omega, by omega, ?_⟩
  refine go_rng (fun m σ H' => H' = H ∧ ∃ (a : Int) (acc : Str) (tn : Option V), σ = [some (.int a), some (.int k), some (.str acc), tn] ∧ acc.length = m ∧ tw (k.toNat - m) a acc = tw k.toNat i "") ⟨rfl, i, "", none, rfl, len_e, rfl⟩ ?_ ?_
  · rintro m σ H' hm ⟨rfl, a, acc, tn, rfl, hl, ht⟩
    simp only [tSeq, tWhile, tAnd, tOr, tNot, tTest, tTru, tOp, tUn, tVar, tC, tLst, tTup, tNil, tAsg, tBM, tBM0, tCons, gSub, tIfS, tCB, gName, tRet, tRetN, tNext, tIf, tFn, tDrop, tRaise0, tAndT, tOrT, tNotT, tChain, tAug, tPar, tPar3, for_go, lc_go, iRng1, iRng2, iSeq, tSl, tPart, tNoPart, tRaiseA, tAttr, List.getElem?_cons_zero, List.getElem?_cons_succ, List.set_cons_zero, List.set_cons_succ, Option.some.injEq, exists_eq_left']
    refine int_1 (mod_int (by decide) (str_dig (add_str (by rw [dig_len]; omega) (div_int (by decide) (by decide) ⟨rfl, a / 2, dig a ++ acc, _, rfl, by rw [strLen_append, dig_len]; omega, ?_⟩))))
    rw [← ht]
    have e : k.toNat - m = (k.toNat - (m + 1)) + 1 := by omega
    rw [e]
    rfl
  · rintro σ H' ⟨rfl, a, acc, tn, rfl, hl, ht⟩
    simp only [tSeq, tWhile, tAnd, tOr, tNot, tTest, tTru, tOp, tUn, tVar, tC, tLst, tTup, tNil, tAsg, tBM, tBM0, tCons, gSub, tIfS, tCB, gName, tRet, tRetN, tNext, tIf, tFn, tDrop, tRaise0, tAndT, tOrT, tNotT, tChain, tAug, tPar, tPar3, for_go, lc_go, iRng1, iRng2, iSeq, tSl, tPart, tNoPart, tRaiseA, tAttr, List.getElem?_cons_zero, List.getElem?_cons_succ, List.set_cons_zero, List.set_cons_succ, Option.some.injEq, exists_eq_left']
    rw [Nat.sub_self] at ht
    rw [← ht] at q
    exact q
def rdLong (K : PySem.W.Frag) (ac : L2.St → Hp → Acts) (W : WX) : TS :=
  (tSeq (tPar 1 2 (tCons (tOp (G.rBin K .Add) (tFn (sh sp_fold [0]) ac W (tCons (tVar 0) tNil) tNil 1 0) (tC (.int 1))) (tCons (tC (.str "")) tNil)))
  (tSeq (tWhile (tTest (tOp (G.rCmp K .Gt) (tVar 1) (tC (.int 1))))
  (tSeq (tAsg (tOp (G.rBin K .Add) (tCB G.rStr1 (tCons (tOp (G.rBin K .Mod) (tCB G.rInt1 (tCons (tVar 1) tNil)) (tC (.int 2))) tNil)) (tVar 2)) (gName 2))
  (tAsg (tOp (G.rBin K .FloorDiv) (tVar 1) (tC (.int 2))) (gName 1))))
  (tRet (tOp (G.rBin K .Add) (tOp (G.rBin K .Add) (tOp (G.rBin K .Mult) (tC (.str "1")) (tCB (G.rLen K) (tCons (tVar 2) tNil))) (tC (.str "0"))) (tVar 2)))))
theorem ok_llong (h : sp_long_word vs H Q E) : vs.length = 1 ∧ rdLong K ac W (Dd Q) (L2.start [n0, n1, n2] vs) H := by
  obtain ⟨i, rfl, h1, h2, q⟩ := h
  refine ⟨rfl, ?_⟩
  rw [show L2.start [n0, n1, n2] [V.int i] = [some (.int i), none, none] from rfl]
  unfold rdLong
  simp only [tSeq, tWhile, tAnd, tOr, tNot, tTest, tTru, tOp, tUn, tVar, tC, tLst, tTup, tNil, tAsg, tBM, tBM0, tCons, gSub, tIfS, tCB, gName, tRet, tRetN, tNext, tIf, tFn, tDrop, tRaise0, tAndT, tOrT, tNotT, tChain, tAug, tPar, tPar3, for_go, lc_go, iRng1, iRng2, iSeq, tSl, tPart, tNoPart, tRaiseA, tAttr, List.getElem?_cons_zero, List.getElem?_cons_succ, List.set_cons_zero, List.set_cons_succ, Option.some.injEq, exists_eq_left']
  obtain ⟨b1, b2⟩ := foldZ_bounds h1 h2
  refine ⟨rfl, rfl, i, rfl, by omega, by omega, G.add_int ⟨_, _, rfl, ?_⟩⟩
  have tp : 0 < foldZ i + 1 := by omega
  have L : many i ≤ 16 := log_small tp (by omega)
  refine ⟨fun m σ H' => H' = H ∧ ∃ j : Nat, σ = [some (.int i), some (.int ((foldZ i + 1) / 2 ^ j)), some (.str (tw j (foldZ i + 1) ""))] ∧ j + m = many i, ⟨many i, rfl, 0, by rw [Int.pow_zero, Int.ediv_one]; rfl, by omega⟩, ?_⟩
  rintro m σ H' ⟨rfl, j, rfl, hj⟩
  simp only [tSeq, tWhile, tAnd, tOr, tNot, tTest, tTru, tOp, tUn, tVar, tC, tLst, tTup, tNil, tAsg, tBM, tBM0, tCons, gSub, tIfS, tCB, gName, tRet, tRetN, tNext, tIf, tFn, tDrop, tRaise0, tAndT, tOrT, tNotT, tChain, tAug, tPar, tPar3, for_go, lc_go, iRng1, iRng2, iSeq, tSl, tPart, tNoPart, tRaiseA, tAttr, List.getElem?_cons_zero, List.getElem?_cons_succ, List.set_cons_zero, List.set_cons_succ, Option.some.injEq, exists_eq_left']
  refine gt_int ⟨_, rfl, ?_⟩
  have p0 : (0 : Int) < 2 ^ j := Int.pow_pos (by decide)
  by_cases c : 1 < (foldZ i + 1) / 2 ^ j
  · rw [if_pos (decide_eq_true c)]
    have c2 : (2 : Int) ^ (j + 1) ≤ foldZ i + 1 := by
      have z : 2 * 2 ^ j ≤ foldZ i + 1 := (Int.le_ediv_iff_mul_le p0).mp c
      rw [Int.pow_succ, Int.mul_comm]
      exact z
    have c3 := (log_le tp).mpr c2
    refine ⟨fun σ H' => H' = _ ∧ σ = [some (.int i), some (.int ((foldZ i + 1) / 2 ^ (j + 1))), some (.str (tw (j + 1) (foldZ i + 1) ""))], fun σ' H2 ⟨e1, e2⟩ => ⟨m - 1, by unfold many at hj; omega, e1, j + 1, e2, by unfold many at hj ⊢; omega⟩, ?_⟩
    refine int_1 (mod_int (by decide) (str_dig (add_str (by rw [dig_len, tw_len, len_e]; omega) (div_int (by decide) (by decide) ⟨rfl, ?_⟩))))
    rw [tw_step _ _ _ (by omega), Int.ediv_ediv_of_nonneg (Int.le_of_lt p0), Int.pow_succ]
  · rw [if_neg (by simpa using c)]
    have ej : j = many i := by
      have z : ¬ (j + 1 ≤ many i) := fun z => c (by
        have z2 := (log_le tp).mp z
        rw [Int.pow_succ, Int.mul_comm] at z2
        exact (Int.le_ediv_iff_mul_le p0).mpr z2)
      omega
    subst ej
    have l1 : (tw (many i) (foldZ i + 1) "").length = many i := by rw [tw_len, len_e, Nat.add_zero]
    have sl : sizeLine = 16777216 := sizeLine_eq
    refine .inl ⟨_, many i, rfl, ⟨by omega, l1.symm⟩, mul_ones (by omega) (add_str (by rw [ones_len, len_0]; omega) (add_str ?_ q))⟩
    rw [strLen_append, ones_len, len_0, l1]
    omega
def rdGraded (K : PySem.W.Frag) (ac : L2.St → Hp → Acts) (W : WX) : TS :=
  (tSeq (tAsg (tFn (sh sp_fold [0]) ac W (tCons (tVar 0) tNil) tNil 1 0) (gName 2))
  (tSeq (tAsg (tOp (G.rBin K .FloorDiv) (tVar 2) (tFn (sh sp_two [0]) ac W (tCons (tVar 1) tNil) tNil 1 0)) (gName 3))
  (tSeq (tIfS (tTest (tOp (G.rCmp K .Lt) (tVar 3) (tC (.int 12))))
  (tRet (tOp (G.rBin K .Add) (tOp (G.rBin K .Add) (tOp (G.rBin K .Mult) (tC (.str "1")) (tVar 3)) (tC (.str "0"))) (tFn (sh sp_in_twos [0, 1]) ac W (tCons (tOp (G.rBin K .Mod) (tCB G.rInt1 (tCons (tVar 2) tNil)) (tFn (sh sp_two [0]) ac W (tCons (tVar 1) tNil) tNil 1 0)) (tCons (tVar 1) tNil)) tNil 2 0)))
  tNext)
  (tRet (tOp (G.rBin K .Add) (tOp (G.rBin K .Mult) (tC (.str "1")) (tC (.int 12))) (tFn (sh sp_in_twos [0, 1]) ac W (tCons (tVar 2) (tCons (tC (.int 16)) tNil)) tNil 2 0))))))
theorem ok_lgraded (h : sp_graded vs H Q E) : vs.length = 2 ∧ rdGraded K ac W (Dd Q) (L2.start [n0, n1, n2, n3] vs) H := by
  obtain ⟨i, g, rfl, h1, h2, g0, g1, q⟩ := h
  refine ⟨rfl, ?_⟩
  rw [show L2.start [n0, n1, n2, n3] [V.int i, V.int g] = [some (.int i), some (.int g), none, none] from rfl]
  unfold rdGraded
  simp only [tSeq, tWhile, tAnd, tOr, tNot, tTest, tTru, tOp, tUn, tVar, tC, tLst, tTup, tNil, tAsg, tBM, tBM0, tCons, gSub, tIfS, tCB, gName, tRet, tRetN, tNext, tIf, tFn, tDrop, tRaise0, tAndT, tOrT, tNotT, tChain, tAug, tPar, tPar3, for_go, lc_go, iRng1, iRng2, iSeq, tSl, tPart, tNoPart, tRaiseA, tAttr, List.getElem?_cons_zero, List.getElem?_cons_succ, List.set_cons_zero, List.set_cons_succ, Option.some.injEq, exists_eq_left']
  obtain ⟨b1, b2⟩ := foldZ_bounds h1 h2
  have p0 : (0 : Int) < 2 ^ g.toNat := Int.pow_pos (by decide)
  have p1 : (2 : Int) ^ g.toNat < 1073741824 := by
    have z : (2 : Int) ^ g.toNat ≤ 2 ^ 7 := pow_le (by omega)
    exact Int.lt_of_le_of_lt z (by decide)
  have o0 : 0 ≤ foldZ i / 2 ^ g.toNat := Int.ediv_nonneg b1 (Int.le_of_lt p0)
  refine ⟨rfl, rfl, i, rfl, by omega, by omega, ⟨rfl, rfl, g, rfl, g0, by omega, div_int p0 p1 (lt_int ⟨_, rfl, ?_⟩)⟩⟩
  unfold gradeW at q
  by_cases c : foldZ i / 2 ^ g.toNat < 12
  · rw [if_pos (decide_eq_true c)]
    rw [if_pos c] at q
    obtain ⟨n, hn⟩ : ∃ n : Nat, foldZ i / 2 ^ g.toNat = n := ⟨_, (Int.toNat_of_nonneg o0).symm⟩
    rw [hn] at q c ⊢
    refine mul_ones (by omega) (add_str (by rw [ones_len, len_0]; omega) ?_)
    refine int_1 ⟨rfl, rfl, g, rfl, g0, by omega, mod_int p0 ⟨rfl, rfl, _, _, rfl, by omega, by omega, ?_⟩⟩
    rw [Int.toNat_natCast] at q
    refine add_str ?_ q
    rw [strLen_append, ones_len, len_0, tw_len, len_e]
    omega
  · rw [if_neg (by simpa using c)]
    rw [if_neg c] at q
    refine mul_ones (n := 12) (by omega) ⟨rfl, rfl, _, 16, rfl, by omega, by omega, ?_⟩
    refine add_str ?_ q
    rw [ones_len, tw_len, len_e]
    show 12 + (16 + 0) ≤ _
    decide
end
/-! ### what repr prints of flat values -/
def toV : PyData → V
  | .int i => .int i
  | .str x => .str x
  | .bool b => .bl b
  | _ => .non
def PlD (d : PyData) : Prop := (∃ i : Int, d = .int i ∧ i.natAbs < 10 ^ 15) ∨ (∃ x : Str, d = .str x ∧ BitS x ∧ x.length ≤ 1000) ∨ d = .none ∨ ∃ b, d = .bool b
theorem pl_one {K : PySem.W.Frag} {H : Hp} {d : PyData} (h : PlD d) : Dp K H (toV d) d ∧ d.showable = true ∧ d.hasDict = false ∧ d.depth = 0 ∧ d.shown.length ≤ 10002 := by
  rcases h with ⟨i, rfl, hi⟩ | ⟨x, rfl, hx, hl⟩ | rfl | ⟨b, rfl⟩
  · refine ⟨.int i, ?_, rfl, rfl, ?_⟩
    · show decide (i.natAbs.log2 < 1920) = true
      refine decide_eq_true ?_
      by_cases z : i.natAbs = 0
      · rw [z]
        decide
      · rw [Nat.log2_lt z]
        exact Nat.lt_of_lt_of_le (Nat.lt_trans hi (show 10 ^ 15 < 2 ^ 50 by decide)) (Nat.pow_le_pow_right (by decide) (by decide))
    · have z := int_shown_le (i := i) (by omega)
      show (Str.ofString (toString i)).length ≤ 10002
      omega
  · refine ⟨.str x, rfl, rfl, rfl, ?_⟩
    have z := bit_shown_le hx
    show (reprText x).length ≤ 10002
    omega
  · exact ⟨.non, rfl, rfl, rfl, by decide +kernel⟩
  · exact ⟨.bl b, rfl, rfl, rfl, by cases b <;> decide +kernel⟩
theorem pl_all {K : PySem.W.Frag} {H : Hp} : ∀ {ds : List PyData}, (∀ d ∈ ds, PlD d) → DpAll K H (ds.map toV) ds ∧ PyData.showableAll ds = true ∧ PyData.hasDictAll ds = false ∧ PyData.depthAll ds = 0 ∧ piled (PyData.shownAll ds) ≤ ds.length * 11000
  | [], _ => ⟨.nil, rfl, rfl, rfl, Nat.le_refl _⟩
  | d :: ds, h => by
    obtain ⟨a1, a2, a3, a4, a5⟩ := pl_all (K := K) (H := H) (ds := ds) fun e he => h e (List.mem_cons_of_mem _ he)
    obtain ⟨k1, k2, k3, k4, k5⟩ := pl_one (K := K) (H := H) (h d List.mem_cons_self)
    refine ⟨.cons k1 a1, ?_, ?_, ?_, ?_⟩
    · show (d.showable && PyData.showableAll ds) = true
      rw [k2, a2]
      rfl
    · show (d.hasDict || PyData.hasDictAll ds) = false
      rw [k3, a3]
      rfl
    · show max d.depth (PyData.depthAll ds) = 0
      rw [k4, a4]
      rfl
    · show d.shown.length + 2 + piled (PyData.shownAll ds) ≤ (ds.length + 1) * 11000
      omega
theorem repr_lst {K : PySem.W.Frag} {H : Hp} {p : Addr} {Q : VK} (ds : List PyData) (h : SqL K H p (ds.map toV)) (hp : ∀ d ∈ ds, PlD d) (hl : ds.length ≤ 100) (q : Q (.str (PyData.list ds).shown) H) : G.rRepr K [.ref p] H Q := by
  obtain ⟨a1, a2, a3, a4, a5⟩ := pl_all (K := K) (H := H) hp
  refine .inl ⟨.ref p, .list ds, rfl, .lst h a1, a2, a3, ?_, ?_, ⟨p, rfl⟩, q⟩
  · show PyData.depthAll ds + 1 ≤ 30
    rw [a4]
    decide
  · show (listText (PyData.shownAll ds)).length ≤ sizeLine
    have z := listText_le (PyData.shownAll ds)
    rw [sizeLine_eq]
    omega
theorem tupText_le (ts : List Str) : (PySem.tupleText ts).length ≤ piled ts + 3 := by
  have h := PySem.tupleText_len_le ts
  have e : ∀ ts : List Str, piled ts = (ts.map (·.length)).sum + 2 * ts.length := fun ts => by
    induction ts with
    | nil => rfl
    | cons t r ih =>
      show t.length + 2 + piled r = _
      rw [ih, List.map_cons, List.sum_cons, List.length_cons]
      omega
  rw [e]
  exact h
theorem repr_tup {K : PySem.W.Frag} {H : Hp} {p : Addr} {Q : VK} (ds : List PyData) (h : SqT K H p (ds.map toV)) (hp : ∀ d ∈ ds, PlD d) (hl : ds.length ≤ 100) (q : Q (.str (PyData.tuple ds).shown) H) : G.rRepr K [.ref p] H Q := by
  obtain ⟨a1, a2, a3, a4, a5⟩ := pl_all (K := K) (H := H) hp
  refine .inl ⟨.ref p, .tuple ds, rfl, .tup h a1, a2, a3, ?_, ?_, ⟨p, rfl⟩, q⟩
  · show PyData.depthAll ds + 1 ≤ 30
    rw [a4]
    decide
  · show (PySem.tupleText (PyData.shownAll ds)).length ≤ sizeLine
    have z := tupText_le (PyData.shownAll ds)
    rw [sizeLine_eq]
    omega
theorem pl_int {i : Int} (h0 : -1000000 ≤ i) (h1 : i ≤ 1000000) : PlD (.int i) := .inl ⟨i, rfl, by omega⟩
theorem pl_str {x : Str} (h : BitS x) (l : x.length ≤ 1000) : PlD (.str x) := .inr (.inl ⟨x, rfl, h, l⟩)
/-! ### joined signs -/
theorem glue_cps : ∀ (ys : List Str) (acc : Array Nat), (ys.foldl (fun acc p => acc ++ (("" : Str)).cps ++ p.cps) acc).toList = acc.toList ++ (ys.map fun y => y.cps.toList).flatten
  | [], acc => by simp
  | y :: ys, acc => by
    have e0 : (("" : Str)).cps = #[] := by decide +kernel
    rw [List.foldl_cons, glue_cps ys, List.map_cons, List.flatten_cons, e0]
    simp
theorem join_cps (ys : List Str) : (Txt.join "" ys).cps.toList = (ys.map fun y => y.cps.toList).flatten := by
  unfold Txt.join Builtin.Str.glued
  cases ys with
  | nil => rfl
  | cons y ys =>
    show (ys.foldl (fun acc p => acc ++ (("" : Str)).cps ++ p.cps) y.cps).toList = _
    rw [glue_cps]
    rfl
theorem join_bit {ys : List Str} (h : ∀ y ∈ ys, y = "0" ∨ y = "1") : BitS (Txt.join "" ys) := fun c hc => by
  rw [join_cps] at hc
  obtain ⟨l, hl, hc⟩ := List.mem_flatten.mp hc
  obtain ⟨y, hy, rfl⟩ := List.mem_map.mp hl
  rcases h y hy with rfl | rfl
  · exact bits_0 c hc
  · exact bits_1 c hc
theorem join_len : ∀ {ys : List Str}, (∀ y ∈ ys, y = "0" ∨ y = "1") → (Txt.join "" ys).length = ys.length := fun {ys} h => by
  rw [← len_cps, join_cps]
  induction ys with
  | nil => rfl
  | cons y ys ih =>
    rw [List.map_cons, List.flatten_cons, List.length_append, ih fun z hz => h z (List.mem_cons_of_mem _ hz), len_cps, List.length_cons]
    rcases h y List.mem_cons_self with e | e
    · rw [e, len_0]
      omega
    · rw [e, len_1]
      omega
theorem sum_len : ∀ {ys : List Str}, (∀ y ∈ ys, y = "0" ∨ y = "1") → (ys.map (·.length)).sum = ys.length
  | [], _ => rfl
  | y :: ys, h => by
    rw [List.map_cons, List.sum_cons, sum_len fun z hz => h z (List.mem_cons_of_mem _ hz), List.length_cons]
    rcases h y List.mem_cons_self with e | e
    · rw [e, len_0]
      omega
    · rw [e, len_1]
      omega
theorem isBits_of {x : Str} (h : BitS x) : isBits (.str x) = true := by
  refine decide_eq_true (strip_all fun c hc => ?_)
  rcases h c hc with e | e <;> rw [e] <;> decide +kernel
theorem cut_bit {z : Str} (h : BitS z) (lo hi : Option Int) : BitS (cutS z lo hi) := fun c hc => by
  unfold cutS at hc
  exact h c (List.mem_of_mem_drop (List.mem_of_mem_take hc))
theorem many_le {i : Int} (h1 : -32768 < i) (h2 : i < 32768) : many i ≤ 16 := by
  obtain ⟨b1, b2⟩ := foldZ_bounds h1 h2
  exact log_small (by omega) (by omega)
theorem longW_bit (i : Int) : BitS (longW i) := ((ones_bit _).app bits_0).app (tw_bit _ _ _ bits_e)
theorem longW_len (i : Int) : (longW i).length = 2 * many i + 1 := by
  unfold longW
  rw [strLen_append, strLen_append, ones_len, len_0, tw_len, len_e]
  omega
theorem gradeW_bit (i g : Int) : BitS (gradeW i g) := by
  unfold gradeW
  split
  · exact ((ones_bit _).app bits_0).app (tw_bit _ _ _ bits_e)
  · exact (ones_bit _).app (tw_bit _ _ _ bits_e)
theorem gradeW_len (i g : Int) : (gradeW i g).length = if foldZ i / 2 ^ g.toNat < 12 then (foldZ i / 2 ^ g.toNat).toNat + 1 + g.toNat else 28 := by
  unfold gradeW
  split
  · rw [strLen_append, strLen_append, ones_len, len_0, tw_len, len_e]
    omega
  · rw [strLen_append, ones_len, tw_len, len_e]
theorem grade_28 {i g : Int} (g0 : 0 ≤ g) (g1 : g ≤ 7) (h0 : 0 ≤ foldZ i) : (gradeW i g).length ≤ 28 := by
  rw [gradeW_len]
  have p0 : (0 : Int) < 2 ^ g.toNat := Int.pow_pos (by decide)
  have z0 : 0 ≤ foldZ i / 2 ^ g.toNat := Int.ediv_nonneg h0 (Int.le_of_lt p0)
  split <;> omega
/-! ### the state through a row of steps -/
structure Rf (T : List (Addr × Str)) (st La Ca : Addr) (H0 H : Hp) (t : Int) : Prop where
  d : Drw st La Ca H t
  T : Tabs T H
  n : DrN st La H0 H
structure NewL (st La Ca : Addr) (H0 : Hp) (l : Addr) : Prop where
  n1 : l ≠ st
  n2 : l ≠ La
  n3 : l ≠ Ca
  n0 : ∀ o, H0 l = some o → (∀ ps, o ≠ .tbl ps) → False
section
variable {T : List (Addr × Str)} {st La Ca : Addr} {K : PySem.W.Frag} {H0 H H1 : Hp} {t u : Int} {x : V}
theorem Rf.new {p : Addr} {o : HO} (r : Rf T st La Ca H0 H t) (h : H p = none) : Rf T st La Ca H0 (upd H p o) t := ⟨r.d.new h, tabs_new r.T h, r.n.new h⟩
theorem Rf.dr (r : Rf T st La Ca H0 H t) (d : Drw st La Ca H1 u) (f : Dr st La H H1) : Rf T st La Ca H0 H1 u := ⟨d, tabs_dr r.T r.d f, r.n.trans f.n⟩
theorem Rf.lam (r : Rf T st La Ca H0 H t) (f : ExtN H H1) (T1 : Tabs T H1) : Rf T st La Ca H0 H1 t := ⟨r.d.ext f, T1, r.n.trans (ext_n f)⟩
theorem Rf.mono (r : Rf T st La Ca H0 H t) (h : t ≤ u) : Rf T st La Ca H0 H u := ⟨r.d.mono h, r.T, r.n⟩
theorem Rf.fresh (r : Rf T st La Ca H0 H t) : Rf T st La Ca H H t := ⟨r.d, r.T, DrN.refl _ _ _⟩
theorem Rf.trans (r : Rf T st La Ca H0 H t) (r2 : Rf T st La Ca H H1 u) : Rf T st La Ca H0 H1 u := ⟨r2.d, r2.T, r.n.trans r2.n⟩
theorem Rf.newL {l : Addr} (r : Rf T st La Ca H0 H t) (h : H l = none) : NewL st La Ca H0 l := by
  obtain ⟨cs, ls, u, v, z, _⟩ := r.d
  have n1 : l ≠ st := fun e => by rw [e, z.st] at h; cases h
  have n2 : l ≠ La := fun e => by rw [e, z.la] at h; cases h
  have n3 : l ≠ Ca := fun e => by rw [e, z.ca] at h; cases h
  refine ⟨n1, n2, n3, fun o e k => ?_⟩
  rw [r.n _ _ e n1 n2 k] at h
  cases h
theorem Rf.put {l : Addr} {o o' : HO} (r : Rf T st La Ca H0 H t) (N : NewL st La Ca H0 l) (h : H l = some o) (ht : ∀ ps, o ≠ .tbl ps) (hx : ∀ φ, o ≠ .ext φ) : Rf T st La Ca H0 (upd H l o') t := by
  obtain ⟨cs, ls, u, v, z, hu⟩ := r.d
  refine ⟨⟨cs, ls, u, v, { z with st := by rw [upd_ne (Ne.symm N.n1)]; exact z.st, la := by rw [upd_ne (Ne.symm N.n2)]; exact z.la, ca := by rw [upd_ne (Ne.symm N.n3)]; exact z.ca }, hu⟩, fun q hq => ?_, fun b w e m1 m2 k => ?_⟩
  · obtain ⟨ps, h1, h2, h3⟩ := r.T q hq
    refine ⟨ps, by rw [upd_ne (fun e => by rw [e, h] at h1; exact ht ps (Option.some.inj h1))]; exact h1, h2, fun pos cv hc => ?_⟩
    obtain ⟨c, e1, e2⟩ := h3 pos cv hc
    exact ⟨c, e1, by rw [upd_ne (fun e => by rw [e, h] at e2; exact hx _ (Option.some.inj e2))]; exact e2⟩
  · rw [upd_ne (fun e2 => N.n0 w (by rw [← e2]; exact e) k)]
    exact r.n b w e m1 m2 k
theorem Rf.putl {l : Addr} {xs ys : List V} (r : Rf T st La Ca H0 H t) (N : NewL st La Ca H0 l) (h : H l = some (.lst xs)) : Rf T st La Ca H0 (upd H l (.lst ys)) t := r.put N h (fun _ e => nomatch e) (fun _ e => nomatch e)
/-- a value that stays what it is while the state goes on -/
def Od (st La : Addr) (H : Hp) (x : V) : Prop := Kd H x ∧ ∀ a, x = .ref a → a ≠ st ∧ a ≠ La
theorem Od.keep (h : Od st La H x) (n : DrN st La H H1) : Od st La H1 x := by
  refine ⟨?_, h.2⟩
  cases x with
  | ref a =>
    obtain ⟨n1, n2⟩ := h.2 a rfl
    rcases h.1 with ⟨xs, e⟩ | ⟨xs, e⟩ | ⟨xs, e⟩
    · exact .inl ⟨xs, n _ _ e n1 n2 fun _ z => nomatch z⟩
    · exact .inr (.inl ⟨xs, n _ _ e n1 n2 fun _ z => nomatch z⟩)
    · exact .inr (.inr ⟨xs, n _ _ e n1 n2 fun _ z => nomatch z⟩)
  | _ => exact h.1
theorem od_flat (k : Kd H x) (h : ∀ a, x ≠ .ref a) : Od st La H x := ⟨k, fun a e => absurd e (h a)⟩
theorem drn_lst {a : Addr} {xs : List V} (n : DrN st La H H1) (n1 : a ≠ st) (n2 : a ≠ La) (h : H a = some (.lst xs)) : H1 a = some (.lst xs) := n _ _ h n1 n2 fun _ z => nomatch z
theorem drn_ext {a : Addr} {φ : Heap → Prop} (n : DrN st La H H1) (d : Drw st La Ca H t) (h : H a = some (.ext φ)) : H1 a = some (.ext φ) := d.keepX n h
/-! ### errors that were caught -/
theorem err_go {C : Str} {H2 : Hp} {Q1 : VK} {E : XK} (c : Ck K C) (r : Rf T st La Ca H0 H2 t) (go : ∀ a H3, Rf T st La Ca H0 H3 t → DrN st La H2 H3 → H3 a = some (ExT (bad K C) none a) → Q1 (.ref a) H3) : ErrK K Q1 E (bad K C) none H2 :=
  ⟨true, c.exm, fun _ a ha => go a _ (r.new ha) ((DrN.refl _ _ _).new ha) upd_same, fun z => nomatch z⟩
theorem err_god {C : Str} {H2 : Hp} {Q1 : VK} {E : XK} {d : Addr} {fs : List (Str × V)} (c : Ck K C) (r : Rf T st La Ca H0 H2 t) (hd : H2 d = none) (go : ∀ a H3, Rf T st La Ca H0 H3 t → DrN st La H2 H3 → H3 a = some (ExT (bad K C) (some d) a) → H3 d = some (.xd fs) → Q1 (.ref a) H3) :
    ErrK K Q1 E (bad K C) (some d) (upd H2 d (.xd fs)) :=
  ⟨true, c.exm, fun _ a ha => go a _ ((r.new hd).new ha) (((DrN.refl _ _ _).new hd).new ha) upd_same (by
    rw [upd_ne (fun e => by rw [← e, upd_same] at ha; cases ha), upd_same]), fun z => nomatch z⟩
theorem isx_err {C D : Str} {a : Addr} {Q1 : VK} {b : Bool} (c : Ck K C) (h : H a = some (ExT (bad K C) none a)) (k : PySem.W.kitOne K (bad K C) (bad K D) = some b) (q : Q1 (.bl b) H) : G.rIsX K [.ref a, .ref (He.ga K D)] H Q1 :=
  .inr (.inr ⟨a, _, none, _, _, b, rfl, h, (fun _ z => nomatch z), c.ex, .own _, k, q⟩)
theorem isx_errd {C D : Str} {a d : Addr} {fs : List (Str × V)} {Q1 : VK} {b : Bool} (c : Ck K C) (h : H a = some (ExT (bad K C) (some d) a)) (hd : H d = some (.xd fs)) (k : PySem.W.kitOne K (bad K C) (bad K D) = some b) (q : Q1 (.bl b) H) : G.rIsX K [.ref a, .ref (He.ga K D)] H Q1 :=
  .inr (.inr ⟨a, _, some d, _, _, b, rfl, h, (fun _ z => by cases z; exact ⟨fs, hd⟩), c.ex, .own _, k, q⟩)
/-- errors of one class in a list -/
structure Al (K : PySem.W.Frag) (C : Str) (H : Hp) (l : Addr) (es : List Addr) : Prop where
  lst : H l = some (.lst (es.map V.ref))
  es : ∀ a ∈ es, H a = some (ExT (bad K C) none a)
theorem Al.keep {C : Str} {l : Addr} {es : List Addr} (A : Al K C H l es) (d : Drw st La Ca H t) (n1 : l ≠ st) (n2 : l ≠ La) (n : DrN st La H H1) : Al K C H1 l es := ⟨drn_lst n n1 n2 A.lst, fun a ha => d.keepX n (A.es a ha)⟩
theorem Al.add {C : Str} {l a : Addr} {es : List Addr} (A : Al K C H l es) (h : H a = some (ExT (bad K C) none a)) : Al K C (upd H l (.lst (es.map V.ref ++ [V.ref a]))) l (es ++ [a]) := by
  refine ⟨by rw [upd_same, List.map_append]; rfl, fun b hb => ?_⟩
  have z : H b = some (ExT (bad K C) none b) := (List.mem_append.mp hb).elim (A.es b) fun e => by rw [List.mem_singleton.mp e]; exact h
  rw [upd_ne (fun e => by rw [e, A.lst] at z; cases z)]
  exact z
end
/-! ### small rules -/
theorem len_lst {K : PySem.W.Frag} {H : Hp} {a : Addr} {xs : List V} {Q : VK} (h : SqL K H a xs) (q : Q (.int xs.length) H) : G.rLen K [.ref a] H Q := .inl ⟨_, _, rfl, .inl ⟨xs, h, rfl⟩, q⟩
theorem min_int {K : PySem.W.Frag} {H : Hp} {i j : Int} {Q : VK} (q : Q (.int (if j < i then j else i)) H) : G.rMin2 K [.int i, .int j] H Q := q
theorem isnot_bl {K : PySem.W.Frag} {H : Hp} {a b : Bool} {Q : VK} (q : Q (.bl (!decide (a = b))) H) : G.rCmp K .IsNot (.bl a) (.bl b) H Q := q
theorem keep_new {H : Hp} {b p : Addr} {o u : HO} (h : H b = some o) (n : H p = none) : upd H p u b = some o := by
  rw [upd_ne (ne_of_none h n)]
  exact h
theorem k_bits {x : V} {H : Hp} {Q : VK} {E : XK} (k : Kd H x) (l : ∀ a, x = .str a → a.length ≤ 1000000) {b : Bool} (e : isBits x = b) (q : Q (.bl b) H) : sp_is_bits [x] H Q E := ⟨x, rfl, k, l, by rw [e]; exact q⟩
end Pk

set_option Elab.async false
set_option linter.all false
set_option maxRecDepth 100000
set_option maxHeartbeats 8000000
namespace Pk
open PySem PySem.Spec PyProof.Rows L2 LamX G
/-! ### a list in another order -/
theorem dr_over {st La p : Addr} {H H1 : Hp} {o : HO} (a : Dr st La H H1) (n : H p = none) : Dr st La H (upd H1 p o) := fun c u h n1 m => by
  rw [upd_ne (ne_of_none h n)]
  exact a c u h n1 m
theorem drw_put {st La Ca l : Addr} {H : Hp} {t : Int} {o : HO} (d : Drw st La Ca H t) (n1 : l ≠ st) (n2 : l ≠ La) (n3 : l ≠ Ca) : Drw st La Ca (upd H l o) t := by
  obtain ⟨cs, ls, u, v, z, hu⟩ := d
  exact ⟨cs, ls, u, v, { z with st := by rw [upd_ne (Ne.symm n1)]; exact z.st, la := by rw [upd_ne (Ne.symm n2)]; exact z.la, ca := by rw [upd_ne (Ne.symm n3)]; exact z.ca }, hu⟩
theorem drw_ne {st La Ca l : Addr} {H : Hp} {t : Int} (d : Drw st La Ca H t) (h : H l = none) : l ≠ st ∧ l ≠ La ∧ l ≠ Ca := by
  obtain ⟨cs, ls, u, v, z, _⟩ := d
  exact ⟨fun e => by (rw [e, z.st] at h; cases h), fun e => by (rw [e, z.la] at h; cases h), fun e => by (rw [e, z.ca] at h; cases h)⟩
theorem mem_erase {α : Type} {l : List α} {i : Nat} {x : α} (h : x ∈ l.eraseIdx i) : x ∈ l := List.mem_of_mem_eraseIdx h
theorem map_erase {α β : Type} (f : α → β) : ∀ (l : List α) (i : Nat), (l.map f).eraseIdx i = (l.eraseIdx i).map f
  | [], _ => rfl
  | _ :: _, 0 => rfl
  | x :: l, i + 1 => by
    rw [List.map_cons, List.eraseIdx_cons_succ, List.eraseIdx_cons_succ, map_erase f l i, List.map_cons]
def sp_mixed (K : PySem.W.Frag) : SpD := fun vs H Q _ => ∃ (st La Ca a : Addr) (t : Int) (zs : List Int), vs = [.ref st, .ref a] ∧ t ≤ 2 ^ 39 ∧ Drw st La Ca H t ∧ SqL K H a (zs.map V.int) ∧ zs.length ≤ 100000 ∧
  ∀ (r : Addr) (ys : List Int) (H' : Hp), H r = none → H' r = some (.lst (ys.map V.int)) → (∀ y ∈ ys, y ∈ zs) → ys.length = zs.length → Drw st La Ca H' (t + zs.length) → Dr st La H H' → Q (.ref r) H'
def rdMixed (K : PySem.W.Frag) (ac : L2.St → Hp → Acts) (W : WX) : TS :=
  (tSeq (tPar 2 3 (tCons (tCB (G.rListOf K) (tCons (tVar 1) tNil)) (tCons (tLst tNil) tNil)))
  (tSeq (tWhile (tTest (tOp (G.rCmp K .NotEq) (tVar 2) (tLst tNil)))
  (tDrop (tBM K "list" rAppend (tVar 3) (tCons (tBM K "list" rPopAt (tVar 2) (tCons (tFn spDraw ac W (tCons (tVar 0) (tCons (tCB (G.rLen K) (tCons (tVar 2) tNil)) tNil)) tNil 2 0) tNil)) tNil))))
  (tRet (tVar 3))))
theorem ok_mixed {K : PySem.W.Frag} {vs : List V} {H : Hp} {Q : VK} {E : XK} {W : WX} {ac : L2.St → Hp → Acts} {n0 n1 n2 n3 : Str} (h : sp_mixed K vs H Q E) : vs.length = 2 ∧ rdMixed K ac W (Dd Q) (L2.start [n0, n1, n2, n3] vs) H := by
  obtain ⟨st, La, Ca, a, t, zs, rfl, tl, d, ha, hl, q⟩ := h
  refine ⟨rfl, ?_⟩
  rw [show L2.start [n0, n1, n2, n3] [V.ref st, V.ref a] = [some (.ref st), some (.ref a), none, none] from rfl]
  unfold rdMixed
  simp only [tSeq, tWhile, tAnd, tOr, tNot, tTest, tTru, tOp, tUn, tVar, tC, tLst, tTup, tNil, tAsg, tBM, tBM0, tCons, gSub, tIfS, tCB, gName, tRet, tRetN, tNext, tIf, tFn, tDrop, tRaise0, tAndT, tOrT, tNotT, tChain, tAug, tPar, tPar3, for_go, lc_go, iRng1, iRng2, iSeq, tSl, tPart, tNoPart, tRaiseA, tAttr, List.getElem?_cons_zero, List.getElem?_cons_succ, List.set_cons_zero, List.set_cons_succ, Option.some.injEq, exists_eq_left']
  have sl : sizeLine = 16777216 := sizeLine_eq
  refine ⟨a, _, rfl, .inl ha, fun l hl0 => ⟨by rw [sl]; decide, fun p hp => ⟨_, _, rfl, ?_⟩⟩⟩
  obtain ⟨l1, l2, l3⟩ := drw_ne d hl0
  have nlp : p ≠ l := fun e => by rw [e, upd_same] at hp; cases hp
  have hp0 : H p = none := by rw [upd_ne nlp] at hp; exact hp
  obtain ⟨p1, p2, p3⟩ := drw_ne d hp0
  refine ⟨fun m σ H' => ∃ (ls fs : List Int), σ = [some (.ref st), some (.ref a), some (.ref l), some (.ref p)] ∧ ls.length = m ∧ fs.length + m = zs.length ∧ H' l = some (.lst (ls.map V.int)) ∧ H' p = some (.lst (fs.map V.int)) ∧
    (∀ y ∈ ls, y ∈ zs) ∧ (∀ y ∈ fs, y ∈ zs) ∧ Drw st La Ca H' (t + fs.length) ∧ Dr st La H H', ⟨zs.length, zs, [], rfl, rfl, by simp, by rw [upd_ne (Ne.symm nlp), upd_same], upd_same, fun y h => h, (fun y h => nomatch h), ?_, ?_⟩, ?_⟩
  · exact ((d.new hl0).new hp).mono (by simp)
  · exact ((Dr.refl st La H).new hl0).new hp
  rintro m σ H1 ⟨ls, fs, rfl, rfl, hm, h1, h2, m1, m2, d1, f1⟩
  simp only [tSeq, tWhile, tAnd, tOr, tNot, tTest, tTru, tOp, tUn, tVar, tC, tLst, tTup, tNil, tAsg, tBM, tBM0, tCons, gSub, tIfS, tCB, gName, tRet, tRetN, tNext, tIf, tFn, tDrop, tRaise0, tAndT, tOrT, tNotT, tChain, tAug, tPar, tPar3, for_go, lc_go, iRng1, iRng2, iSeq, tSl, tPart, tNoPart, tRaiseA, tAttr, List.getElem?_cons_zero, List.getElem?_cons_succ, List.set_cons_zero, List.set_cons_succ, Option.some.injEq, exists_eq_left']
  refine ⟨by rw [sl]; decide, fun x hx => ?_⟩
  refine ne_nil (.inl (.inl (keep_new h1 hx))) upd_same ⟨_, rfl, ?_⟩
  have d2 := d1.new (o := .lst []) hx
  have f2 := f1.new (o := .lst []) hx
  have h1' := keep_new (u := .lst []) h1 hx
  have h2' := keep_new (u := .lst []) h2 hx
  revert d2 f2 h1' h2'
  generalize upd H1 x (.lst []) = H2
  intro d2 f2 h1' h2'
  cases ls with
  | nil =>
    rw [if_neg (by simp)]
    refine q p fs H2 hp0 h2' m2 (by simpa using hm) (d2.mono ?_) f2
    rw [List.length_nil] at hm
    omega
  | cons z ls =>
    rw [if_pos (by simp)]
    rw [List.length_cons] at hm
    refine ⟨fun σ H' => ∃ (ls' fs : List Int), σ = [some (.ref st), some (.ref a), some (.ref l), some (.ref p)] ∧ ls'.length = ls.length ∧ fs.length + ls.length = zs.length ∧ H' l = some (.lst (ls'.map V.int)) ∧ H' p = some (.lst (fs.map V.int)) ∧
      (∀ y ∈ ls', y ∈ zs) ∧ (∀ y ∈ fs, y ∈ zs) ∧ Drw st La Ca H' (t + fs.length) ∧ Dr st La H H', fun σ' H' ⟨ls', fs, e1, e2, e3, e4⟩ => ⟨ls.length, Nat.lt_succ_self _, ls', fs, e1, e2, e3, e4⟩, ?_⟩
    refine ⟨.inl ⟨rfl, _, .inl (.inl h2')⟩, .inl ⟨rfl, _, .inl (.inl h1')⟩, ?_⟩
    refine len_lst (.inl (.inl h1')) ⟨rfl, rfl, st, La, Ca, _, _, rfl, by rw [List.length_map, List.length_cons]; omega, by rw [List.length_map, List.length_cons]; omega, by omega, d2, fun r H3 r0 r1 d3 f3 => ?_⟩
    rw [List.length_map] at r1
    have h1'' := f3 _ _ h1' l1 l2
    have h2'' := f3 _ _ h2' p1 p2
    have hr : r.toNat < (z :: ls).length := by omega
    have hcl : (z :: ls).length = ls.length + 1 := rfl
    refine ⟨l, _, r, r.toNat, .int ((z :: ls)[r.toNat]), rfl, rfl, h1'', by omega, by omega, seqIndex_of r0 (by rw [List.length_map]; exact r1), by rw [List.getElem?_map, List.getElem?_eq_getElem hr]; rfl, ?_⟩
    have nlp2 : l ≠ p := Ne.symm nlp
    refine ⟨p, _, _, rfl, rfl, by rw [upd_ne nlp]; exact h2'', by rw [List.length_map, sl]; omega, ?_⟩
    refine ⟨(z :: ls).eraseIdx r.toNat, fs ++ [(z :: ls)[r.toNat]], rfl, ?_, ?_, ?_, ?_, ?_, ?_, ?_, ?_⟩
    · rw [List.length_eraseIdx, if_pos hr, List.length_cons]
      omega
    · rw [List.length_append, List.length_singleton]
      omega
    · rw [upd_ne nlp2, upd_same, map_erase]
    · rw [upd_same, List.map_append]
      rfl
    · intro y hy
      exact m1 y (mem_erase hy)
    · intro y hy
      rcases List.mem_append.mp hy with h | h
      · exact m2 y h
      · rw [List.mem_singleton.mp h]
        exact m1 _ (List.getElem_mem hr)
    · refine (drw_put (drw_put d3 l1 l2 l3) p1 p2 p3).mono ?_
      rw [List.length_append, List.length_singleton]
      omega
    · exact dr_over (dr_over (f2.trans f3) hl0) hp0
end Pk

set_option Elab.async false
set_option linter.all false
set_option maxRecDepth 100000
set_option maxHeartbeats 8000000
namespace Pk
open PySem PySem.Spec PyProof.Rows L2 LamX G
/-! ### loops over a list, lambdas that are caught, lists of errors looked at -/
theorem go_lst {K : PySem.W.Frag} {a : Addr} (xs : List V) {ix : Nat} {tb : TS} {D : Ends} {σ : L2.St} {H : Hp} (P : Nat → L2.St → Hp → Prop) (h0 : P 0 σ H) (hl : ∀ i σ H, P i σ H → SqL K H a xs)
    (hs : ∀ i x σ H, xs[i]? = some x → P i σ H → tb { D with nx := P (i + 1), ct := P (i + 1), bk := D.nx } (σ.set ix (some x)) H) (he : ∀ σ H, P xs.length σ H → D.nx σ H) : ForGo (Itl K a) (gName ix) tb D σ H := by
  refine ⟨fun i m σ H => P i σ H ∧ i + m = xs.length, ⟨xs.length, h0, by omega⟩, fun i m σ H ⟨h, e⟩ => ?_⟩
  by_cases c : i < xs.length
  · refine .inr ⟨⟨xs, xs[i], hl i σ H h, List.getElem?_eq_getElem c⟩, P (i + 1), fun σ' H' q => ⟨m - 1, by omega, q, by omega⟩, fun x H' ⟨e1, e2⟩ => ?_⟩
    subst e1
    exact hs i x σ H' (e2 xs (hl i σ H' h)) h
  · have : i = xs.length := by omega
    subst this
    exact .inl ⟨⟨xs, hl _ σ H h, Nat.le_refl _⟩, he σ H h⟩
section
variable {T : List (Addr × Str)} {st La Ca : Addr} {K : PySem.W.Frag} {H0 H H1 : Hp} {t u : Int} {x : V}
theorem caught_step {n : Nat} {Γ : Gam} {sc scope : Scope} {body : Expr} {σ : L2.St} {Q : VK} {W : WX} {lm : WX → TE} {C : Str} (hP : Γ.P.isSome = true) (L : lamSB sc scope = true) (hq : ∀ W', wE K n Γ.low scope W' body = lm W') (c : Ck K C) (R : Rf Γ.T st La Ca H0 H t)
    (run : ∀ H2 Q2 (E2 : XK), DrN st La H H2 → E2 (bad K C) none H2 → lm (fun cls d _ H' => E2 cls d H') σ H2 Q2)
    (go : ∀ a H3, Rf Γ.T st La Ca H0 H3 t → DrN st La H H3 → H3 a = some (ExT (bad K C) none a) → Q (.ref a) H3) :
    tCaught K (actsAt Γ sc fun s W b => wE K n Γ.low s W b) W (tLamV Γ.qual Γ.cells Γ.T body scope) σ H Q :=
  caught_lam hP L hq R.T fun H2 hE hT => run H2 _ _ (ext_n hE) (err_go c (R.lam hE hT) fun a H3 r3 n3 x3 => go a H3 r3 ((ext_n hE).trans n3) x3)
/-- [1 for e in errors if not isinstance(e, C)] != [] is False -/
theorem chk_go {C : Str} {l : Addr} {es : List Addr} {i ix : Nat} {σ : L2.St} {k : Bool → Hp → Prop} (c : Ck K C) (R : Rf T st La Ca H0 H t) (A : Al K C H l es) (hσ : σ[i]? = some (some (.ref l))) (hi : ix < σ.length) (hl : es.length ≤ 1000)
    (go : ∀ H', Rf T st La Ca H0 H' t → DrN st La H H' → k false H') :
    (tTest (tOp (G.rCmp K .NotEq) (tLc (iSeq K (tVar i)) (gName ix) (tNot (tTru K (tCB (G.rIsX K) (tCons (tVar ix) (tCons (tC (.ref (He.ga K C))) tNil))))) (tC (.int 1)) [ix]) (tLst tNil))) σ H k := by
  simp only [tSeq, tWhile, tAnd, tOr, tNot, tTest, tTru, tOp, tUn, tVar, tC, tLst, tTup, tNil, tAsg, tBM, tBM0, tCons, gSub, tIfS, tCB, gName, tRet, tRetN, tNext, tIf, tFn, tDrop, tRaise0, tAndT, tOrT, tNotT, tChain, tAug, tPar, tPar3, for_go, lc_go, iRng1, iRng2, iSeq, tSl, tPart, tNoPart, tRaiseA, tAttr, List.getElem?_cons_zero, List.getElem?_cons_succ, List.set_cons_zero, List.set_cons_succ, Option.some.injEq, exists_eq_left']
  refine .inl ⟨_, hσ, l, rfl, ⟨_, .inl (.inl A.lst)⟩, lc_list (es.map V.ref) (fun D i acc H' => acc = [] ∧ H D = none ∧ H' = upd H D (.lst [])) (fun D hD => ⟨rfl, hD, rfl⟩) (fun D i acc H' h => ?_) ?_ ?_⟩
  · rw [h.2.2]
    exact .inl (.inl (keep_new A.lst h.2.1))
  · rintro D j acc H' w hw hA hz ⟨rfl, hD, rfl⟩
    rw [List.getElem?_map] at hw
    obtain ⟨a, ha, rfl⟩ := Option.map_eq_some_iff.mp hw
    have xa := A.es a (List.mem_of_getElem? ha)
    have hix : ((wipe σ [ix]).set ix (some (V.ref a)))[ix]? = some (some (V.ref a)) := by
      show ((σ.set ix none).set ix (some (V.ref a)))[ix]? = _
      rw [List.getElem?_set_self (by rw [List.length_set]; exact hi)]
    show tNot (tTru K (tCB (rIsX K) (tCons (tVar ix) (tCons (tC (V.ref (He.ga K C))) tNil)))) _ _ _
    simp only [tSeq, tWhile, tAnd, tOr, tNot, tTest, tTru, tOp, tUn, tVar, tC, tLst, tTup, tNil, tAsg, tBM, tBM0, tCons, gSub, tIfS, tCB, gName, tRet, tRetN, tNext, tIf, tFn, tDrop, tRaise0, tAndT, tOrT, tNotT, tChain, tAug, tPar, tPar3, for_go, lc_go, iRng1, iRng2, iSeq, tSl, tPart, tNoPart, tRaiseA, tAttr, List.getElem?_cons_zero, List.getElem?_cons_succ, List.set_cons_zero, List.set_cons_succ, Option.some.injEq, exists_eq_left']
    refine ⟨_, hix, isx_err c (keep_new xa hD) c.one ⟨_, rfl, ?_⟩⟩
    rw [if_neg (by simp)]
    exact Lp.skip hA hz ⟨rfl, hD, rfl⟩
  · rintro D acc H2 hl2 hA ⟨rfl, hD, rfl⟩
    refine ⟨small rfl, fun p hp => ?_⟩
    refine ne_nil (zs := []) (.inl (.inl (keep_new hA hp))) upd_same ⟨_, rfl, ?_⟩
    exact go _ ((R.new hD).new hp) (((DrN.refl _ _ _).new hD).new hp)
/-- signs that are drawn, joined -/
theorem join_go {cnt : Int} {ix : Nat} {σ : L2.St} {Q' : VK} {i0 : Int} (d : Drw st La Ca H t) (tl : t ≤ 2 ^ 39 + 100000) (hσ : σ[0]? = some (some (.ref st))) (hix : 0 < ix) (c0 : 0 ≤ cnt) (c1 : cnt ≤ 1000)
    (q : ∀ s H', BitS s → s.length ≤ cnt.toNat → Drw st La Ca H' (t + cnt) → Dr st La H H' → Q' (.str s) H') :
    LcGo (Itr 0 cnt.toNat) (gName ix) tYes (tFn spPick noActs noW (tCons (tVar 0) (tCons (tLst (tCons (tC (.str "0")) (tCons (tC (.str "1")) tNil))) tNil)) tNil 2 0) [ix] σ (fun v H2 => G.rJoin K (.str "") [v] H2 Q') H := by
  refine lc_rng (fun D k acc H' => Drw st La Ca H' (t + k) ∧ Dr st La H H' ∧ H D = none ∧ ∃ ys : List Str, acc = ys.map V.str ∧ ∀ y ∈ ys, y = "0" ∨ y = "1") (fun D hD => ⟨(d.new hD).mono (by omega), (Dr.refl _ _ _).new hD, hD, [], rfl, (fun y hy => nomatch hy)⟩) ?_ ?_
  · rintro D k acc H' hk hA hz ⟨dk, fk, hD, ys, rfl, hys⟩
    obtain ⟨n1, n2, n3⟩ := drw_ne d hD
    have h0 : ((wipe σ [ix]).set ix (some (V.int (0 + k))))[0]? = some (some (.ref st)) := by
      show ((σ.set ix none).set ix _)[0]? = _
      rw [List.getElem?_set_ne (by omega), List.getElem?_set_ne (by omega)]
      exact hσ
    simp only [tYes, ↓reduceIte, tSeq, tWhile, tAnd, tOr, tNot, tTest, tTru, tOp, tUn, tVar, tC, tLst, tTup, tNil, tAsg, tBM, tBM0, tCons, gSub, tIfS, tCB, gName, tRet, tRetN, tNext, tIf, tFn, tDrop, tRaise0, tAndT, tOrT, tNotT, tChain, tAug, tPar, tPar3, for_go, lc_go, iRng1, iRng2, iSeq, tSl, tPart, tNoPart, tRaiseA, tAttr, List.getElem?_cons_zero, List.getElem?_cons_succ, List.set_cons_zero, List.set_cons_succ, Option.some.injEq, exists_eq_left']
    refine ⟨_, h0, small rfl, fun p hp => ⟨rfl, rfl, pick_new dk (by omega) hp (Nat.le_of_ble_eq_true rfl) (Nat.le_of_ble_eq_true rfl) fun x H'' hx d' f' => ?_⟩⟩
    have hA' := f' D _ hA n1 n2
    obtain ⟨y, rfl, hy⟩ : ∃ y : Str, x = V.str y ∧ (y = "0" ∨ y = "1") := by
      simp only [List.mem_cons, List.not_mem_nil, or_false] at hx
      rcases hx with rfl | rfl
      · exact ⟨_, rfl, .inl rfl⟩
      · exact ⟨_, rfl, .inr rfl⟩
    refine Lp.put hA' hz (by omega) ⟨(drw_put d' n1 n2 n3).mono (by omega), dr_over (fk.trans f') hD, hD, ys ++ [y], by rw [List.map_append]; rfl, fun v hv => ?_⟩
    rcases List.mem_append.mp hv with h | h
    · exact hys v h
    · rw [List.mem_singleton.mp h]
      exact hy
  · rintro D acc H' hl hA ⟨d', f', hD, ys, rfl, hys⟩
    rw [List.length_map] at hl
    refine ⟨"", D, ys, rfl, rfl, .inl (.inl (.inl hA)), by rw [sum_len hys, len_e]; omega, q _ _ (join_bit hys) (by rw [join_len hys]; exact hl) (d'.mono (by omega)) f'⟩
theorem mul_onesZ {K : PySem.W.Frag} {H : Hp} {i : Int} {Q : VK} (h0 : 0 ≤ i) (h : i ≤ 1000000) (q : Q (.str (ones i.toNat)) H) : G.rBin K .Mult (.str "1") (.int i) H Q := by
  have e : i = ((i.toNat : Nat) : Int) := by omega
  rw [e]
  exact mul_ones (by omega) q
theorem sq_asg2 {e : TE} {i : Nat} {rest : TS} {D : Ends} {σ : L2.St} {H : Hp} (h : e σ H fun v H' => rest D (σ.set i (some v)) H') : tSeq (tAsg e (gName i)) rest D σ H := h
theorem isnot_non {K : PySem.W.Frag} {H : Hp} {x : V} {Q : VK} (q : Q (.bl (!decide (x = .non))) H) : G.rCmp K .IsNot x .non H Q := by
  cases x <;> exact q
end
end Pk

set_option Elab.async false
set_option linter.all false
set_option maxRecDepth 100000
set_option maxHeartbeats 8000000
namespace Pk
open PySem PySem.Spec PyProof.Rows L2 LamX G
/-! ## shapes -/
abbrev shC (K : PySem.W.Frag) : Addr := He.ga K "Shape"
def shF (h w lo hi : Int) (oc : V) : List (Str × V) := [("height", .int h), ("width", .int w), ("low", .int lo), ("high", .int hi), ("middle", .int ((lo + hi) / 2)), ("own_cells", oc)]
def ShAt (K : PySem.W.Frag) (H : Hp) (a : Addr) (h w lo hi : Int) : Prop := (∃ dx oc, H a = some (.ins (shC K) dx (shF h w lo hi oc))) ∧ 1 ≤ h ∧ h ≤ 16 ∧ 1 ≤ w ∧ w ≤ 16 ∧ -512 ≤ lo ∧ lo ≤ hi ∧ hi ≤ 511
def shNames : List Str := ["height", "width", "low", "high", "middle", "own_cells"]
def kdTys : List String := ["NoneType", "bool", "int", "str", "list", "tuple", "dict"]
structure ShC (K : PySem.W.Frag) : Prop where
  ins : InsC K (shC K)
  na : ∀ f ∈ shNames, NoAttr K (shC K) f
  kn : ∀ t ∈ kdTys, PySem.W.kitOne K (.type t) (.ref (shC K)) = some false
  ce : Ck K "BadShape"
  xf : XfC K (He.ga K "BadShape")
  nf : PySem.W.findIn K (.ref (He.ga K "BadShape")) "part" = some none
def shB (K : PySem.W.Frag) : Bool := insB K (shC K) && (shNames.all (fun f => He.eqO (PySem.W.findIn K (.ref (shC K)) f) (some none)) && (kdTys.all (fun t => decide (PySem.W.kitOne K (.type t) (.ref (shC K)) = some false)) &&
  (exB K (He.ga K "BadShape") && (L2.xfB K (He.ga K "BadShape") && He.eqO (PySem.W.findIn K (.ref (He.ga K "BadShape")) "part") (some none)))))
theorem shB_ok {K : PySem.W.Frag} (h : shB K = true) (e : PySem.W.exmOne K (bad K "BadShape") (.ref (He.ga K "ReelError")) = some true) : ShC K := by
  obtain ⟨h1, h⟩ := He.ba h
  obtain ⟨h2, h⟩ := He.ba h
  obtain ⟨h3, h⟩ := He.ba h
  obtain ⟨h4, h⟩ := He.ba h
  obtain ⟨h5, h6⟩ := He.ba h
  exact ⟨insB_ok h1, fun f hf => He.eqO_ok (List.all_eq_true.mp h2 f hf), fun t ht => of_decide_eq_true (List.all_eq_true.mp h3 t ht), ⟨e, (exB_ok h4).1, (exB_ok h4).2⟩, L2.xfB_ok h5, He.eqO_ok h6⟩
section
variable {K : PySem.W.Frag} {H H1 : Hp} {a : Addr} {h w lo hi : Int} {x : V} {Q : VK} {st La Ca : Addr} {t : Int}
theorem Drw.keepI {C dx : Addr} {fs : List (Str × V)} (d : Drw st La Ca H t) (n : DrN st La H H1) (h : H a = some (.ins C dx fs)) : H1 a = some (.ins C dx fs) := by
  obtain ⟨l, v, z⟩ := d.full
  obtain ⟨ys, z2⟩ := d.la
  exact n a _ h (fun e => by rw [e, z] at h; cases h) (fun e => by rw [e, z2] at h; cases h) fun _ e => by cases e
theorem ShAt.keep (s : ShAt K H a h w lo hi) (d : Drw st La Ca H t) (n : DrN st La H H1) : ShAt K H1 a h w lo hi := by
  obtain ⟨⟨dx, oc, e⟩, r⟩ := s
  exact ⟨⟨dx, oc, Drw.keepI d n e⟩, r⟩
theorem ShAt.new {p : Addr} {o : HO} (s : ShAt K H a h w lo hi) (hp : H p = none) : ShAt K (upd H p o) a h w lo hi := by
  obtain ⟨⟨dx, oc, e⟩, r⟩ := s
  exact ⟨⟨dx, oc, keep_new e hp⟩, r⟩
theorem fld_sh (c : ShC K) (s : ShAt K H a h w lo hi) {f : Str} {v : V} (hf : f ∈ shNames) (l : ∀ oc, (shF h w lo hi oc).lookup f = some v) (q : Q v H) : G.rFld K f (.ref a) H Q := by
  obtain ⟨⟨dx, oc, e⟩, r⟩ := s
  exact .inl ⟨a, _, dx, _, v, rfl, e, c.ins.cl, c.na f hf, l oc, q⟩
theorem fld_low (c : ShC K) (s : ShAt K H a h w lo hi) (q : Q (.int lo) H) : G.rFld K "low" (.ref a) H Q := fld_sh c s (by simp [shNames]) (fun _ => rfl) q
theorem fld_high (c : ShC K) (s : ShAt K H a h w lo hi) (q : Q (.int hi) H) : G.rFld K "high" (.ref a) H Q := fld_sh c s (by simp [shNames]) (fun _ => rfl) q
theorem fld_height (c : ShC K) (s : ShAt K H a h w lo hi) (q : Q (.int h) H) : G.rFld K "height" (.ref a) H Q := fld_sh c s (by simp [shNames]) (fun _ => rfl) q
theorem fld_width (c : ShC K) (s : ShAt K H a h w lo hi) (q : Q (.int w) H) : G.rFld K "width" (.ref a) H Q := fld_sh c s (by simp [shNames]) (fun _ => rfl) q
theorem fld_middle (c : ShC K) (s : ShAt K H a h w lo hi) (q : Q (.int ((lo + hi) / 2)) H) : G.rFld K "middle" (.ref a) H Q := fld_sh c s (by simp [shNames]) (fun _ => rfl) q
theorem isx_sh (c : ShC K) (s : ShAt K H a h w lo hi) (q : Q (.bl true) H) : G.rIsX K [.ref a, .ref (shC K)] H Q := by
  obtain ⟨⟨dx, oc, e⟩, r⟩ := s
  exact .inl ⟨.ref a, .ref (shC K), _, _, true, rfl, .own _, .base (.ins e c.ins.cl c.ins.ha c.ins.hn c.ins.ht c.ins.hm), c.ins.one, q⟩
theorem isx_no (c : ShC K) (k : Kd H x) (q : Q (.bl false) H) : G.rIsX K [x, .ref (shC K)] H Q := by
  refine .inl ?_
  have go : ∀ (t : String), t ∈ kdTys → TyOf K H x (.type t) → rIsi K [x, .ref (shC K)] H Q := fun t h1 h2 => ⟨x, .ref (shC K), _, _, false, rfl, .own _, .base h2, c.kn t h1, q⟩
  cases x with
  | non => exact go _ (by simp [kdTys]) .non
  | bl b => exact go _ (by simp [kdTys]) (.bl b)
  | int i => exact go _ (by simp [kdTys]) (.int i)
  | str y => exact go _ (by simp [kdTys]) (.str y)
  | ref a =>
    rcases k with ⟨xs, h⟩ | ⟨xs, h⟩ | ⟨kvs, h⟩
    · exact go _ (by simp [kdTys]) (.lst h)
    · exact go _ (by simp [kdTys]) (.tup h)
    · exact go _ (by simp [kdTys]) (.dK h)
  | _ => exact k.elim
end
/-- an error that keeps v in its part -/
def ErrP (K : PySem.W.Frag) (C f : Str) (v : V) (H : Hp) (E : XK) : Prop := ∀ d, H d = none → E (bad K C) (some d) (upd H d (.xd [(f, v)]))
def sp_shape_init (K : PySem.W.Frag) : SpD := fun vs H Q E => ∃ (a dx : Addr) (x y z u : V), vs = [.ref a, x, y, z, u] ∧ H a = some (.ins (shC K) dx []) ∧ Kd H x ∧ Kd H y ∧ Kd H z ∧ Kd H u ∧
  (btw x 1 16 = false → ErrP K "BadShape" "part" (.str "height") H E) ∧ (btw x 1 16 = true → btw y 1 16 = false → ErrP K "BadShape" "part" (.str "width") H E) ∧
  (btw x 1 16 = true → btw y 1 16 = true → btw z (-512) 511 = false → ErrP K "BadShape" "part" (.str "low") H E) ∧
  ∀ lo, btw x 1 16 = true → btw y 1 16 = true → z = .int lo → -512 ≤ lo → lo ≤ 511 → (btw u lo 511 = false → ErrP K "BadShape" "part" (.str "high") H E) ∧
    ∀ h w hi, x = .int h → y = .int w → u = .int hi → lo ≤ hi → hi ≤ 511 → Q .non (upd H a (.ins (shC K) dx (shF h w lo hi .non)))
def sp_need_shape (K : PySem.W.Frag) : SpD := fun vs H Q E => ∃ x, vs = [x] ∧ ((Kd H x ∧ ErrP K "BadShape" "part" .non H E) ∨ ∃ a h w lo hi, x = .ref a ∧ ShAt K H a h w lo hi ∧ Q .non H)
abbrev S_Shape___init__ (K : PySem.W.Frag) : SpG := sh (sp_shape_init K) [0, 1, 2, 3, 4]
abbrev S_Shape (K : PySem.W.Frag) : SpG := mkS (He.ga K "Shape") (S_Shape___init__ K)
abbrev S_need_shape (K : PySem.W.Frag) : SpG := sh (sp_need_shape K) [0]
abbrev act_need_shape (acts : Acts) : Acts := fun g tl => false = true ∧ acts g tl
def t_need_shape (K : PySem.W.Frag) (cells : List (Str × Addr)) (acts : Acts) (T : List (Addr × Str)) (pt : Option Addr) (W : WX) : TS :=
  (tIfS (tNot (tTru K (tCB (G.rIsX K) (tCons (tVar 0) (tCons (tC (.ref (He.ga K "Shape"))) tNil)))))
  (tRaiseA (He.ga K "BadShape") "part" W (tCons (tC .non) tNil))
  tNext)
abbrev act_Shape___init__ (acts : Acts) : Acts := fun g tl => false = true ∧ acts g tl
def t_Shape___init__ (K : PySem.W.Frag) (cells : List (Str × Addr)) (acts : Acts) (T : List (Addr × Str)) (pt : Option Addr) (W : WX) : TS :=
  (tSeq (tIfS (tNot (tTru K (tFn (S_is_between K) (fun _ _ => act_Shape___init__ acts) W (tCons (tVar 1) (tCons (tC (.int 1)) (tCons (tC (.int 16)) tNil))) tNil 3 0)))
  (tRaiseA (He.ga K "BadShape") "part" W (tCons (tC (.str "height")) tNil))
  tNext)
  (tSeq (tIfS (tNot (tTru K (tFn (S_is_between K) (fun _ _ => act_Shape___init__ acts) W (tCons (tVar 2) (tCons (tC (.int 1)) (tCons (tC (.int 16)) tNil))) tNil 3 0)))
  (tRaiseA (He.ga K "BadShape") "part" W (tCons (tC (.str "width")) tNil))
  tNext)
  (tSeq (tIfS (tNot (tTru K (tFn (S_is_between K) (fun _ _ => act_Shape___init__ acts) W (tCons (tVar 3) (tCons (tC (.int (-512))) (tCons (tC (.int 511)) tNil))) tNil 3 0)))
  (tRaiseA (He.ga K "BadShape") "part" W (tCons (tC (.str "low")) tNil))
  tNext)
  (tSeq (tIfS (tNot (tTru K (tFn (S_is_between K) (fun _ _ => act_Shape___init__ acts) W (tCons (tVar 4) (tCons (tVar 3) (tCons (tC (.int 511)) tNil))) tNil 3 0)))
  (tRaiseA (He.ga K "BadShape") "part" W (tCons (tC (.str "high")) tNil))
  tNext)
  (tSeq (sFld K (tVar 0) (tVar 1) "height")
  (tSeq (sFld K (tVar 0) (tVar 2) "width")
  (tSeq (sFld K (tVar 0) (tVar 3) "low")
  (tSeq (sFld K (tVar 0) (tVar 4) "high")
  (tSeq (sFld K (tVar 0) (tOp (G.rBin K .FloorDiv) (tOp (G.rBin K .Add) (tVar 3) (tVar 4)) (tC (.int 2))) "middle")
  (sFld K (tVar 0) (tC .non) "own_cells"))))))))))

section
variable {K : PySem.W.Frag} {cells : List (Str × Addr)} {acts : Acts} {T : List (Addr × Str)} {pt : Option Addr} {vs : List V} {H : Hp} {Q : VK} {E : XK}
theorem ok_Shape___init__ (c : ShC K) (h : sp_shape_init K vs H Q E) : vs.length = 5 ∧ t_Shape___init__ K cells acts T pt (Ww E) (Dd Q) (L2.start ["self", "height", "width", "low", "high"] vs) H := by
  obtain ⟨a, dx, x, y, z, u, rfl, ha, kx, ky, kz, ku, h1, h2, h3, h4⟩ := h
  refine ⟨rfl, ?_⟩
  rw [show L2.start ["self", "height", "width", "low", "high"] [V.ref a, x, y, z, u] = [some (.ref a), some x, some y, some z, some u] from rfl]
  unfold t_Shape___init__
  simp only [sFld, tSeq, tWhile, tAnd, tOr, tNot, tTest, tTru, tOp, tUn, tVar, tC, tLst, tTup, tNil, tAsg, tBM, tBM0, tCons, gSub, tIfS, tCB, gName, tRet, tRetN, tNext, tIf, tFn, tDrop, tRaise0, tAndT, tOrT, tNotT, tChain, tAug, tPar, tPar3, for_go, lc_go, iRng1, iRng2, iSeq, tSl, tPart, tNoPart, tRaiseA, tAttr, List.getElem?_cons_zero, List.getElem?_cons_succ, List.set_cons_zero, List.set_cons_succ, Option.some.injEq, exists_eq_left']
  refine ⟨rfl, rfl, x, 1, 16, rfl, kx, _, rfl, ?_⟩
  cases bx : btw x 1 16 with
  | false => exact ⟨_, rfl, h1 bx⟩
  | true =>
  rw [if_neg (by simp)]
  refine ⟨rfl, rfl, y, 1, 16, rfl, ky, _, rfl, ?_⟩
  cases b_y : btw y 1 16 with
  | false => exact ⟨_, rfl, h2 bx b_y⟩
  | true =>
  rw [if_neg (by simp)]
  refine ⟨rfl, rfl, z, -512, 511, rfl, kz, _, rfl, ?_⟩
  cases bz : btw z (-512) 511 with
  | false => exact ⟨_, rfl, h3 bx b_y bz⟩
  | true =>
  rw [if_neg (by simp)]
  obtain ⟨lo, rfl, lo0, lo1⟩ := btw_int bz
  obtain ⟨h5, h6⟩ := h4 lo bx b_y rfl lo0 lo1
  refine ⟨rfl, rfl, u, lo, 511, rfl, ku, _, rfl, ?_⟩
  cases bu : btw u lo 511 with
  | false => exact ⟨_, rfl, h5 bu⟩
  | true =>
  rw [if_neg (by simp)]
  obtain ⟨hh, rfl, _, _⟩ := btw_int bx
  obtain ⟨ww, rfl, _, _⟩ := btw_int b_y
  obtain ⟨hi, rfl, hi0, hi1⟩ := btw_int bu
  have h7 := h6 hh ww hi rfl rfl rfl hi0 hi1
  have cl := c.ins.cl
  refine ⟨a, _, dx, _, rfl, ha, cl, c.na _ (by simp [shNames]), by decide, ?_⟩
  refine ⟨a, _, dx, _, rfl, upd_same, cl, c.na _ (by simp [shNames]), Nat.le_of_ble_eq_true rfl, ?_⟩
  refine ⟨a, _, dx, _, rfl, upd_same, cl, c.na _ (by simp [shNames]), Nat.le_of_ble_eq_true rfl, ?_⟩
  refine ⟨a, _, dx, _, rfl, upd_same, cl, c.na _ (by simp [shNames]), Nat.le_of_ble_eq_true rfl, ?_⟩
  refine G.add_int (div_int (by decide) (by decide) ?_)
  refine ⟨a, _, dx, _, rfl, upd_same, cl, c.na _ (by simp [shNames]), Nat.le_of_ble_eq_true rfl, ?_⟩
  refine ⟨a, _, dx, _, rfl, upd_same, cl, c.na _ (by simp [shNames]), Nat.le_of_ble_eq_true rfl, ?_⟩
  rw [upd_upd, upd_upd, upd_upd, upd_upd, upd_upd]
  exact h7
theorem ok_need_shape (c : ShC K) (h : sp_need_shape K vs H Q E) : vs.length = 1 ∧ t_need_shape K cells acts T pt (Ww E) (Dd Q) (L2.start ["shape"] vs) H := by
  obtain ⟨x, rfl, h⟩ := h
  refine ⟨rfl, ?_⟩
  rw [show L2.start ["shape"] [x] = [some x] from rfl]
  unfold t_need_shape
  simp only [tSeq, tWhile, tAnd, tOr, tNot, tTest, tTru, tOp, tUn, tVar, tC, tLst, tTup, tNil, tAsg, tBM, tBM0, tCons, gSub, tIfS, tCB, gName, tRet, tRetN, tNext, tIf, tFn, tDrop, tRaise0, tAndT, tOrT, tNotT, tChain, tAug, tPar, tPar3, for_go, lc_go, iRng1, iRng2, iSeq, tSl, tPart, tNoPart, tRaiseA, tAttr, List.getElem?_cons_zero, List.getElem?_cons_succ, List.set_cons_zero, List.set_cons_succ, Option.some.injEq, exists_eq_left']
  rcases h with ⟨kx, h⟩ | ⟨a, hh, ww, lo, hi, rfl, s, q⟩
  · exact isx_no c kx ⟨_, rfl, _, rfl, h⟩
  · exact isx_sh c s ⟨_, rfl, q⟩
end
end Pk

set_option Elab.async false
set_option linter.all false
set_option maxRecDepth 100000
set_option maxHeartbeats 8000000
namespace Pk
open PySem PySem.Spec PyProof.Rows L2 LamX G
/-! ## levels and losses -/
def absZ (i : Int) : Int := if i < 0 then -i else i
def lvlZ (r s : Int) : Int := if 0 ≤ r then (absZ r + s) / (2 * s + 1) else -((absZ r + s) / (2 * s + 1))
def clipZ (lo hi n : Int) : Int := if hi < (if lo > n then lo else n) then hi else (if lo > n then lo else n)
def spanZ (lo hi g n s : Int) : Option (Int × Int) :=
  let a := if n = lo then -32767 else -(-(n - g) / (2 * s + 1))
  let b := if n = hi then 32767 else (n - g) / (2 * s + 1)
  if a ≤ b then some (a, b) else none
def OutT (r : Option (Int × Int)) (H : Hp) (Q : VK) : Prop := match r with
  | some (v, b) => ∀ t, H t = none → Q (.ref t) (upd H t (.tup [.int v, .int b]))
  | none => Q .non H
def sp_step_of : SpD := fun vs H Q _ => ∃ s, vs = [.int s] ∧ Q (.int (2 * s + 1)) H
def sp_level_from : SpD := fun vs H Q _ => ∃ r s, vs = [.int r, .int s] ∧ 0 ≤ s ∧ s ≤ 7 ∧ Q (.int (lvlZ r s)) H
def sp_level_of (K : PySem.W.Frag) : SpD := fun vs H Q E => ∃ x y, vs = [x, y] ∧ Kd H x ∧ Kd H y ∧ (btw x (-32767) 32767 = false → E (bad K "BadNumber") none H) ∧ (btw x (-32767) 32767 = true → btw y 0 7 = false → E (bad K "BadLoss") none H) ∧
  ∀ r s, x = .int r → y = .int s → -32767 ≤ r → r ≤ 32767 → 0 ≤ s → s ≤ 7 → Q (.int (lvlZ r s)) H
def sp_clip (K : PySem.W.Frag) : SpD := fun vs H Q _ => ∃ a h w lo hi n, vs = [.ref a, .int n] ∧ ShAt K H a h w lo hi ∧ Q (.int (clipZ lo hi n)) H
def sp_need_guess (K : PySem.W.Frag) : SpD := fun vs H Q E => ∃ a h w lo hi y, vs = [.ref a, y] ∧ ShAt K H a h w lo hi ∧ Kd H y ∧ (btw y lo hi = true → Q .non H) ∧ (btw y lo hi = false → E (bad K "BadGuess") none H)
def sp_rebuilt (K : PySem.W.Frag) : SpD := fun vs H Q E => ∃ x y z u, vs = [x, y, z, u] ∧ Kd H y ∧ Kd H z ∧ Kd H u ∧ ((Kd H x ∧ ErrP K "BadShape" "part" .non H E) ∨ ∃ a h w lo hi, x = .ref a ∧ ShAt K H a h w lo hi ∧
  (btw y lo hi = false → E (bad K "BadGuess") none H) ∧ (btw y lo hi = true → btw z (-32767) 32767 = false → E (bad K "BadNumber") none H) ∧ (btw y lo hi = true → btw z (-32767) 32767 = true → btw u 0 7 = false → E (bad K "BadLoss") none H) ∧
  ∀ g l s, y = .int g → z = .int l → u = .int s → lo ≤ g → g ≤ hi → -32767 ≤ l → l ≤ 32767 → 0 ≤ s → s ≤ 7 → Q (.int (clipZ lo hi (g + l * (2 * s + 1)))) H)
def sp_levels_that (K : PySem.W.Frag) : SpD := fun vs H Q E => ∃ x y z u, vs = [x, y, z, u] ∧ Kd H y ∧ Kd H z ∧ Kd H u ∧ ((Kd H x ∧ ErrP K "BadShape" "part" .non H E) ∨ ∃ a h w lo hi, x = .ref a ∧ ShAt K H a h w lo hi ∧
  (btw y lo hi = false → E (bad K "BadGuess") none H) ∧ (btw y lo hi = true → btw z lo hi = false → E (bad K "BadNumber") none H) ∧ (btw y lo hi = true → btw z lo hi = true → btw u 0 7 = false → E (bad K "BadLoss") none H) ∧
  ∀ g n s, y = .int g → z = .int n → u = .int s → lo ≤ g → g ≤ hi → lo ≤ n → n ≤ hi → 0 ≤ s → s ≤ 7 → OutT (spanZ lo hi g n s) H Q)
abbrev S_need_loss (K : PySem.W.Frag) : SpG := sh (sp_need K "BadLoss" 0 7) [0]
abbrev S_need_guess (K : PySem.W.Frag) : SpG := sh (sp_need_guess K) [0, 1]
abbrev S_step_of (_ : PySem.W.Frag) : SpG := sh sp_step_of [0]
abbrev S_level_from (_ : PySem.W.Frag) : SpG := sh sp_level_from [0, 1]
abbrev S_level_of (K : PySem.W.Frag) : SpG := sh (sp_level_of K) [0, 1]
abbrev S_level_of_k0_loss_rest (K : PySem.W.Frag) : SpG := sh (sp_level_of K) [1, 0]
abbrev S_clip (K : PySem.W.Frag) : SpG := sh (sp_clip K) [0, 1]
abbrev S_rebuilt (K : PySem.W.Frag) : SpG := sh (sp_rebuilt K) [0, 1, 2, 3]
abbrev S_rebuilt_k0_loss_level_guess_shape (K : PySem.W.Frag) : SpG := sh (sp_rebuilt K) [3, 2, 1, 0]
abbrev S_levels_that (K : PySem.W.Frag) : SpG := sh (sp_levels_that K) [0, 1, 2, 3]
abbrev S_levels_that_k0_loss_sample_guess_shape (K : PySem.W.Frag) : SpG := sh (sp_levels_that K) [3, 2, 1, 0]
abbrev act_need_loss (acts : Acts) : Acts := fun g tl => false = true ∧ acts g tl
def t_need_loss (K : PySem.W.Frag) (cells : List (Str × Addr)) (acts : Acts) (T : List (Addr × Str)) (pt : Option Addr) (W : WX) : TS :=
  (tIfS (tNot (tTru K (tFn (S_is_between K) (fun _ _ => act_need_loss acts) W (tCons (tVar 0) (tCons (tC (.int 0)) (tCons (tC (.int 7)) tNil))) tNil 3 0)))
  (tRaise0 (He.ga K "BadLoss") W)
  tNext)
abbrev act_need_guess (acts : Acts) : Acts := fun g tl => false = true ∧ acts g tl
def t_need_guess (K : PySem.W.Frag) (cells : List (Str × Addr)) (acts : Acts) (T : List (Addr × Str)) (pt : Option Addr) (W : WX) : TS :=
  (tIfS (tNot (tTru K (tFn (S_is_between K) (fun _ _ => act_need_guess acts) W (tCons (tVar 1) (tCons (tAttr K "low" (tVar 0)) (tCons (tAttr K "high" (tVar 0)) tNil))) tNil 3 0)))
  (tRaise0 (He.ga K "BadGuess") W)
  tNext)
abbrev act_step_of (acts : Acts) : Acts := fun g tl => false = true ∧ acts g tl
def t_step_of (K : PySem.W.Frag) (cells : List (Str × Addr)) (acts : Acts) (T : List (Addr × Str)) (pt : Option Addr) (W : WX) : TS :=
  (tRet (tOp (G.rBin K .Add) (tOp (G.rBin K .Mult) (tC (.int 2)) (tVar 0)) (tC (.int 1))))
abbrev act_level_from (acts : Acts) : Acts := fun g tl => false = true ∧ acts g tl
def t_level_from (K : PySem.W.Frag) (cells : List (Str × Addr)) (acts : Acts) (T : List (Addr × Str)) (pt : Option Addr) (W : WX) : TS :=
  (tSeq (tAsg (tOp (G.rBin K .FloorDiv) (tOp (G.rBin K .Add) (tCB G.rAbs1 (tCons (tVar 0) tNil)) (tVar 1)) (tFn (S_step_of K) (fun _ _ => act_level_from acts) W (tCons (tVar 1) tNil) tNil 1 0)) (gName 2))
  (tRet (tIf (tTest (tOp (G.rCmp K .GtE) (tVar 0) (tC (.int 0)))) (tVar 2) (tUn (rU fun i => .int (-i)) (tVar 2)))))
abbrev act_level_of (acts : Acts) : Acts := fun g tl => false = true ∧ acts g tl
def t_level_of (K : PySem.W.Frag) (cells : List (Str × Addr)) (acts : Acts) (T : List (Addr × Str)) (pt : Option Addr) (W : WX) : TS :=
  (tSeq (tDrop (tFn (S_need_told K) (fun _ _ => act_level_of acts) W (tCons (tVar 0) tNil) tNil 1 0))
  (tSeq (tDrop (tFn (S_need_loss K) (fun _ _ => act_level_of acts) W (tCons (tVar 1) tNil) tNil 1 0))
  (tRet (tFn (S_level_from K) (fun _ _ => act_level_of acts) W (tCons (tVar 0) (tCons (tVar 1) tNil)) tNil 2 0))))
abbrev act_clip (acts : Acts) : Acts := fun g tl => false = true ∧ acts g tl
def t_clip (K : PySem.W.Frag) (cells : List (Str × Addr)) (acts : Acts) (T : List (Addr × Str)) (pt : Option Addr) (W : WX) : TS :=
  (tRet (tCB (G.rMin2 K) (tCons (tCB (G.rMax2 K) (tCons (tVar 1) (tCons (tAttr K "low" (tVar 0)) tNil))) (tCons (tAttr K "high" (tVar 0)) tNil))))
abbrev act_rebuilt (acts : Acts) : Acts := fun g tl => false = true ∧ acts g tl
def t_rebuilt (K : PySem.W.Frag) (cells : List (Str × Addr)) (acts : Acts) (T : List (Addr × Str)) (pt : Option Addr) (W : WX) : TS :=
  (tSeq (tDrop (tFn (S_need_shape K) (fun _ _ => act_rebuilt acts) W (tCons (tVar 0) tNil) tNil 1 0))
  (tSeq (tDrop (tFn (S_need_guess K) (fun _ _ => act_rebuilt acts) W (tCons (tVar 0) (tCons (tVar 1) tNil)) tNil 2 0))
  (tSeq (tDrop (tFn (S_need_told K) (fun _ _ => act_rebuilt acts) W (tCons (tVar 2) tNil) tNil 1 0))
  (tSeq (tDrop (tFn (S_need_loss K) (fun _ _ => act_rebuilt acts) W (tCons (tVar 3) tNil) tNil 1 0))
  (tRet (tFn (S_clip K) (fun _ _ => act_rebuilt acts) W (tCons (tVar 0) (tCons (tOp (G.rBin K .Add) (tVar 1) (tOp (G.rBin K .Mult) (tVar 2) (tFn (S_step_of K) (fun _ _ => act_rebuilt acts) W (tCons (tVar 3) tNil) tNil 1 0))) tNil)) tNil 2 0))))))
abbrev act_levels_that (acts : Acts) : Acts := fun g tl => false = true ∧ acts g tl
def t_levels_that (K : PySem.W.Frag) (cells : List (Str × Addr)) (acts : Acts) (T : List (Addr × Str)) (pt : Option Addr) (W : WX) : TS :=
  (tSeq (tDrop (tFn (S_need_shape K) (fun _ _ => act_levels_that acts) W (tCons (tVar 0) tNil) tNil 1 0))
  (tSeq (tDrop (tFn (S_need_guess K) (fun _ _ => act_levels_that acts) W (tCons (tVar 0) (tCons (tVar 1) tNil)) tNil 2 0))
  (tSeq (tIfS (tNot (tTru K (tFn (S_is_between K) (fun _ _ => act_levels_that acts) W (tCons (tVar 2) (tCons (tAttr K "low" (tVar 0)) (tCons (tAttr K "high" (tVar 0)) tNil))) tNil 3 0)))
  (tRaise0 (He.ga K "BadNumber") W)
  tNext)
  (tSeq (tDrop (tFn (S_need_loss K) (fun _ _ => act_levels_that acts) W (tCons (tVar 3) tNil) tNil 1 0))
  (tSeq (tPar 4 5 (tCons (tFn (S_step_of K) (fun _ _ => act_levels_that acts) W (tCons (tVar 3) tNil) tNil 1 0) (tCons (tOp (G.rBin K .Sub) (tVar 2) (tVar 1)) tNil)))
  (tSeq (tPar 6 7 (tCons (tUn (rU fun i => .int (-i)) (tOp (G.rBin K .FloorDiv) (tUn (rU fun i => .int (-i)) (tVar 5)) (tVar 4))) (tCons (tOp (G.rBin K .FloorDiv) (tVar 5) (tVar 4)) tNil)))
  (tSeq (tIfS (tTest (tOp (G.rCmp K .Eq) (tVar 2) (tAttr K "high" (tVar 0))))
  (tAsg (tC (.int 32767)) (gName 7))
  tNext)
  (tSeq (tIfS (tTest (tOp (G.rCmp K .Eq) (tVar 2) (tAttr K "low" (tVar 0))))
  (tAsg (tUn (rU fun i => .int (-i)) (tC (.int 32767))) (gName 6))
  tNext)
  (tRet (tIf (tTest (tOp (G.rCmp K .LtE) (tVar 6) (tVar 7))) (tTup (tCons (tVar 6) (tCons (tVar 7) tNil))) (tC .non)))))))))))

section
variable {K : PySem.W.Frag} {cells : List (Str × Addr)} {acts : Acts} {T : List (Addr × Str)} {pt : Option Addr} {vs : List V} {H : Hp} {Q : VK} {E : XK}
theorem max_int {K : PySem.W.Frag} {H : Hp} {i j : Int} {Q : VK} (q : Q (.int (if j > i then j else i)) H) : G.rMax2 K [.int i, .int j] H Q := q
theorem abs_int {H : Hp} {i : Int} {Q : VK} (q : Q (.int (absZ i)) H) : G.rAbs1 [.int i] H Q := q
theorem neg_int {H : Hp} {i : Int} {Q : VK} (q : Q (.int (-i)) H) : rU (fun i => .int (-i)) (.int i) H Q := ⟨i, rfl, q⟩
theorem ok_need_loss (h : sp_need K "BadLoss" 0 7 vs H Q E) : vs.length = 1 ∧ t_need_loss K cells acts T pt (Ww E) (Dd Q) (L2.start ["loss"] vs) H := by
  obtain ⟨x, rfl, hk, h1, h2⟩ := h
  refine ⟨rfl, ?_⟩
  rw [show L2.start ["loss"] [x] = [some x] from rfl]
  unfold t_need_loss
  simp only [tSeq, tWhile, tAnd, tOr, tNot, tTest, tTru, tOp, tUn, tVar, tC, tLst, tTup, tNil, tAsg, tBM, tBM0, tCons, gSub, tIfS, tCB, gName, tRet, tRetN, tNext, tIf, tFn, tDrop, tRaise0, tAndT, tOrT, tNotT, tChain, tAug, tPar, tPar3, for_go, lc_go, iRng1, iRng2, iSeq, tSl, tPart, tNoPart, tRaiseA, tAttr, List.getElem?_cons_zero, List.getElem?_cons_succ, List.set_cons_zero, List.set_cons_succ, Option.some.injEq, exists_eq_left']
  refine ⟨rfl, rfl, x, 0, 7, rfl, hk, _, rfl, ?_⟩
  cases c : btw x 0 7 with
  | true => exact h1 c
  | false => exact h2 c
theorem ok_need_guess (c : ShC K) (h : sp_need_guess K vs H Q E) : vs.length = 2 ∧ t_need_guess K cells acts T pt (Ww E) (Dd Q) (L2.start ["shape", "guess"] vs) H := by
  obtain ⟨a, hh, ww, lo, hi, y, rfl, s, ky, h1, h2⟩ := h
  refine ⟨rfl, ?_⟩
  rw [show L2.start ["shape", "guess"] [V.ref a, y] = [some (.ref a), some y] from rfl]
  unfold t_need_guess
  simp only [tSeq, tWhile, tAnd, tOr, tNot, tTest, tTru, tOp, tUn, tVar, tC, tLst, tTup, tNil, tAsg, tBM, tBM0, tCons, gSub, tIfS, tCB, gName, tRet, tRetN, tNext, tIf, tFn, tDrop, tRaise0, tAndT, tOrT, tNotT, tChain, tAug, tPar, tPar3, for_go, lc_go, iRng1, iRng2, iSeq, tSl, tPart, tNoPart, tRaiseA, tAttr, List.getElem?_cons_zero, List.getElem?_cons_succ, List.set_cons_zero, List.set_cons_succ, Option.some.injEq, exists_eq_left']
  refine fld_low c s (fld_high c s ⟨rfl, rfl, y, lo, hi, rfl, ky, _, rfl, ?_⟩)
  cases b : btw y lo hi with
  | true => exact h1 b
  | false => exact h2 b
theorem ok_step_of (h : sp_step_of vs H Q E) : vs.length = 1 ∧ t_step_of K cells acts T pt (Ww E) (Dd Q) (L2.start ["loss"] vs) H := by
  obtain ⟨s, rfl, q⟩ := h
  refine ⟨rfl, ?_⟩
  rw [show L2.start ["loss"] [V.int s] = [some (.int s)] from rfl]
  unfold t_step_of
  simp only [tSeq, tWhile, tAnd, tOr, tNot, tTest, tTru, tOp, tUn, tVar, tC, tLst, tTup, tNil, tAsg, tBM, tBM0, tCons, gSub, tIfS, tCB, gName, tRet, tRetN, tNext, tIf, tFn, tDrop, tRaise0, tAndT, tOrT, tNotT, tChain, tAug, tPar, tPar3, for_go, lc_go, iRng1, iRng2, iSeq, tSl, tPart, tNoPart, tRaiseA, tAttr, List.getElem?_cons_zero, List.getElem?_cons_succ, List.set_cons_zero, List.set_cons_succ, Option.some.injEq, exists_eq_left']
  exact mul_int (K := K) (by decide) (by decide) (G.add_int (K := K) q)
theorem ok_level_from (h : sp_level_from vs H Q E) : vs.length = 2 ∧ t_level_from K cells acts T pt (Ww E) (Dd Q) (L2.start ["rest", "loss", "level"] vs) H := by
  obtain ⟨r, s, rfl, s0, s1, q⟩ := h
  refine ⟨rfl, ?_⟩
  rw [show L2.start ["rest", "loss", "level"] [V.int r, .int s] = [some (.int r), some (.int s), none] from rfl]
  unfold t_level_from
  simp only [tSeq, tWhile, tAnd, tOr, tNot, tTest, tTru, tOp, tUn, tVar, tC, tLst, tTup, tNil, tAsg, tBM, tBM0, tCons, gSub, tIfS, tCB, gName, tRet, tRetN, tNext, tIf, tFn, tDrop, tRaise0, tAndT, tOrT, tNotT, tChain, tAug, tPar, tPar3, for_go, lc_go, iRng1, iRng2, iSeq, tSl, tPart, tNoPart, tRaiseA, tAttr, List.getElem?_cons_zero, List.getElem?_cons_succ, List.set_cons_zero, List.set_cons_succ, Option.some.injEq, exists_eq_left']
  refine abs_int (G.add_int ⟨rfl, rfl, s, rfl, div_int (by omega) (by omega) (ge_int ⟨_, rfl, ?_⟩)⟩)
  unfold lvlZ at q
  by_cases c : 0 ≤ r
  · rw [if_pos (decide_eq_true c)]
    rw [if_pos c] at q
    exact q
  · rw [if_neg (by rw [decide_eq_true_eq]; exact c)]
    rw [if_neg c] at q
    exact neg_int q
theorem ok_level_of (h : sp_level_of K vs H Q E) : vs.length = 2 ∧ t_level_of K cells acts T pt (Ww E) (Dd Q) (L2.start ["rest", "loss"] vs) H := by
  obtain ⟨x, y, rfl, kx, ky, h1, h2, h3⟩ := h
  refine ⟨rfl, ?_⟩
  rw [show L2.start ["rest", "loss"] [x, y] = [some x, some y] from rfl]
  unfold t_level_of
  simp only [tSeq, tWhile, tAnd, tOr, tNot, tTest, tTru, tOp, tUn, tVar, tC, tLst, tTup, tNil, tAsg, tBM, tBM0, tCons, gSub, tIfS, tCB, gName, tRet, tRetN, tNext, tIf, tFn, tDrop, tRaise0, tAndT, tOrT, tNotT, tChain, tAug, tPar, tPar3, for_go, lc_go, iRng1, iRng2, iSeq, tSl, tPart, tNoPart, tRaiseA, tAttr, List.getElem?_cons_zero, List.getElem?_cons_succ, List.set_cons_zero, List.set_cons_succ, Option.some.injEq, exists_eq_left']
  refine ⟨rfl, rfl, x, rfl, kx, fun bx => ⟨rfl, rfl, y, rfl, ky, fun b_y => ?_, h2 bx⟩, h1⟩
  obtain ⟨r, rfl, r0, r1⟩ := btw_int bx
  obtain ⟨s, rfl, s0, s1⟩ := btw_int b_y
  exact ⟨rfl, rfl, r, s, rfl, s0, s1, h3 r s rfl rfl r0 r1 s0 s1⟩
theorem ok_clip (c : ShC K) (h : sp_clip K vs H Q E) : vs.length = 2 ∧ t_clip K cells acts T pt (Ww E) (Dd Q) (L2.start ["shape", "number"] vs) H := by
  obtain ⟨a, hh, ww, lo, hi, n, rfl, s, q⟩ := h
  refine ⟨rfl, ?_⟩
  rw [show L2.start ["shape", "number"] [V.ref a, .int n] = [some (.ref a), some (.int n)] from rfl]
  unfold t_clip
  simp only [tSeq, tWhile, tAnd, tOr, tNot, tTest, tTru, tOp, tUn, tVar, tC, tLst, tTup, tNil, tAsg, tBM, tBM0, tCons, gSub, tIfS, tCB, gName, tRet, tRetN, tNext, tIf, tFn, tDrop, tRaise0, tAndT, tOrT, tNotT, tChain, tAug, tPar, tPar3, for_go, lc_go, iRng1, iRng2, iSeq, tSl, tPart, tNoPart, tRaiseA, tAttr, List.getElem?_cons_zero, List.getElem?_cons_succ, List.set_cons_zero, List.set_cons_succ, Option.some.injEq, exists_eq_left']
  exact fld_low c s (max_int (K := K) (fld_high c s (min_int (K := K) q)))
theorem ok_rebuilt (c : ShC K) (h : sp_rebuilt K vs H Q E) : vs.length = 4 ∧ t_rebuilt K cells acts T pt (Ww E) (Dd Q) (L2.start ["shape", "guess", "level", "loss"] vs) H := by
  obtain ⟨x, y, z, u, rfl, ky, kz, ku, h⟩ := h
  refine ⟨rfl, ?_⟩
  rw [show L2.start ["shape", "guess", "level", "loss"] [x, y, z, u] = [some x, some y, some z, some u] from rfl]
  unfold t_rebuilt
  simp only [tSeq, tWhile, tAnd, tOr, tNot, tTest, tTru, tOp, tUn, tVar, tC, tLst, tTup, tNil, tAsg, tBM, tBM0, tCons, gSub, tIfS, tCB, gName, tRet, tRetN, tNext, tIf, tFn, tDrop, tRaise0, tAndT, tOrT, tNotT, tChain, tAug, tPar, tPar3, for_go, lc_go, iRng1, iRng2, iSeq, tSl, tPart, tNoPart, tRaiseA, tAttr, List.getElem?_cons_zero, List.getElem?_cons_succ, List.set_cons_zero, List.set_cons_succ, Option.some.injEq, exists_eq_left']
  rcases h with ⟨kx, e⟩ | ⟨a, hh, ww, lo, hi, rfl, s, h1, h2, h3, h4⟩
  · exact ⟨rfl, rfl, x, rfl, .inl ⟨kx, e⟩⟩
  refine ⟨rfl, rfl, _, rfl, .inr ⟨a, hh, ww, lo, hi, rfl, s, ⟨rfl, rfl, a, hh, ww, lo, hi, y, rfl, s, ky, fun b_y => ?_, h1⟩⟩⟩
  refine ⟨rfl, rfl, z, rfl, kz, fun bz => ⟨rfl, rfl, u, rfl, ku, fun bu => ?_, h3 b_y bz⟩, h2 b_y⟩
  obtain ⟨g, rfl, g0, g1⟩ := btw_int b_y
  obtain ⟨l, rfl, l0, l1⟩ := btw_int bz
  obtain ⟨s', rfl, s0, s1⟩ := btw_int bu
  exact ⟨rfl, rfl, s', rfl, mul_int (by omega) (by omega) (G.add_int ⟨rfl, rfl, a, hh, ww, lo, hi, _, rfl, s, h4 g l s' rfl rfl rfl g0 g1 l0 l1 s0 s1⟩)⟩
theorem ok_levels_that (c : ShC K) (h : sp_levels_that K vs H Q E) : vs.length = 4 ∧ t_levels_that K cells acts T pt (Ww E) (Dd Q) (L2.start ["shape", "guess", "sample", "loss", "step", "rest", "least", "most"] vs) H := by
  obtain ⟨x, y, z, u, rfl, ky, kz, ku, h⟩ := h
  refine ⟨rfl, ?_⟩
  rw [show L2.start ["shape", "guess", "sample", "loss", "step", "rest", "least", "most"] [x, y, z, u] = [some x, some y, some z, some u, none, none, none, none] from rfl]
  unfold t_levels_that
  simp only [tSeq, tWhile, tAnd, tOr, tNot, tTest, tTru, tOp, tUn, tVar, tC, tLst, tTup, tNil, tAsg, tBM, tBM0, tCons, gSub, tIfS, tCB, gName, tRet, tRetN, tNext, tIf, tFn, tDrop, tRaise0, tAndT, tOrT, tNotT, tChain, tAug, tPar, tPar3, for_go, lc_go, iRng1, iRng2, iSeq, tSl, tPart, tNoPart, tRaiseA, tAttr, List.getElem?_cons_zero, List.getElem?_cons_succ, List.set_cons_zero, List.set_cons_succ, Option.some.injEq, exists_eq_left']
  rcases h with ⟨kx, e⟩ | ⟨a, hh, ww, lo, hi, rfl, s, h1, h2, h3, h4⟩
  · exact ⟨rfl, rfl, x, rfl, .inl ⟨kx, e⟩⟩
  refine ⟨rfl, rfl, _, rfl, .inr ⟨a, hh, ww, lo, hi, rfl, s, ⟨rfl, rfl, a, hh, ww, lo, hi, y, rfl, s, ky, fun b_y => ?_, h1⟩⟩⟩
  refine fld_low c s (fld_high c s ⟨rfl, rfl, z, lo, hi, rfl, kz, _, rfl, ?_⟩)
  cases bz : btw z lo hi with
  | false => exact h2 b_y bz
  | true =>
  rw [if_neg (by simp)]
  refine ⟨rfl, rfl, u, rfl, ku, fun bu => ?_, h3 b_y bz⟩
  obtain ⟨g, rfl, g0, g1⟩ := btw_int b_y
  obtain ⟨n, rfl, l0, l1⟩ := btw_int bz
  obtain ⟨s', rfl, s0, s1⟩ := btw_int bu
  have h5 := h4 g n s' rfl rfl rfl g0 g1 l0 l1 s0 s1
  refine ⟨rfl, rfl, s', rfl, G.sub_int ⟨_, _, rfl, neg_int (div_int (by omega) (by omega) (neg_int (div_int (by omega) (by omega) ⟨_, _, rfl, fld_high c s (eq_int ⟨_, rfl, ?_⟩)⟩)))⟩⟩
  unfold spanZ at h5
  dsimp only at h5
  have fin : ∀ (p q : Int), OutT (if p ≤ q then some (p, q) else none) H Q → G.rCmp K .LtE (.int p) (.int q) H fun x H' => ∃ k, x = V.bl k ∧ if k = true then [V.int p, .int q].length ≤ sizeLine ∧ ∀ (t : Addr), H' t = none → Q (.ref t) (upd H' t (.tup [.int p, .int q])) else Q .non H' := by
    intro p q o
    refine le_int ⟨_, rfl, ?_⟩
    by_cases cc : p ≤ q
    · rw [if_pos cc] at o
      rw [if_pos (decide_eq_true cc)]
      exact ⟨small2 rfl, o⟩
    · rw [if_neg cc] at o
      rw [if_neg (by rw [decide_eq_true_eq]; exact cc)]
      exact o
  by_cases c1 : n = hi
  · rw [if_pos (decide_eq_true c1)]
    rw [if_pos c1] at h5
    refine fld_low c s (eq_int ⟨_, rfl, ?_⟩)
    by_cases c2 : n = lo
    · rw [if_pos (decide_eq_true c2)]
      rw [if_pos c2] at h5
      exact neg_int (fin _ _ h5)
    · rw [if_neg (by rw [decide_eq_true_eq]; exact c2)]
      rw [if_neg c2] at h5
      exact fin _ _ h5
  · rw [if_neg (by rw [decide_eq_true_eq]; exact c1)]
    rw [if_neg c1] at h5
    refine fld_low c s (eq_int ⟨_, rfl, ?_⟩)
    by_cases c2 : n = lo
    · rw [if_pos (decide_eq_true c2)]
      rw [if_pos c2] at h5
      exact neg_int (fin _ _ h5)
    · rw [if_neg (by rw [decide_eq_true_eq]; exact c2)]
      rw [if_neg c2] at h5
      exact fin _ _ h5
end
end Pk

set_option Elab.async false
set_option linter.all false
set_option maxRecDepth 100000
set_option maxHeartbeats 8000000
namespace Pk
open PySem PySem.Spec PyProof.Rows L2 LamX G
/-! ### the laws' scopes: a shape's four numbers in a dict -/
abbrev clampZ (lo hi n : Int) : Int := if hi < (if lo > n then lo else n) then hi else (if lo > n then lo else n)
def scL (h w lo hi : Int) : List (Key × V) := [(kS "tall", .int h), (kS "wide", .int w), (kS "least", .int lo), (kS "most", .int hi)]
def ScAt (st : Addr) (H : Hp) (p : Addr) (h w lo hi : Int) : Prop := H p = some (.dK (scL h w lo hi)) ∧ p ≠ st ∧ 1 ≤ h ∧ h ≤ 16 ∧ 1 ≤ w ∧ w ≤ 16 ∧ -512 ≤ lo ∧ lo ≤ hi ∧ hi ≤ 511
section
variable {K : PySem.W.Frag} {H H1 : Hp} {p st La Ca : Addr} {h w lo hi t : Int} {Q : VK}
theorem sc_tall (s : ScAt st H p h w lo hi) (q : Q (.int h) H) : G.rSub2 K (.ref p) (.str "tall") H Q := sub_k s.1 (by rfl) q
theorem sc_wide (s : ScAt st H p h w lo hi) (q : Q (.int w) H) : G.rSub2 K (.ref p) (.str "wide") H Q := sub_k s.1 (by rfl) q
theorem sc_least (s : ScAt st H p h w lo hi) (q : Q (.int lo) H) : G.rSub2 K (.ref p) (.str "least") H Q := sub_k s.1 (by rfl) q
theorem sc_most (s : ScAt st H p h w lo hi) (q : Q (.int hi) H) : G.rSub2 K (.ref p) (.str "most") H Q := sub_k s.1 (by rfl) q
theorem ScAt.keep (s : ScAt st H p h w lo hi) (d : Drw st La Ca H t) (n : DrN st La H H1) : ScAt st H1 p h w lo hi := by
  obtain ⟨ys, z2⟩ := d.la
  exact ⟨n _ _ s.1 s.2.1 (fun e => by have z := s.1; rw [e, z2] at z; cases z) (fun _ e => nomatch e), s.2⟩
theorem ScAt.new {q : Addr} {o : HO} (s : ScAt st H p h w lo hi) (hq : H q = none) : ScAt st (upd H q o) p h w lo hi := ⟨keep_new s.1 hq, s.2⟩
theorem ScAt.same (s : ScAt st H p h w lo hi) (n : Same H H1) : ScAt st H1 p h w lo hi := ⟨n _ _ s.1, s.2⟩
theorem same_dr (n : Same H H1) : Dr st La H H1 := fun b o e _ _ => n b o e
theorem drw_same (d : Drw st La Ca H t) (n : Same H H1) : Drw st La Ca H1 t := d.ext fun b o e _ => n b o e
theorem same_newS {q : Addr} {o : HO} (e : Same H H1) (n : H1 q = none) : Same H (upd H1 q o) := fun b u h => by
  rw [upd_ne (ne_of_none (e b u h) n)]
  exact e b u h
/-- constant pairs in a list -/
def pairsT : List (Int × Int) → TA
  | [] => tNil
  | p :: r => tCons (tTup (tCons (tC (.int p.1)) (tCons (tC (.int p.2)) tNil))) (pairsT r)
theorem pairs_in : ∀ (ps : List (Int × Int)) {σ : L2.St} {H : Hp} {R : List V → Hp → Prop}, (∀ xs H', Same H H' → xs.length = ps.length → (∀ x ∈ xs, ∃ p ∈ ps, ∃ a, x = .ref a ∧ H' a = some (.tup [.int p.1, .int p.2])) → R xs H') → pairsT ps σ H R
  | [], σ, H, R, q => q [] H (Same.refl H) rfl fun x hx => nomatch hx
  | p :: r, σ, H, R, q => by
    refine ⟨small rfl, fun a ha => ?_⟩
    refine pairs_in r fun xs H' s l hx => q _ H' (fun b o e => s _ _ (keep_new e ha)) (by rw [List.length_cons, List.length_cons, l]) fun x hx2 => ?_
    rcases List.mem_cons.mp hx2 with rfl | h
    · exact ⟨p, List.mem_cons_self, a, rfl, s _ _ upd_same⟩
    · obtain ⟨p', m, r⟩ := hx x h
      exact ⟨p', List.mem_cons_of_mem _ m, r⟩
theorem pairs_go (ps : List (Int × Int)) {σ : L2.St} (hl : ps.length ≤ 100) (q : ∀ l xs H', H l = none → Same H H' → xs.length = ps.length → H' l = some (.lst xs) → (∀ x ∈ xs, ∃ p ∈ ps, ∃ a, x = .ref a ∧ H' a = some (.tup [.int p.1, .int p.2])) → Q (.ref l) H') : tLst (pairsT ps) σ H Q := by
  refine pairs_in ps fun xs H' s l hx => ⟨by rw [sizeLine_eq]; omega, fun a ha => q a xs _ ?_ (same_new s ?_) l upd_same fun x hx2 => ?_⟩
  · cases z : H a with
    | none => rfl
    | some o => rw [s _ _ z] at ha; cases ha
  · cases z : H a with
    | none => rfl
    | some o => rw [s _ _ z] at ha; cases ha
  · obtain ⟨p, m, b, e1, e2⟩ := hx x hx2
    exact ⟨p, m, b, e1, keep_new e2 ha⟩
end
def sp_scope : SpD := fun vs H Q _ => ∃ (st La Ca : Addr) (t : Int), vs = [.ref st] ∧ t ≤ 2 ^ 39 ∧ Drw st La Ca H t ∧ ∀ p H' h w lo hi, H p = none → ScAt st H' p h w lo hi → Drw st La Ca H' (t + 4) → Dr st La H H' → Q (.ref p) H'
def sp_form (K : PySem.W.Frag) : SpD := fun vs H Q _ => ∃ (st p : Addr) (h w lo hi : Int), vs = [.ref p] ∧ ScAt st H p h w lo hi ∧ ∀ a H', H a = none → ShAt K H' a h w lo hi → Same H H' → Q (.ref a) H'
def sp_within : SpD := fun vs H Q _ => ∃ (st p : Addr) (h w lo hi i : Int), vs = [.ref p, .int i] ∧ ScAt st H p h w lo hi ∧ Q (.int (clampZ lo hi i)) H
def sp_grain : SpD := fun vs H Q _ => ∃ (st La Ca p : Addr) (t h w lo hi : Int), vs = [.ref st, .ref p] ∧ t ≤ 2 ^ 39 ∧ Drw st La Ca H t ∧ ScAt st H p h w lo hi ∧ ∀ g H', lo ≤ g → g ≤ hi → Drw st La Ca H' (t + 1) → Dr st La H H' → Q (.int g) H'
section
variable {K : PySem.W.Frag} {vs : List V} {H : Hp} {Q : VK} {E : XK} {W : WX} {ac : L2.St → Hp → Acts} {n0 n1 n2 n3 n4 n5 : Str}
def scA : List (Int × Int) := [(1, 1), (2, 2), (2, 3), (3, 2), (4, 4), (1, 5), (5, 1), (3, 4), (2, 6), (5, 6), (9, 2)]
def scB : List (Int × Int) := [(2, 10), (3, 16), (8, 8), (10, 9)]
def rdScope (K : PySem.W.Frag) (ac : L2.St → Hp → Acts) (W : WX) : TS :=
  (tSeq (tAsg (tLst (pairsT scA)) (gName 1))
  (tSeq (tAsg (tIf (tTest (tOp (G.rCmp K .Gt) (tFn spDraw ac W (tCons (tVar 0) (tCons (tC (.int 6)) tNil)) tNil 2 0) (tC (.int 0)))) (tVar 1) (tLst (pairsT scB))) (gName 1))
  (tSeq (tAsg (tFn spPick ac W (tCons (tVar 0) (tCons (tVar 1) tNil)) tNil 2 0) (gSeq K 2 (gCons (gName 2) (gCons (gName 3) gNil))))
  (tSeq (tAsg (tFn spPick ac W (tCons (tVar 0) (tCons (tLst (tCons (tC (.int 0)) (tCons (tC (.int 0)) (tCons (tC (.int 0)) (tCons (tUn (rU fun i => .int (-i)) (tC (.int 4))) (tCons (tUn (rU fun i => .int (-i)) (tC (.int 512))) (tCons (tC (.int 3)) tNil))))))) tNil)) tNil 2 0) (gName 4))
  (tSeq (tAsg (tCB (G.rMin2 K) (tCons (tC (.int 511)) (tCons (tOp (G.rBin K .Add) (tVar 4) (tFn spPick ac W (tCons (tVar 0) (tCons (tLst (tCons (tC (.int 0)) (tCons (tC (.int 1)) (tCons (tC (.int 3)) (tCons (tC (.int 9)) (tCons (tC (.int 15)) (tCons (tC (.int 255)) (tCons (tC (.int 1023)) tNil)))))))) tNil)) tNil 2 0)) tNil))) (gName 5))
  (tRet (tDisp [((tC (.str "tall")), (tVar 2)), ((tC (.str "wide")), (tVar 3)), ((tC (.str "least")), (tVar 4)), ((tC (.str "most")), (tVar 5))]))))))) 
theorem sc_pairs : ∀ p ∈ scA ++ scB, 1 ≤ p.1 ∧ p.1 ≤ 16 ∧ 1 ≤ p.2 ∧ p.2 ≤ 16 := by decide
theorem ok_scope (h : sp_scope vs H Q E) : vs.length = 1 ∧ rdScope K ac W (Dd Q) (L2.start [n0, n1, n2, n3, n4, n5] vs) H := by
  obtain ⟨st, La, Ca, t, rfl, tl, d, q⟩ := h
  refine ⟨rfl, ?_⟩
  rw [show L2.start [n0, n1, n2, n3, n4, n5] [V.ref st] = [some (.ref st), none, none, none, none, none] from rfl]
  unfold rdScope
  refine sq_asg2 (pairs_go scA (Nat.le_of_ble_eq_true rfl) fun l xs H1 nl s1 lx el hx => ?_)
  refine sq_asg2 ?_
  have d1 := drw_same d s1
  have ml : l ≠ st ∧ l ≠ La ∧ l ≠ Ca := drw_ne d nl
  simp only [tIf, tTest, tOp, tFn, tCons, tVar, tC, tNil, List.getElem?_cons_zero, List.getElem?_cons_succ, List.set_cons_zero, List.set_cons_succ, Option.some.injEq, exists_eq_left']
  refine ⟨rfl, rfl, st, La, Ca, 6, t, rfl, by decide, by decide, by omega, d1, fun r H2 r0 r1 d2 f2 => gt_int ⟨_, rfl, ?_⟩⟩
  have go : ∀ l2 xs2 H3, l2 ≠ La → Drw st La Ca H3 (t + 1) → Dr st La H H3 → 0 < xs2.length → xs2.length ≤ 100 → H3 l2 = some (.lst xs2) → (∀ x ∈ xs2, ∃ p ∈ scA ++ scB, ∃ a, x = .ref a ∧ H3 a = some (.tup [.int p.1, .int p.2])) →
      (tSeq (tAsg (tFn spPick ac W (tCons (tVar 0) (tCons (tVar 1) tNil)) tNil 2 0) (gSeq K 2 (gCons (gName 2) (gCons (gName 3) gNil))))
  (tSeq (tAsg (tFn spPick ac W (tCons (tVar 0) (tCons (tLst (tCons (tC (.int 0)) (tCons (tC (.int 0)) (tCons (tC (.int 0)) (tCons (tUn (rU fun i => .int (-i)) (tC (.int 4))) (tCons (tUn (rU fun i => .int (-i)) (tC (.int 512))) (tCons (tC (.int 3)) tNil))))))) tNil)) tNil 2 0) (gName 4))
  (tSeq (tAsg (tCB (G.rMin2 K) (tCons (tC (.int 511)) (tCons (tOp (G.rBin K .Add) (tVar 4) (tFn spPick ac W (tCons (tVar 0) (tCons (tLst (tCons (tC (.int 0)) (tCons (tC (.int 1)) (tCons (tC (.int 3)) (tCons (tC (.int 9)) (tCons (tC (.int 15)) (tCons (tC (.int 255)) (tCons (tC (.int 1023)) tNil)))))))) tNil)) tNil 2 0)) tNil))) (gName 5))
  (tRet (tDisp [((tC (.str "tall")), (tVar 2)), ((tC (.str "wide")), (tVar 3)), ((tC (.str "least")), (tVar 4)), ((tC (.str "most")), (tVar 5))]))))) (Dd Q) [some (.ref st), some (.ref l2), none, none, none, none] H3 := by
    intro l2 xs2 H3 m2 d3 f3 z0 z1 e3 hx3
    simp only [tSeq, tWhile, tAnd, tOr, tNot, tTest, tTru, tOp, tUn, tVar, tC, tLst, tTup, tNil, tAsg, tBM, tBM0, tCons, gSub, tIfS, tCB, gName, tRet, tRetN, tNext, tIf, tFn, tDrop, tRaise0, tAndT, tOrT, tNotT, tChain, tAug, tPar, tPar3, for_go, lc_go, iRng1, iRng2, iSeq, tSl, tPart, tNoPart, tRaiseA, tAttr, List.getElem?_cons_zero, List.getElem?_cons_succ, List.set_cons_zero, List.set_cons_succ, Option.some.injEq, exists_eq_left']
    refine ⟨rfl, rfl, st, La, Ca, _, l2, xs2, rfl, by omega, d3, m2, e3, z0, by omega, fun x H4 hx4 d4 f4 => ?_⟩
    obtain ⟨p, mp, a, rfl, ea⟩ := hx3 x hx4
    obtain ⟨p1, p2, p3, p4⟩ := sc_pairs p mp
    refine .inl ⟨a, _, rfl, .inl (.inl (d3.keepT f4.n ea)), rfl, _, _, rfl, _, _, rfl, rfl, ?_⟩
    try simp only [tSeq, tWhile, tAnd, tOr, tNot, tTest, tTru, tOp, tUn, tVar, tC, tLst, tTup, tNil, tAsg, tBM, tBM0, tCons, gSub, tIfS, tCB, gName, tRet, tRetN, tNext, tIf, tFn, tDrop, tRaise0, tAndT, tOrT, tNotT, tChain, tAug, tPar, tPar3, for_go, lc_go, iRng1, iRng2, iSeq, tSl, tPart, tNoPart, tRaiseA, tAttr, List.getElem?_cons_zero, List.getElem?_cons_succ, List.set_cons_zero, List.set_cons_succ, Option.some.injEq, exists_eq_left']
    refine ⟨4, rfl, 512, rfl, small rfl, fun q1 hq1 => ⟨rfl, rfl, pick_new d4 (by omega) hq1 (Nat.le_of_ble_eq_true rfl) (Nat.le_of_ble_eq_true rfl) fun y H5 hy d5 f5 => ?_⟩⟩
    obtain ⟨lo, rfl, lo0, lo1⟩ : ∃ lo, y = V.int lo ∧ -512 ≤ lo ∧ lo ≤ 3 := by
      simp only [List.mem_cons, List.not_mem_nil, or_false] at hy
      rcases hy with rfl | rfl | rfl | rfl | rfl | rfl <;> exact ⟨_, rfl, by omega, by omega⟩
    refine ⟨small rfl, fun q2 hq2 => ⟨rfl, rfl, pick_new d5 (by omega) hq2 (Nat.le_of_ble_eq_true rfl) (Nat.le_of_ble_eq_true rfl) fun y H6 hy2 d6 f6 => ?_⟩⟩
    obtain ⟨sp, rfl, sp0⟩ : ∃ sp, y = V.int sp ∧ 0 ≤ sp := by
      simp only [List.mem_cons, List.not_mem_nil, or_false] at hy2
      rcases hy2 with rfl | rfl | rfl | rfl | rfl | rfl | rfl <;> exact ⟨_, rfl, by omega⟩
    refine G.add_int (min_int ?_)
    intro pp hpp
    show tPairs _ _ _ _
    simp only [tPairs, tSeq, tWhile, tAnd, tOr, tNot, tTest, tTru, tOp, tUn, tVar, tC, tLst, tTup, tNil, tAsg, tBM, tBM0, tCons, gSub, tIfS, tCB, gName, tRet, tRetN, tNext, tIf, tFn, tDrop, tRaise0, tAndT, tOrT, tNotT, tChain, tAug, tPar, tPar3, for_go, lc_go, iRng1, iRng2, iSeq, tSl, tPart, tNoPart, tRaiseA, tAttr, List.getElem?_cons_zero, List.getElem?_cons_succ, List.set_cons_zero, List.set_cons_succ, Option.some.injEq, exists_eq_left']
    refine ⟨upd_same, [(kS "tall", .int p.1), (kS "wide", .int p.2), (kS "least", .int lo), (kS "most", .int _)], rfl, Nat.le_of_ble_eq_true rfl, ?_⟩
    rw [upd_upd]
    have f7 := ((f3.trans f4).trans f5).trans f6
    have n7 : H pp = none := by
      cases z : H pp with
      | none => rfl
      | some o =>
        have m := drw_ne d6 hpp
        rw [f7 _ _ z m.1 m.2.1] at hpp
        cases hpp
    refine q pp _ p.1 p.2 lo _ n7 ⟨upd_same, (drw_ne d6 hpp).1, p1, p2, p3, p4, lo0, ?_, ?_⟩ ((d6.new hpp).mono (by omega)) (f7.new hpp)
    · split <;> omega
    · split <;> omega
  by_cases c : 0 < r
  · rw [if_pos (decide_eq_true c)]
    have ek := f2 _ _ el ml.1 ml.2.1
    refine go l xs H2 ml.2.1 d2 ((same_dr s1).trans f2) (by rw [lx]; exact Nat.le_of_ble_eq_true rfl) (by rw [lx]; exact Nat.le_of_ble_eq_true rfl) ek fun x hx2 => ?_
    obtain ⟨p, mp, a, e1, e2⟩ := hx x hx2
    exact ⟨p, List.mem_append.mpr (.inl mp), a, e1, d1.keepT f2.n e2⟩
  · rw [if_neg (by rw [decide_eq_true_eq]; exact c)]
    refine pairs_go scB (Nat.le_of_ble_eq_true rfl) fun l2 xs2 H3 nl2 s3 lx2 el2 hx2 => ?_
    refine go l2 xs2 H3 (drw_ne d2 nl2).2.1 (drw_same d2 s3) (((same_dr s1).trans f2).trans (same_dr s3)) (by rw [lx2]; exact Nat.le_of_ble_eq_true rfl) (by rw [lx2]; exact Nat.le_of_ble_eq_true rfl) el2 fun x hx3 => ?_
    obtain ⟨p, mp, a, e1, e2⟩ := hx2 x hx3
    exact ⟨p, List.mem_append.mpr (.inr mp), a, e1, e2⟩
def rdForm (K : PySem.W.Frag) (ac : L2.St → Hp → Acts) (W : WX) : TS := (tRet (tFn (S_Shape K) ac W (tCons (tOp (G.rSub2 K) (tVar 0) (tC (.str "tall"))) (tCons (tOp (G.rSub2 K) (tVar 0) (tC (.str "wide"))) (tCons (tOp (G.rSub2 K) (tVar 0) (tC (.str "least"))) (tCons (tOp (G.rSub2 K) (tVar 0) (tC (.str "most"))) tNil)))) tNil 4 0))
theorem ok_form (h : sp_form K vs H Q E) : vs.length = 1 ∧ rdForm K ac W (Dd Q) (L2.start [n0] vs) H := by
  obtain ⟨st, p, hh, w, lo, hi, rfl, s, q⟩ := h
  refine ⟨rfl, ?_⟩
  rw [show L2.start [n0] [V.ref p] = [some (.ref p)] from rfl]
  unfold rdForm
  simp only [tSeq, tWhile, tAnd, tOr, tNot, tTest, tTru, tOp, tUn, tVar, tC, tLst, tTup, tNil, tAsg, tBM, tBM0, tCons, gSub, tIfS, tCB, gName, tRet, tRetN, tNext, tIf, tFn, tDrop, tRaise0, tAndT, tOrT, tNotT, tChain, tAug, tPar, tPar3, for_go, lc_go, iRng1, iRng2, iSeq, tSl, tPart, tNoPart, tRaiseA, tAttr, List.getElem?_cons_zero, List.getElem?_cons_succ, List.set_cons_zero, List.set_cons_succ, Option.some.injEq, exists_eq_left']
  refine sc_tall s (sc_wide s (sc_least s (sc_most s ⟨rfl, rfl, fun x dx hx hdx nx => ?_⟩)))
  obtain ⟨e, _, b1, b2, b3, b4, b5, b6, b7⟩ := s
  refine ⟨x, dx, .int hh, .int w, .int lo, .int hi, rfl, upd_same, trivial, trivial, trivial, trivial, fun c => ?_, fun _ c => ?_, fun _ _ c => ?_, fun lo' _ _ el _ _ => ⟨fun c => ?_, fun h' w' hi' e1 e2 e3 _ _ => ⟨rfl, ?_⟩⟩⟩
  · rw [btw_of b1 b2] at c; cases c
  · rw [btw_of b3 b4] at c; cases c
  · rw [btw_of b5 (by omega)] at c; cases c
  · cases el; rw [btw_of b6 b7] at c; cases c
  · cases el; cases e1; cases e2; cases e3
    refine q x _ hx ⟨⟨dx, .non, upd_same⟩, b1, b2, b3, b4, b5, b6, b7⟩ fun b o eb => ?_
    rw [upd_upd, upd_ne (ne_of_none eb hx), upd_ne (ne_of_none eb hdx)]
    exact eb
def rdWithin (K : PySem.W.Frag) : TS := (tRet (tCB (G.rMin2 K) (tCons (tCB (G.rMax2 K) (tCons (tVar 1) (tCons (tOp (G.rSub2 K) (tVar 0) (tC (.str "least"))) tNil))) (tCons (tOp (G.rSub2 K) (tVar 0) (tC (.str "most"))) tNil))))
theorem ok_within (h : sp_within vs H Q E) : vs.length = 2 ∧ rdWithin K (Dd Q) (L2.start [n0, n1] vs) H := by
  obtain ⟨st, p, hh, w, lo, hi, i, rfl, s, q⟩ := h
  refine ⟨rfl, ?_⟩
  rw [show L2.start [n0, n1] [V.ref p, .int i] = [some (.ref p), some (.int i)] from rfl]
  unfold rdWithin
  simp only [tSeq, tWhile, tAnd, tOr, tNot, tTest, tTru, tOp, tUn, tVar, tC, tLst, tTup, tNil, tAsg, tBM, tBM0, tCons, gSub, tIfS, tCB, gName, tRet, tRetN, tNext, tIf, tFn, tDrop, tRaise0, tAndT, tOrT, tNotT, tChain, tAug, tPar, tPar3, for_go, lc_go, iRng1, iRng2, iSeq, tSl, tPart, tNoPart, tRaiseA, tAttr, List.getElem?_cons_zero, List.getElem?_cons_succ, List.set_cons_zero, List.set_cons_succ, Option.some.injEq, exists_eq_left']
  exact sc_least s (show G.rMax2 K [.int i, .int lo] H _ from sc_most s (min_int (K := K) q))
def rdGrain (K : PySem.W.Frag) (ac : L2.St → Hp → Acts) (W : WX) : TS := (tRet (tOp (G.rBin K .Add) (tOp (G.rSub2 K) (tVar 1) (tC (.str "least"))) (tFn spDraw ac W (tCons (tVar 0) (tCons (tOp (G.rBin K .Add) (tOp (G.rBin K .Sub) (tOp (G.rSub2 K) (tVar 1) (tC (.str "most"))) (tOp (G.rSub2 K) (tVar 1) (tC (.str "least")))) (tC (.int 1))) tNil)) tNil 2 0)))
theorem ok_grain (h : sp_grain vs H Q E) : vs.length = 2 ∧ rdGrain K ac W (Dd Q) (L2.start [n0, n1] vs) H := by
  obtain ⟨st, La, Ca, p, t, hh, w, lo, hi, rfl, tl, d, s, q⟩ := h
  refine ⟨rfl, ?_⟩
  rw [show L2.start [n0, n1] [V.ref st, .ref p] = [some (.ref st), some (.ref p)] from rfl]
  unfold rdGrain
  simp only [tSeq, tWhile, tAnd, tOr, tNot, tTest, tTru, tOp, tUn, tVar, tC, tLst, tTup, tNil, tAsg, tBM, tBM0, tCons, gSub, tIfS, tCB, gName, tRet, tRetN, tNext, tIf, tFn, tDrop, tRaise0, tAndT, tOrT, tNotT, tChain, tAug, tPar, tPar3, for_go, lc_go, iRng1, iRng2, iSeq, tSl, tPart, tNoPart, tRaiseA, tAttr, List.getElem?_cons_zero, List.getElem?_cons_succ, List.set_cons_zero, List.set_cons_succ, Option.some.injEq, exists_eq_left']
  obtain ⟨e, _, b1, b2, b3, b4, b5, b6, b7⟩ := id s
  exact sc_least s (sc_most s (sc_least s (G.sub_int (K := K) (G.add_int (K := K) ⟨rfl, rfl, st, La, Ca, _, t, rfl, by omega, by omega, by omega, d, fun r H' r0 r1 d' f' => G.add_int (K := K) (q _ H' (by omega) (by omega) d' f')⟩))))
end
end Pk

set_option Elab.async false
set_option linter.all false
set_option maxRecDepth 100000
set_option maxHeartbeats 8000000
namespace Pk
open PySem PySem.Spec PyProof.Rows L2 LamX G
/-! ### lambdas that are kept in lists -/
def LmV (Γ : Gam) (scope : Scope) (body : Expr) (H : Hp) (f : Addr) : Prop := ∃ (o : Obj) (c' : Addr), H f = some (frzO o) ∧ LamObj Γ.qual Γ.cells o body scope c' ∧ H c' = some (CodeO c' (Γ.qual ++ "<lambda>"))
section
variable {st La Ca : Addr} {K : PySem.W.Frag} {H0 H H1 : Hp} {t u : Int} {Γ : Gam} {sc scope : Scope} {body : Expr} {σ : L2.St} {Q : VK} {W : WX} {f : Addr} {n : Nat}
theorem LmV.keep (h : LmV Γ scope body H f) (d : Drw st La Ca H t) (m : DrN st La H H1) : LmV Γ scope body H1 f := by
  obtain ⟨o, c', h1, h2, h3⟩ := h
  obtain ⟨l, v, z⟩ := d.full
  obtain ⟨ys, z2⟩ := d.la
  exact ⟨o, c', m f _ h1 (fun e => by rw [e, z] at h1; cases h1) (fun e => by rw [e, z2] at h1; cases h1) (fun _ e => by cases e), h2, d.keepX m h3⟩
theorem lam_new (R : Rf Γ.T st La Ca H0 H t) (go : ∀ f H', Rf Γ.T st La Ca H0 H' t → DrN st La H H' → LmV Γ scope body H' f → Q (.ref f) H') : tLamV Γ.qual Γ.cells Γ.T body scope σ H Q :=
  ⟨R.T, fun f c' o H1 hE hT nf hL hc => go f _ ((R.lam hE hT).new nf) ((ext_n hE).new nf) ⟨o, c', upd_same, hL, keep_new hc nf⟩⟩
theorem caught_var {i : Nat} {lm : WX → TE} (hP : Γ.P.isSome = true) (L : lamSB sc scope = true) (hq : ∀ W', wE K n Γ.low scope W' body = lm W') (σi : σ[i]? = some (some (.ref f))) (hv : LmV Γ scope body H f)
    (h : lm (fun cls d _ H' => ErrK K Q (WE W σ) cls d H') σ H fun _ H' => Q .non H') : tFn (spCaught K) (actsAt Γ sc fun s W b => wE K n Γ.low s W b) W (tCons (tVar i) tNil) tNil 1 0 σ H Q := by
  obtain ⟨o, c', h1, h2, h3⟩ := hv
  refine ⟨_, σi, rfl, rfl, f, fun E H' Q' => H' c' = some (CodeO c' (Γ.qual ++ "<lambda>")) ∧ wE K n Γ.low scope (fun cls d _ H'' => E cls d H'') body σ H' Q', rfl, ?_, h3, ?_⟩
  · unfold actsAt
    cases e : Γ.P with
    | none => rw [e] at hP; cases hP
    | some p => exact .inr ⟨o, body, scope, c', hP, L, h1, h2, rfl⟩
  · rw [hq]
    exact h
/-- each of a row of lambdas is refused with the class C -/
theorem refuse_loop {C : Str} {T : List (Addr × Str)} {l : Addr} {xs : List V} {ix : Nat} {ac : L2.St → Hp → Acts} {D : Ends} {σ0 : L2.St} (c : Ck K C) (R : Rf T st La Ca H0 H t) (hl : H l = some (.lst xs)) (n1 : l ≠ st) (n2 : l ≠ La) (h0 : ∃ o, σ0 = σ0.set ix o)
    (each : ∀ x ∈ xs, ∀ (H' : Hp) (Q2 : VK), Rf T st La Ca H H' t → (∀ a H3, Rf T st La Ca H H3 t → H3 a = some (ExT (bad K C) none a) → Q2 (.ref a) H3) → tFn (spCaught K) ac W (tCons (tVar ix) tNil) tNil 1 0 (σ0.set ix (some x)) H' Q2)
    (he : ∀ o H', Rf T st La Ca H0 H' t → DrN st La H H' → D.nx (σ0.set ix o) H') :
    ForGo (Itl K l) (gName ix) (tIfS (tNot (tTru K (tCB (G.rIsX K) (tCons (tFn (spCaught K) ac W (tCons (tVar ix) tNil) tNil 1 0) (tCons (tC (.ref (He.ga K C))) tNil))))) (tRet (tC (.bl false))) tNext) D σ0 H := by
  refine go_lst xs (fun i σ H' => Rf T st La Ca H H' t ∧ ∃ o, σ = σ0.set ix o) ⟨R.fresh, h0⟩ (fun i σ H' h => .inl (.inl (drn_lst h.1.n n1 n2 hl))) ?_ ?_
  · rintro i x σ H' hx ⟨r, o, rfl⟩
    rw [List.set_set]
    simp only [tIfS, tNot, tTru, tCB, tCons, tC, tNil, tNext]
    refine each x (List.mem_of_getElem? hx) H' _ r fun a H3 r3 x3 => isx_err c x3 c.one ⟨_, rfl, ?_⟩
    rw [if_neg (by simp)]
    exact ⟨r3, _, rfl⟩
  · rintro σ H' ⟨r, o, rfl⟩
    exact he o H' (R.trans r) r.n
end
theorem sq_asgG {H : Hp} {e : TE} {g : TG} {rest : TS} {D : Ends} {σ : L2.St} (h : e σ H fun v H' => g v σ H' fun σ' H'' => rest D σ' H'') : tSeq (tAsg e g) rest D σ H := h
theorem sq_for {H : Hp} {wi : TI} {g : TG} {tb rest : TS} {D : Ends} {σ : L2.St} (h : wi σ H fun J H1 => ForGo J g tb { D with nx := rest D } σ H1) : tSeq (tFor wi g tb) rest D σ H := h
theorem sq_drop {H : Hp} {e : TE} {rest : TS} {D : Ends} {σ : L2.St} (h : e σ H fun _ H' => rest D σ H') : tSeq (tDrop e) rest D σ H := h
theorem if_go {H : Hp} {c : L2.TT} {a : TS} {D : Ends} {σ : L2.St} (h : c σ H fun b H' => if b = true then a D σ H' else D.nx σ H') : tIfS c a tNext D σ H := h
theorem sq_asg {H : Hp} {e : TE} {i : Nat} {rest : TS} {D : Ends} {σ : L2.St} (h : e σ H fun v H' => rest D (σ.set i (some v)) H') : tSeq (tAsg e (gName i)) rest D σ H := h
theorem sq_if {H : Hp} {c : L2.TT} {a rest : TS} {D : Ends} {σ : L2.St} (h : c σ H fun b H' => if b = true then a { D with nx := rest D } σ H' else rest D σ H') : tSeq (tIfS c a tNext) rest D σ H := h
theorem not_tru {K : PySem.W.Frag} {H : Hp} {e : TE} {σ : L2.St} {k : Bool → Hp → Prop} (h : e σ H fun x H' => ∃ b, TruV K x H' b ∧ k (!b) H') : tNot (tTru K e) σ H k := h
end Pk

set_option Elab.async false
set_option linter.all false
set_option maxRecDepth 100000
set_option maxHeartbeats 8000000
namespace Pk
open PySem PySem.Spec PyProof.Rows L2 LamX G
/-! ### what is found where a plane may stand -/
def scV : V → Bool
  | .non => true
  | .bl _ => true
  | .int _ => true
  | .str x => PyData.canLay0 (.str x)
  | _ => false
def NoTup (H : Hp) (x : V) : Prop := scV x = true ∨ ∃ a, x = .ref a ∧ ((∃ xs, H a = some (.lst xs)) ∨ ∃ kvs, H a = some (.dK kvs))
/-- a row: none where it is no tuple -/
abbrev Rw := Option (List V)
abbrev Th := Option (List Rw)
def RwAt (H : Hp) (x : V) : Rw → Prop
  | none => NoTup H x
  | some xs => ∃ a, x = .ref a ∧ H a = some (.tup xs) ∧ ∀ v ∈ xs, scV v = true
def RwsAt (H : Hp) (vs : List V) (rs : List Rw) : Prop := vs.length = rs.length ∧ ∀ (i : Nat) (v : V) (r : Rw), vs[i]? = some v → rs[i]? = some r → RwAt H v r
def ThAt (H : Hp) (x : V) : Th → Prop
  | none => NoTup H x
  | some rs => ∃ a vs, x = .ref a ∧ H a = some (.tup vs) ∧ RwsAt H vs rs
def rwS : Rw → Prop
  | none => True
  | some xs => xs.length ≤ 100
def ThS : Th → Prop
  | none => True
  | some rs => rs.length ≤ 100 ∧ ∀ r ∈ rs, rwS r
/-! the plain looks -/
def rowLen (w : Int) : Rw → Bool
  | some xs => decide ((xs.length : Int) = w)
  | none => false
def rowNum : Rw → Bool
  | some xs => xs.all isNum
  | none => false
def rowBtw (lo hi : Int) : Rw → Bool
  | some xs => xs.all fun x => btw x lo hi
  | none => false
def fitsB (h w : Int) : Th → Bool
  | some rs => decide ((rs.length : Int) = h) && (rs.all (rowLen w) && rs.all rowNum)
  | none => false
def planeB (h w lo hi : Int) (t : Th) : Bool := fitsB h w t && match t with
  | some rs => rs.all (rowBtw lo hi)
  | none => false
def len0 : Th → Option Int
  | some (some xs :: _) => some xs.length
  | _ => none
def anyB (t : Th) : Bool := match t, len0 t with
  | some rs, some w => decide (1 ≤ (rs.length : Int)) && (decide ((rs.length : Int) ≤ 16) && (decide (1 ≤ w) && (decide (w ≤ 16) && planeB rs.length w (-512) 511 t)))
  | _, _ => false
/-- a plane -/
def PlAt (H : Hp) (p : Addr) (g : List (List Int)) : Prop := ∃ bs : List Addr, H p = some (.tup (bs.map V.ref)) ∧ bs.length = g.length ∧ ∀ (i : Nat) (b : Addr) (r : List Int), bs[i]? = some b → g[i]? = some r → H b = some (.tup (r.map V.int))
def thOf (g : List (List Int)) : Th := some (g.map fun r => some (r.map V.int))
section
variable {K : PySem.W.Frag} {H H1 : Hp} {x : V} {p : Addr} {g : List (List Int)}
theorem NoTup.same (h : NoTup H x) (s : Same H H1) : NoTup H1 x := h.elim .inl fun ⟨a, e, h⟩ => .inr ⟨a, e, h.elim (fun ⟨xs, z⟩ => .inl ⟨xs, s _ _ z⟩) fun ⟨xs, z⟩ => .inr ⟨xs, s _ _ z⟩⟩
theorem RwAt.same {r : Rw} (h : RwAt H x r) (s : Same H H1) : RwAt H1 x r := by
  cases r with
  | none => exact NoTup.same h s
  | some xs =>
    obtain ⟨a, e, h1, h2⟩ := h
    exact ⟨a, e, s _ _ h1, h2⟩
theorem RwsAt.same {vs : List V} {rs : List Rw} (h : RwsAt H vs rs) (s : Same H H1) : RwsAt H1 vs rs := ⟨h.1, fun i v r e1 e2 => (h.2 i v r e1 e2).same s⟩
theorem ThAt.same {t : Th} (h : ThAt H x t) (s : Same H H1) : ThAt H1 x t := by
  cases t with
  | none => exact NoTup.same h s
  | some rs =>
    obtain ⟨a, vs, e, h1, h2⟩ := h
    exact ⟨a, vs, e, s _ _ h1, h2.same s⟩
theorem PlAt.same (h : PlAt H p g) (s : Same H H1) : PlAt H1 p g := by
  obtain ⟨bs, e1, e2, e3⟩ := h
  exact ⟨bs, s _ _ e1, e2, fun i b r a c => s _ _ (e3 i b r a c)⟩
theorem PlAt.th (h : PlAt H p g) : ThAt H (.ref p) (thOf g) := by
  obtain ⟨bs, e1, e2, e3⟩ := h
  refine ⟨p, _, rfl, e1, by rw [List.length_map, List.length_map, e2], fun i v r h1 h2 => ?_⟩
  rw [List.getElem?_map] at h1 h2
  obtain ⟨b, hb, rfl⟩ := Option.map_eq_some_iff.mp h1
  obtain ⟨r, hr, rfl⟩ := Option.map_eq_some_iff.mp h2
  exact ⟨b, rfl, e3 i b r hb hr, fun v hv => by
    obtain ⟨z, _, rfl⟩ := List.mem_map.mp hv
    rfl⟩
theorem sc_kd (h : scV x = true) : Kd H x := by
  cases x <;> first
    | trivial
    | cases h
theorem NoTup.kd (h : NoTup H x) : Kd H x := by
  rcases h with h | ⟨a, rfl, h | h⟩
  · exact sc_kd h
  · exact .inl h
  · exact .inr (.inr h)
theorem isx_notup {Q : VK} (h : NoTup H x) (q : Q (.bl false) H) : G.rIsX K [x, .ty "tuple"] H Q := by
  refine .inl ?_
  have go : ∀ (t : String), TyOf K H x (.type t) → PySem.W.kitOne K (.type t) (.type "tuple") = some false → rIsi K [x, .ty "tuple"] H Q := fun t h1 h2 => ⟨x, .ty "tuple", _, .type "tuple", false, rfl, .ty "tuple", .base h1, h2, q⟩
  rcases h with h | ⟨a, rfl, ⟨xs, h⟩ | ⟨xs, h⟩⟩
  · cases x with
    | non => exact go _ .non rfl
    | bl b => exact go _ (.bl b) rfl
    | int i => exact go _ (.int i) rfl
    | str y => exact go _ (.str y) rfl
    | _ => cases h
  · exact go _ (.lst h) rfl
  · exact go _ (.dK h) rfl
theorem isx_tup {Q : VK} {a : Addr} {xs : List V} (h : H a = some (.tup xs)) (q : Q (.bl true) H) : G.rIsX K [.ref a, .ty "tuple"] H Q :=
  .inl ⟨.ref a, .ty "tuple", _, .type "tuple", true, rfl, .ty "tuple", .base (.tup h), rfl, q⟩
theorem len_tup {Q : VK} {a : Addr} {xs : List V} (h : H a = some (.tup xs)) (q : Q (.int xs.length) H) : G.rLen K [.ref a] H Q := .inl ⟨_, _, rfl, .inr ⟨xs, .inl (.inl h), rfl⟩, q⟩
/-! ### comprehensions over tuples -/
theorem sqt_same {H H' : Hp} {a : Addr} {xs : List V} (h : SqT K H a xs) (e : Same H H') : SqT K H' a xs :=
  h.elim (fun h => .inl (h.elim (fun h => .inl (e _ _ h)) fun ⟨o, h⟩ => .inr ⟨o, e _ _ h⟩)) fun h => .inr h
/-- one value of each item -/
theorem lc_tmap {a : Addr} (xs : List V) {ix : Nat} {te : TE} {σ : L2.St} {Q : VK} (f : Nat → V → V) (hl : SqT K H a xs) (hz : xs.length ≤ 1000000) (hix : ix < σ.length)
    (ht : ∀ i v σ' H' (k : VK), xs[i]? = some v → σ'[ix]? = some (some v) → (∀ j, j ≠ ix → σ'[j]? = σ[j]?) → Same H H' → (∀ H'', Same H' H'' → k (f i v) H'') → te σ' H' k)
    (q : ∀ D H', H D = none → Same H H' → H' D = some (.lst (xs.mapIdx f)) → Q (.ref D) H') : LcGo (Itt K a) (gName ix) tYes te [ix] σ Q H := by
  intro D hD
  have sl : sizeLine = 16777216 := sizeLine_eq
  refine ⟨fun i m H' => i + m = xs.length ∧ Same H H' ∧ H' D = some (.lst ((xs.take i).mapIdx f)), ⟨xs.length, by omega, same_new (Same.refl H) hD, upd_same⟩, fun i m H' ⟨e, s, hA⟩ => ?_⟩
  have sq := sqt_same hl s
  by_cases c : i < xs.length
  · refine .inr ⟨⟨xs, xs[i], sq, List.getElem?_eq_getElem c⟩, fun H'' => Same H H'' ∧ H'' D = some (.lst ((xs.take (i + 1)).mapIdx f)), fun H'' q => ⟨m - 1, by omega, by omega, q⟩, fun v H'' ⟨e3, e4⟩ => ?_⟩
    subst e3
    have hv := e4 xs sq
    refine ⟨wipe_one, ?_⟩
    show te _ _ _
    refine ht i v _ _ _ hv ?_ (fun j hj => ?_) s fun H3 s3 => ?_
    · show ((σ.set ix none).set ix (some v))[ix]? = _
      rw [List.getElem?_set_self (by rw [List.length_set]; exact hix)]
    · show ((σ.set ix none).set ix (some v))[j]? = _
      rw [List.getElem?_set_ne (Ne.symm hj), List.getElem?_set_ne (Ne.symm hj)]
    · refine ⟨_, s3 _ _ hA, by rw [List.length_mapIdx, List.length_take, sl]; omega, fun b o e => ?_, ?_⟩
      · have nb : b ≠ D := ne_of_none e hD
        rw [upd_ne nb]
        exact s3 b o (s b o e)
      · rw [upd_same, List.take_add_one, hv]
        congr 2
        rw [List.mapIdx_append]
        congr 1
        rw [List.length_take, Nat.min_eq_left (Nat.le_of_lt c)]
        show [f i v] = [f (0 + i) v]
        rw [Nat.zero_add]
  · have hi : i = xs.length := by omega
    subst hi
    rw [List.take_length] at hA
    exact .inl ⟨⟨xs, sq, Nat.le_refl _⟩, q D H' hD s hA⟩
/-- one value of each item of each row -/
theorem lc2_tmap {a : Addr} {i0 i1 src : Nat} {te : TE} {σ : L2.St} {Q : VK} (bs : List Addr) (rows : List (List V)) (f : V → V) (hs : σ[src]? = some (some (.ref a))) (ha : SqT K H a (bs.map V.ref)) (hb : ∀ (j : Nat) (b : Addr) (xs : List V), bs[j]? = some b → rows[j]? = some xs → SqT K H b xs)
    (hl : rows.length = bs.length) (hz : ∀ xs ∈ rows, xs.length ≤ 1000) (hz2 : rows.length ≤ 1000) (ne : i0 ≠ i1) (h0 : i0 < σ.length) (h1 : i1 < σ.length)
    (ht : ∀ v σ' H' (k : VK), v ∈ rows.flatten → σ'[i1]? = some (some v) → (∀ j, j ≠ i0 → j ≠ i1 → σ'[j]? = σ[j]?) → Same H H' → (∀ H'', Same H' H'' → k (f v) H'') → te σ' H' k)
    (q : ∀ D H', H D = none → Same H H' → H' D = some (.lst (rows.flatten.map f)) → Q (.ref D) H') : tLc2 (iSeq K (tVar src)) (gName i0) tYes (iSeq K (tVar i0)) (gName i1) tYes te [i0, i1] [i1] σ H Q := by
  have sl : sizeLine = 16777216 := sizeLine_eq
  have flat_le : ∀ (l : List (List V)), (∀ xs ∈ l, xs.length ≤ 1000) → l.flatten.length ≤ 1000 * l.length := fun l hl => by
    induction l with
    | nil => exact Nat.le_refl _
    | cons x r ih =>
      have h1 := hl x List.mem_cons_self
      have h2 := ih fun y hy => hl y (List.mem_cons_of_mem _ hy)
      rw [List.flatten_cons, List.length_append, List.length_cons]
      omega
  refine .inr (.inl ⟨_, hs, a, rfl, ⟨_, ha⟩, fun D hD => ?_⟩)
  refine ⟨fun i m H' => i + m = rows.length ∧ Same H H' ∧ H' D = some (.lst (((rows.take i).flatten).map f)), ⟨rows.length, by omega, same_new (Same.refl H) hD, upd_same⟩, fun i m H' ⟨e, s, hA⟩ => ?_⟩
  have sq := sqt_same ha s
  by_cases c : i < rows.length
  · have cb : i < bs.length := by omega
    refine .inr ⟨⟨_, .ref bs[i], sq, by rw [List.getElem?_map, List.getElem?_eq_getElem cb]; rfl⟩, fun H'' => Same H H'' ∧ H'' D = some (.lst (((rows.take (i + 1)).flatten).map f)), fun H'' q => ⟨m - 1, by omega, by omega, q⟩, fun v H'' ⟨e3, e4⟩ => ?_⟩
    subst e3
    have hv := e4 _ sq
    rw [List.getElem?_map, List.getElem?_eq_getElem cb] at hv
    cases hv
    have hrow := hb i bs[i] rows[i] (List.getElem?_eq_getElem cb) (List.getElem?_eq_getElem c)
    refine ⟨?_, ?_⟩
    · show (((((σ.set i1 none).set i0 none).set i0 (some (V.ref bs[i]))).set i1 none).set i0 none) = (σ.set i1 none).set i0 none
      rw [List.set_set, List.set_comm _ _ ne, List.set_set, List.set_set]
    show (iSeq K (tVar i0)) _ _ _
    refine .inr (.inl ⟨.ref bs[i], ?_, bs[i], rfl, ⟨_, sqt_same hrow s⟩, ?_⟩)
    · show (((σ.set i1 none).set i0 none).set i0 (some (V.ref bs[i])))[i0]? = _
      rw [List.getElem?_set_self (by rw [List.length_set, List.length_set]; exact h0)]
    have ln := hz rows[i] (List.getElem_mem c)
    have fl := flat_le (rows.take i) fun y hy => hz y (List.mem_of_mem_take hy)
    have lt : (rows.take i).length = i := by rw [List.length_take, Nat.min_eq_left (Nat.le_of_lt c)]
    refine ⟨fun j k H3 => j + k = rows[i].length ∧ Same H H3 ∧ H3 D = some (.lst (((rows.take i).flatten ++ rows[i].take j).map f)), ⟨rows[i].length, by omega, s, by rw [List.take_zero, List.append_nil]; exact hA⟩, fun j k H3 ⟨e5, s3, hA3⟩ => ?_⟩
    have sq3 := sqt_same hrow s3
    by_cases c2 : j < rows[i].length
    · refine .inr ⟨⟨_, rows[i][j], sq3, List.getElem?_eq_getElem c2⟩, fun H4 => Same H H4 ∧ H4 D = some (.lst (((rows.take i).flatten ++ rows[i].take (j + 1)).map f)), fun H4 q => ⟨k - 1, by omega, by omega, q⟩, fun y H4 ⟨e6, e7⟩ => ?_⟩
      subst e6
      have hy := e7 _ sq3
      have my : y ∈ rows.flatten := List.mem_flatten.mpr ⟨rows[i], List.getElem_mem c, List.mem_of_getElem? hy⟩
      refine ⟨?_, ?_⟩
      · show (((((σ.set i1 none).set i0 none).set i0 (some (V.ref bs[i]))).set i1 none).set i1 (some y)).set i1 none = _
        rw [List.set_set, List.set_set]
        rfl
      show te _ _ _
      refine ht y _ _ _ my ?_ (fun n n0 n1 => ?_) s3 fun H5 s5 => ?_
      · show (List.set (List.set (((σ.set i1 none).set i0 none).set i0 (some (V.ref bs[i]))) i1 none) i1 (some y))[i1]? = _
        rw [List.getElem?_set_self (by rw [List.length_set, List.length_set, List.length_set, List.length_set]; exact h1)]
      · show (List.set (List.set (((σ.set i1 none).set i0 none).set i0 (some (V.ref bs[i]))) i1 none) i1 (some y))[n]? = _
        rw [List.getElem?_set_ne (Ne.symm n1), List.getElem?_set_ne (Ne.symm n1), List.getElem?_set_ne (Ne.symm n0), List.getElem?_set_ne (Ne.symm n0), List.getElem?_set_ne (Ne.symm n1)]
      · refine ⟨_, s5 _ _ hA3, by rw [List.length_map, List.length_append, List.length_take, sl]; omega, fun b o e => ?_, ?_⟩
        · have nb : b ≠ D := ne_of_none e hD
          rw [upd_ne nb]
          exact s5 b o (s3 b o e)
        · rw [upd_same, List.take_add_one, hy, ← List.append_assoc, List.map_append (l₁ := _ ++ _)]
          rfl
    · have hj : j = rows[i].length := by omega
      subst hj
      refine .inl ⟨⟨_, sq3, Nat.le_refl _⟩, s3, ?_⟩
      rw [List.take_length] at hA3
      rw [hA3, List.take_add_one, List.getElem?_eq_getElem c, List.flatten_append]
      simp
  · have hi : i = rows.length := by omega
    subst hi
    rw [List.take_length] at hA
    exact .inl ⟨⟨_, sq, by rw [List.length_map, hl]; exact Nat.le_refl _⟩, q D H' hD s hA⟩
end
/-! ## the defs -/
def wayB (v : V) : Bool := decide (v = .str "sideways") || (decide (v = .str "upside") || decide (v = .str "corner"))
def turnG (v : V) (g : List (List Int)) : List (List Int) := if v = .str "sideways" then g.map List.reverse else if v = .str "upside" then g.reverse else (List.range (g.headD []).length).map fun j => g.map fun r => r.getD j 0
def sp_fits_grid : SpD := fun vs H Q _ => ∃ (x : V) (h w : Int) (t : Th), vs = [x, .int h, .int w] ∧ ThAt H x t ∧ ThS t ∧ ∀ H', Same H H' → Q (.bl (fitsB h w t)) H'
def sp_does_suit (K : PySem.W.Frag) : SpD := fun vs H Q _ => ∃ (a : Addr) (x : V) (h w lo hi : Int) (t : Th), vs = [.ref a, x] ∧ ShAt K H a h w lo hi ∧ ThAt H x t ∧ ThS t ∧ ∀ H', Same H H' → Q (.bl (planeB h w lo hi t)) H'
def sp_is_plane (K : PySem.W.Frag) : SpD := fun vs H Q E => ∃ (s x : V), vs = [s, x] ∧ ((Kd H s ∧ ErrP K "BadShape" "part" .non H E) ∨ ∃ (a : Addr) (h w lo hi : Int) (t : Th), s = .ref a ∧ ShAt K H a h w lo hi ∧ ThAt H x t ∧ ThS t ∧ ∀ H', Same H H' → Q (.bl (planeB h w lo hi t)) H')
def flatG (h w n : Int) : List (List Int) := List.replicate h.toNat (List.replicate w.toNat n)
def sp_flat_of (K : PySem.W.Frag) : SpD := fun vs H Q _ => ∃ (a : Addr) (n h w lo hi : Int), vs = [.ref a, .int n] ∧ ShAt K H a h w lo hi ∧ ∀ p H', H p = none → Same H H' → PlAt H' p (flatG h w n) → Q (.ref p) H'
def sp_flat_plane (K : PySem.W.Frag) : SpD := fun vs H Q E => ∃ (s v : V), vs = [s, v] ∧ Kd H v ∧ ((Kd H s ∧ ErrP K "BadShape" "part" .non H E) ∨ ∃ (a : Addr) (h w lo hi : Int), s = .ref a ∧ ShAt K H a h w lo hi ∧ (btw v lo hi = false → E (bad K "BadNumber") none H) ∧
  ∀ n, v = .int n → lo ≤ n → n ≤ hi → ∀ p H', H p = none → Same H H' → PlAt H' p (flatG h w n) → Q (.ref p) H')
def sp_is_any_plane : SpD := fun vs H Q _ => ∃ (x : V) (t : Th), vs = [x] ∧ ThAt H x t ∧ ThS t ∧ ∀ H', Same H H' → Q (.bl (anyB t)) H'
def sp_turned (K : PySem.W.Frag) : SpD := fun vs H Q E => ∃ (x v : V) (t : Th), vs = [x, v] ∧ ThAt H x t ∧ ThS t ∧ scV v = true ∧ (anyB t = false → ∀ H', Same H H' → E (bad K "BadPlane") none H') ∧
  (anyB t = true → wayB v = false → ∀ H', Same H H' → E (bad K "BadWay") none H') ∧ ∀ p g, x = .ref p → t = thOf g → PlAt H p g → wayB v = true → ∀ r H', H r = none → Same H H' → PlAt H' r (turnG v g) → Q (.ref r) H'
def sp_own_parts (K : PySem.W.Frag) : SpD := fun vs H Q _ => ∃ (a : Addr) (h w lo hi : Int), vs = [.ref a] ∧ ShAt K H a h w lo hi ∧ ∀ p H', H p = none → H' = upd H p (.tup [.int h, .int w, .int lo, .int hi]) → Q (.ref p) H'
def sp_sh_eq (K : PySem.W.Frag) : SpD := fun vs H Q _ => ∃ (a : Addr) (h w lo hi : Int) (y : V), vs = [.ref a, y] ∧ ShAt K H a h w lo hi ∧ ((Kd H y ∧ Q (.bl false) H) ∨ ∃ b h2 w2 lo2 hi2, y = .ref b ∧ ShAt K H b h2 w2 lo2 hi2 ∧ ∀ H', Same H H' → Q (.bl (decide (h = h2 ∧ w = w2 ∧ lo = lo2 ∧ hi = hi2))) H')
abbrev S_fits_grid (_ : PySem.W.Frag) : SpG := sh sp_fits_grid [0, 1, 2]
abbrev S_does_suit (K : PySem.W.Frag) : SpG := sh (sp_does_suit K) [0, 1]
abbrev S_is_plane (K : PySem.W.Frag) : SpG := sh (sp_is_plane K) [0, 1]
abbrev S_is_plane_k0_thing_shape (K : PySem.W.Frag) : SpG := sh (sp_is_plane K) [1, 0]
abbrev S_flat_of (K : PySem.W.Frag) : SpG := sh (sp_flat_of K) [0, 1]
abbrev S_flat_plane (K : PySem.W.Frag) : SpG := sh (sp_flat_plane K) [0, 1]
abbrev S_flat_plane_k0_number_shape (K : PySem.W.Frag) : SpG := sh (sp_flat_plane K) [1, 0]
abbrev S_is_any_plane (_ : PySem.W.Frag) : SpG := sh sp_is_any_plane [0]
abbrev S_turned (K : PySem.W.Frag) : SpG := sh (sp_turned K) [0, 1]
abbrev S_turned_k0_way_plane (K : PySem.W.Frag) : SpG := sh (sp_turned K) [1, 0]
abbrev S_Shape_own_parts (K : PySem.W.Frag) : SpG := sh (sp_own_parts K) [0]
abbrev S_Shape___eq__ (K : PySem.W.Frag) : SpG := sh (sp_sh_eq K) [0, 1]
abbrev fl_Shape___eq__ (K : PySem.W.Frag) : List FnE := [⟨"own_parts", 0, [], 2, S_Shape_own_parts K, some (He.ga K "Shape")⟩]
abbrev act_fits_grid (acts : Acts) : Acts := fun g tl => false = true ∧ acts g tl
def t_fits_grid (K : PySem.W.Frag) (cells : List (Str × Addr)) (acts : Acts) (T : List (Addr × Str)) (pt : Option Addr) (W : WX) : TS :=
  (tSeq (tIfS (tOr (tNot (tTru K (tCB (G.rIsX K) (tCons (tVar 0) (tCons (tC (.ty "tuple")) tNil))))) (tTest (tOp (G.rCmp K .NotEq) (tCB (G.rLen K) (tCons (tVar 0) tNil)) (tVar 1))))
  (tRet (tC (.bl false)))
  tNext)
  (tSeq (tIfS (tNot (tTru K (tCB (rAll K) (tCons (tLc (iSeq K (tVar 0)) (gName 3) tYes (tAndT K (tCB (G.rIsX K) (tCons (tVar 3) (tCons (tC (.ty "tuple")) tNil))) (tOp (G.rCmp K .Eq) (tCB (G.rLen K) (tCons (tVar 3) tNil)) (tVar 2))) [3]) tNil))))
  (tRet (tC (.bl false)))
  tNext)
  (tRet (tCB (rAll K) (tCons (tLc2 (iSeq K (tVar 0)) (gName 3) tYes (iSeq K (tVar 3)) (gName 4) tYes (tFn (S_is_number K) noActs noW (tCons (tVar 4) tNil) tNil 1 0) [3, 4] [4]) tNil)))))
abbrev act_does_suit (acts : Acts) : Acts := fun g tl => false = true ∧ acts g tl
def t_does_suit (K : PySem.W.Frag) (cells : List (Str × Addr)) (acts : Acts) (T : List (Addr × Str)) (pt : Option Addr) (W : WX) : TS :=
  (tSeq (tIfS (tNot (tTru K (tFn (S_fits_grid K) (fun _ _ => act_does_suit acts) W (tCons (tVar 1) (tCons (tAttr K "height" (tVar 0)) (tCons (tAttr K "width" (tVar 0)) tNil))) tNil 3 0)))
  (tRet (tC (.bl false)))
  tNext)
  (tRet (tCB (rAll K) (tCons (tLc2 (iSeq K (tVar 1)) (gName 2) tYes (iSeq K (tVar 2)) (gName 3) tYes (tChain (G.rCmp K .LtE) (G.rCmp K .LtE) (tAttr K "low" (tVar 0)) (tVar 3) (tAttr K "high" (tVar 0))) [2, 3] [3]) tNil))))
abbrev act_is_plane (acts : Acts) : Acts := fun g tl => false = true ∧ acts g tl
def t_is_plane (K : PySem.W.Frag) (cells : List (Str × Addr)) (acts : Acts) (T : List (Addr × Str)) (pt : Option Addr) (W : WX) : TS :=
  (tSeq (tDrop (tFn (S_need_shape K) (fun _ _ => act_is_plane acts) W (tCons (tVar 0) tNil) tNil 1 0))
  (tRet (tFn (S_does_suit K) (fun _ _ => act_is_plane acts) W (tCons (tVar 0) (tCons (tVar 1) tNil)) tNil 2 0)))
abbrev act_flat_of (acts : Acts) : Acts := fun g tl => false = true ∧ acts g tl
def t_flat_of (K : PySem.W.Frag) (cells : List (Str × Addr)) (acts : Acts) (T : List (Addr × Str)) (pt : Option Addr) (W : WX) : TS :=
  (tRet (tOp (G.rBin K .Mult) (tTup (tCons (tOp (G.rBin K .Mult) (tTup (tCons (tVar 1) tNil)) (tAttr K "width" (tVar 0))) tNil)) (tAttr K "height" (tVar 0))))
abbrev act_flat_plane (acts : Acts) : Acts := fun g tl => false = true ∧ acts g tl
def t_flat_plane (K : PySem.W.Frag) (cells : List (Str × Addr)) (acts : Acts) (T : List (Addr × Str)) (pt : Option Addr) (W : WX) : TS :=
  (tSeq (tDrop (tFn (S_need_shape K) (fun _ _ => act_flat_plane acts) W (tCons (tVar 0) tNil) tNil 1 0))
  (tSeq (tIfS (tNot (tTru K (tFn (S_is_between K) (fun _ _ => act_flat_plane acts) W (tCons (tVar 1) (tCons (tAttr K "low" (tVar 0)) (tCons (tAttr K "high" (tVar 0)) tNil))) tNil 3 0)))
  (tRaise0 (He.ga K "BadNumber") W)
  tNext)
  (tRet (tFn (S_flat_of K) (fun _ _ => act_flat_plane acts) W (tCons (tVar 0) (tCons (tVar 1) tNil)) tNil 2 0))))
abbrev act_is_any_plane (acts : Acts) : Acts := fun g tl => false = true ∧ acts g tl
def t_is_any_plane (K : PySem.W.Frag) (cells : List (Str × Addr)) (acts : Acts) (T : List (Addr × Str)) (pt : Option Addr) (W : WX) : TS :=
  (tSeq (tIfS (tOr (tNot (tTru K (tCB (G.rIsX K) (tCons (tVar 0) (tCons (tC (.ty "tuple")) tNil))))) (tOr (tNot (tTest (tChain (G.rCmp K .LtE) (G.rCmp K .LtE) (tC (.int 1)) (tCB (G.rLen K) (tCons (tVar 0) tNil)) (tC (.int 16))))) (tNot (tTru K (tCB (G.rIsX K) (tCons (tOp (G.rSub2 K) (tVar 0) (tC (.int 0))) (tCons (tC (.ty "tuple")) tNil)))))))
  (tRet (tC (.bl false)))
  tNext)
  (tSeq (tIfS (tOr (tNot (tTest (tChain (G.rCmp K .LtE) (G.rCmp K .LtE) (tC (.int 1)) (tCB (G.rLen K) (tCons (tOp (G.rSub2 K) (tVar 0) (tC (.int 0))) tNil)) (tC (.int 16))))) (tNot (tTru K (tFn (S_fits_grid K) (fun _ _ => act_is_any_plane acts) W (tCons (tVar 0) (tCons (tCB (G.rLen K) (tCons (tVar 0) tNil)) (tCons (tCB (G.rLen K) (tCons (tOp (G.rSub2 K) (tVar 0) (tC (.int 0))) tNil)) tNil))) tNil 3 0))))
  (tRet (tC (.bl false)))
  tNext)
  (tRet (tCB (rAll K) (tCons (tLc2 (iSeq K (tVar 0)) (gName 1) tYes (iSeq K (tVar 1)) (gName 2) tYes (tChain (G.rCmp K .LtE) (G.rCmp K .LtE) (tC (.int (-512))) (tVar 2) (tC (.int 511))) [1, 2] [2]) tNil)))))
abbrev act_turned (acts : Acts) : Acts := fun g tl => false = true ∧ acts g tl
def t_turned (K : PySem.W.Frag) (cells : List (Str × Addr)) (acts : Acts) (T : List (Addr × Str)) (pt : Option Addr) (W : WX) : TS :=
  (tSeq (tIfS (tNot (tTru K (tFn (S_is_any_plane K) (fun _ _ => act_turned acts) W (tCons (tVar 0) tNil) tNil 1 0)))
  (tRaise0 (He.ga K "BadPlane") W)
  tNext)
  (tSeq (tIfS (tTest (tOp (G.rCmp K .NotIn) (tVar 1) (tTup (tCons (tC (.str "sideways")) (tCons (tC (.str "upside")) (tCons (tC (.str "corner")) tNil))))))
  (tRaise0 (He.ga K "BadWay") W)
  tNext)
  (tSeq (tIfS (tTest (tOp (G.rCmp K .Eq) (tVar 1) (tC (.str "sideways"))))
  (tRet (tCB (G.rTupOf K) (tCons (tLc (iSeq K (tVar 0)) (gName 2) tYes (tRevA K (tVar 2)) [2]) tNil)))
  tNext)
  (tSeq (tIfS (tTest (tOp (G.rCmp K .Eq) (tVar 1) (tC (.str "upside"))))
  (tRet (tRevA K (tVar 0)))
  tNext)
  (tRet (tCB (G.rTupOf K) (tCons (tZip K (tVar 0)) tNil)))))))
abbrev act_Shape_own_parts (acts : Acts) : Acts := fun g tl => false = true ∧ acts g tl
def t_Shape_own_parts (K : PySem.W.Frag) (cells : List (Str × Addr)) (acts : Acts) (T : List (Addr × Str)) (pt : Option Addr) (W : WX) : TS :=
  (tRet (tTup (tCons (tAttr K "height" (tVar 0)) (tCons (tAttr K "width" (tVar 0)) (tCons (tAttr K "low" (tVar 0)) (tCons (tAttr K "high" (tVar 0)) tNil))))))
abbrev act_Shape___eq__ (acts : Acts) : Acts := fun g tl => false = true ∧ acts g tl
def t_Shape___eq__ (K : PySem.W.Frag) (cells : List (Str × Addr)) (acts : Acts) (T : List (Addr × Str)) (pt : Option Addr) (W : WX) : TS :=
  (tRet (tAndT K (tCB (G.rIsX K) (tCons (tVar 1) (tCons (tC (.ref (He.ga K "Shape"))) tNil))) (tOp (G.rCmp K .Eq) (tMt (mtLook (fl_Shape___eq__ K) "own_parts") "own_parts" 0 W (tVar 0) tNil) (tMt (mtLook (fl_Shape___eq__ K) "own_parts") "own_parts" 0 W (tVar 1) tNil))))

section
variable {K : PySem.W.Frag} {cells : List (Str × Addr)} {acts : Acts} {T : List (Addr × Str)} {pt : Option Addr} {vs : List V} {H H1 : Hp} {Q : VK} {E : XK}
theorem ne_int {i j : Int} {Q : VK} (q : Q (.bl (!decide (i = j))) H) : G.rCmp K .NotEq (.int i) (.int j) H Q := .inl ⟨rfl, by
  have e : decide (V.int i = V.int j) = decide (i = j) := by rw [Bool.eq_iff_iff]; simp
  show Q (.bl (!decide (V.int i = V.int j))) H
  rw [e]
  exact q⟩
theorem mapIdx_of {α β γ : Type} {vs : List α} {rs : List β} {f : Nat → α → γ} {g : β → γ} (hl : vs.length = rs.length) (h : ∀ i v r, vs[i]? = some v → rs[i]? = some r → f i v = g r) : vs.mapIdx f = rs.map g := by
  apply List.ext_getElem?
  intro i
  rw [List.getElem?_mapIdx, List.getElem?_map]
  by_cases c : i < vs.length
  · have c2 : i < rs.length := by omega
    rw [List.getElem?_eq_getElem c, List.getElem?_eq_getElem c2]
    exact congrArg some (h i _ _ (List.getElem?_eq_getElem c) (List.getElem?_eq_getElem c2))
  · rw [List.getElem?_eq_none (by omega), List.getElem?_eq_none (by omega)]
    rfl
/-- rows that are tuples all -/
theorem rows_of : ∀ {rs : List Rw} {w : Int}, rs.all (rowLen w) = true → ∃ rows : List (List V), rs = rows.map some ∧ ∀ xs ∈ rows, (xs.length : Int) = w
  | [], w, _ => ⟨[], rfl, fun xs h => nomatch h⟩
  | none :: rs, w, h => by cases h
  | some xs :: rs, w, h => by
    rw [List.all_cons, Bool.and_eq_true] at h
    obtain ⟨rows, e, hr⟩ := rows_of h.2
    refine ⟨xs :: rows, by rw [e]; rfl, fun ys hy => ?_⟩
    rcases List.mem_cons.mp hy with rfl | hy
    · exact of_decide_eq_true h.1
    · exact hr ys hy
theorem refs_of : ∀ {vs : List V} {rows : List (List V)}, RwsAt H vs (rows.map some) → ∃ bs : List Addr, vs = bs.map V.ref ∧ bs.length = rows.length ∧ ∀ (j : Nat) (b : Addr) (xs : List V), bs[j]? = some b → rows[j]? = some xs → H b = some (.tup xs) ∧ ∀ v ∈ xs, scV v = true
  | [], [], h => ⟨[], rfl, rfl, fun j b xs e => by simp at e⟩
  | [], _ :: _, h => by have := h.1; simp at this
  | _ :: _, [], h => by have := h.1; simp at this
  | v :: vs, xs :: rows, h => by
    obtain ⟨a, rfl, h1, h2⟩ := h.2 0 v (some xs) rfl rfl
    obtain ⟨bs, e1, e2, e3⟩ := refs_of (vs := vs) (rows := rows) ⟨by simpa using h.1, fun i v r q1 q2 => h.2 (i + 1) v r q1 q2⟩
    refine ⟨a :: bs, by rw [e1]; rfl, by rw [List.length_cons, List.length_cons, e2], fun j b ys q1 q2 => ?_⟩
    cases j with
    | zero =>
      cases q1
      cases q2
      exact ⟨h1, h2⟩
    | succ j => exact e3 j b ys q1 q2
theorem all_flat {α : Type} (p : α → Bool) : ∀ (rows : List (List α)), rows.flatten.all p = rows.all fun xs => xs.all p
  | [] => rfl
  | xs :: rows => by rw [List.flatten_cons, List.all_append, List.all_cons, all_flat p rows]
theorem rw_ix {vs : List V} {rs : List Rw} (h : RwsAt H vs rs) {i : Nat} {v : V} (e : vs[i]? = some v) : ∃ r, rs[i]? = some r ∧ RwAt H v r := by
  have c : i < rs.length := by rw [← h.1]; exact (List.getElem?_eq_some_iff.mp e).1
  exact ⟨rs[i], List.getElem?_eq_getElem c, h.2 i v _ e (List.getElem?_eq_getElem c)⟩
theorem fitsB_some {h w : Int} {rs : List Rw} : fitsB h w (some rs) = (decide ((rs.length : Int) = h) && (rs.all (rowLen w) && rs.all rowNum)) := rfl
theorem ok_fits_grid (h : sp_fits_grid vs H Q E) : vs.length = 3 ∧ t_fits_grid K cells acts T pt (Ww E) (Dd Q) (L2.start ["thing", "height", "width", "row", "sample"] vs) H := by
  obtain ⟨x, h, w, t, rfl, ht, hs, q⟩ := h
  refine ⟨rfl, ?_⟩
  rw [show L2.start ["thing", "height", "width", "row", "sample"] [x, V.int h, V.int w] = [some x, some (.int h), some (.int w), none, none] from rfl]
  unfold t_fits_grid
  simp only [tSeq, tWhile, tAnd, tOr, tNot, tTest, tTru, tOp, tUn, tVar, tC, tLst, tTup, tNil, tAsg, tBM, tBM0, tCons, gSub, tIfS, tCB, gName, tRet, tRetN, tNext, tIf, tFn, tDrop, tRaise0, tAndT, tOrT, tNotT, tChain, tAug, tPar, tPar3, for_go, lc_go, iRng1, iRng2, iSeq, tSl, tPart, tNoPart, tRaiseA, tAttr, List.getElem?_cons_zero, List.getElem?_cons_succ, List.set_cons_zero, List.set_cons_succ, Option.some.injEq, exists_eq_left']
  cases t with
  | none =>
    refine isx_notup ht ⟨_, rfl, ?_⟩
    exact q H (Same.refl H)
  | some rs =>
    obtain ⟨a, us, rfl, ha, hr⟩ := ht
    obtain ⟨sl, sr⟩ := hs
    refine isx_tup ha ⟨_, rfl, ?_⟩
    rw [if_neg (by simp)]
    refine len_tup ha (ne_int ⟨_, rfl, ?_⟩)
    rw [hr.1]
    by_cases c : (rs.length : Int) = h
    · rw [if_neg (by simp [c])]
      refine .inr (.inl ⟨_, rfl, a, rfl, ⟨us, .inl (.inl ha)⟩, ?_⟩)
      refine lc_tmap us (fun i _ => .bl (rowLen w (rs.getD i none))) (.inl (.inl ha)) (by rw [hr.1]; omega) (Nat.le_of_ble_eq_true rfl) (fun i v σ' H' k hv e3 eo s hk => ?_) fun D H' hD s eD => ?_
      · obtain ⟨r, hri, hra⟩ := rw_ix hr hv
        have hw : σ'[2]? = some (some (.int w)) := (eo 2 (by decide)).trans rfl
        have er : rs.getD i none = r := by rw [List.getD_eq_getElem?_getD, hri]; rfl
        rw [er] at hk
        simp only [tAndT, tCB, tCons, tVar, tC, tNil, tOp, e3, hw, Option.some.injEq, exists_eq_left']
        have hra' := hra.same s
        cases r with
        | none => exact isx_notup hra' ⟨_, rfl, hk _ (Same.refl H')⟩
        | some xs =>
          obtain ⟨b, rfl, hb, _⟩ := hra'
          refine isx_tup hb ⟨_, rfl, ?_⟩
          rw [if_pos rfl]
          exact len_tup hb (G.eq_int (hk _ (Same.refl H')))
      · have el : us.mapIdx (fun i _ => V.bl (rowLen w (rs.getD i none))) = (rs.map (rowLen w)).map V.bl := by
          rw [List.map_map]
          exact mapIdx_of hr.1 fun i v r _ e2 => by rw [List.getD_eq_getElem?_getD, e2]; rfl
        rw [el] at eD
        refine ⟨D, rs.map (rowLen w), rfl, .inl (.inl eD), ⟨_, rfl, ?_⟩⟩
        have ea : ((rs.map (rowLen w)).all id) = rs.all (rowLen w) := by rw [List.all_map]; rfl
        rw [ea]
        by_cases c2 : rs.all (rowLen w) = true
        · rw [if_neg (by rw [c2]; simp)]
          obtain ⟨rows, rfl, hlen⟩ := rows_of c2
          obtain ⟨bs, rfl, lb, hb⟩ := refs_of hr
          have ha' := s _ _ ha
          refine lc2_tmap bs rows (fun v => .bl (isNum v)) rfl (.inl (.inl ha')) (fun j b xs e1 e2 => .inl (.inl (s _ _ (hb j b xs e1 e2).1))) lb.symm (fun xs hx => Nat.le_trans (show xs.length ≤ 100 from sr (some xs) (List.mem_map_of_mem hx)) (by omega)) (by rw [List.length_map] at sl; omega) (by decide) (Nat.le_of_ble_eq_true rfl) (Nat.le_of_ble_eq_true rfl) (fun v σ' H2 k hv e4 eo s2 hk => ?_) fun D2 H2 hD2 s2 eD2 => ?_
          · have sv : scV v = true := by
              obtain ⟨xs, hx, hvx⟩ := List.mem_flatten.mp hv
              obtain ⟨j, hj⟩ := List.mem_iff_getElem?.mp hx
              have cj : j < bs.length := by rw [lb]; exact (List.getElem?_eq_some_iff.mp hj).1
              exact (hb j bs[j] xs (List.getElem?_eq_getElem cj) hj).2 v hvx
            simp only [tFn, tCons, tVar, tNil, e4, Option.some.injEq, exists_eq_left']
            exact ⟨rfl, rfl, v, rfl, sc_kd sv, hk _ (Same.refl H2)⟩
          · have e5 : rows.flatten.map (fun v => V.bl (isNum v)) = (rows.flatten.map isNum).map V.bl := by rw [List.map_map]; rfl
            rw [e5] at eD2
            refine ⟨D2, _, rfl, .inl (.inl eD2), ?_⟩
            have e6 : (rows.flatten.map isNum).all id = (rows.map some).all rowNum := by
              rw [List.all_map, List.all_map]
              exact all_flat isNum rows
            rw [e6]
            have e7 : fitsB h w (some (rows.map some)) = (rows.map some).all rowNum := by
              rw [fitsB_some, decide_eq_true c, c2]
              rfl
            rw [← e7]
            exact q H2 (s.trans s2)
        · have c3 : rs.all (rowLen w) = false := Bool.eq_false_iff.mpr c2
          rw [c3, if_pos (by simp)]
          have e7 : fitsB h w (some rs) = false := by
            rw [fitsB_some, c3, Bool.false_and, Bool.and_false]
          rw [← e7]
          exact q H' s
    · rw [if_pos (by simp [c])]
      have e7 : fitsB h w (some rs) = false := by
        rw [fitsB_some, decide_eq_false c]
        rfl
      rw [← e7]
      exact q H (Same.refl H)
theorem ShAt.same {a : Addr} {h w lo hi : Int} (s : ShAt K H a h w lo hi) (m : Same H H1) : ShAt K H1 a h w lo hi := by
  obtain ⟨⟨dx, oc, e⟩, r⟩ := s
  exact ⟨⟨dx, oc, m _ _ e⟩, r⟩
/-- all of a plane's samples in the bounds: the last look -/
theorem all_btw {a : Addr} {us : List V} {rs : List Rw} {i0 i1 src : Nat} {te : TE} {σ : L2.St} {lo hi w h : Int} (hf : fitsB h w (some rs) = true) (hs : σ[src]? = some (some (.ref a))) (ha : H a = some (.tup us)) (hr : RwsAt H us rs) (hz : ThS (some rs)) (ne : i0 ≠ i1) (h0 : i0 < σ.length) (h1 : i1 < σ.length)
    (ht : ∀ v σ' H' (k : VK), isNum v = true → σ'[i1]? = some (some v) → (∀ j, j ≠ i0 → j ≠ i1 → σ'[j]? = σ[j]?) → Same H H' → k (.bl (btw v lo hi)) H' → te σ' H' k)
    (q : ∀ H', Same H H' → Q (.bl (rs.all (rowBtw lo hi))) H') : tLc2 (iSeq K (tVar src)) (gName i0) tYes (iSeq K (tVar i0)) (gName i1) tYes te [i0, i1] [i1] σ H (fun v H' => rAll K [v] H' Q) := by
  rw [fitsB_some, Bool.and_eq_true, Bool.and_eq_true] at hf
  obtain ⟨f1, f2, f3⟩ := hf
  obtain ⟨sl, sr⟩ := hz
  obtain ⟨rows, rfl, hlen⟩ := rows_of f2
  obtain ⟨bs, rfl, lb, hb⟩ := refs_of hr
  refine lc2_tmap bs rows (fun v => .bl (btw v lo hi)) hs (.inl (.inl ha)) (fun j b xs e1 e2 => .inl (.inl (hb j b xs e1 e2).1)) lb.symm (fun xs hx => Nat.le_trans (show xs.length ≤ 100 from sr (some xs) (List.mem_map_of_mem hx)) (by omega)) (by rw [List.length_map] at sl; omega) ne h0 h1 (fun v σ' H2 k hv e4 eo s2 hk => ?_) fun D2 H2 hD2 s2 eD2 => ?_
  · have nv : isNum v = true := by
      obtain ⟨xs, hx, hvx⟩ := List.mem_flatten.mp hv
      have := List.all_eq_true.mp f3 (some xs) (List.mem_map_of_mem hx)
      exact List.all_eq_true.mp this v hvx
    exact ht v σ' H2 k nv e4 eo s2 (hk _ (Same.refl H2))
  · have e5 : rows.flatten.map (fun v => V.bl (btw v lo hi)) = (rows.flatten.map fun v => btw v lo hi).map V.bl := by rw [List.map_map]; rfl
    rw [e5] at eD2
    refine ⟨D2, _, rfl, .inl (.inl eD2), ?_⟩
    have e6 : (rows.flatten.map fun v => btw v lo hi).all id = (rows.map some).all (rowBtw lo hi) := by
      rw [List.all_map, List.all_map]
      exact all_flat (fun v => btw v lo hi) rows
    rw [e6]
    exact q H2 s2
theorem planeB_some {h w lo hi : Int} {rs : List Rw} : planeB h w lo hi (some rs) = (fitsB h w (some rs) && rs.all (rowBtw lo hi)) := rfl
theorem ok_does_suit (c : ShC K) (h : sp_does_suit K vs H Q E) : vs.length = 2 ∧ t_does_suit K cells acts T pt (Ww E) (Dd Q) (L2.start ["shape", "thing", "row", "sample"] vs) H := by
  obtain ⟨a, x, h, w, lo, hi, t, rfl, sa, ht, hs, q⟩ := h
  refine ⟨rfl, ?_⟩
  rw [show L2.start ["shape", "thing", "row", "sample"] [V.ref a, x] = [some (.ref a), some x, none, none] from rfl]
  unfold t_does_suit
  simp only [tSeq, tWhile, tAnd, tOr, tNot, tTest, tTru, tOp, tUn, tVar, tC, tLst, tTup, tNil, tAsg, tBM, tBM0, tCons, gSub, tIfS, tCB, gName, tRet, tRetN, tNext, tIf, tFn, tDrop, tRaise0, tAndT, tOrT, tNotT, tChain, tAug, tPar, tPar3, for_go, lc_go, iRng1, iRng2, iSeq, tSl, tPart, tNoPart, tRaiseA, tAttr, List.getElem?_cons_zero, List.getElem?_cons_succ, List.set_cons_zero, List.set_cons_succ, Option.some.injEq, exists_eq_left']
  refine fld_height c sa (fld_width c sa ⟨rfl, rfl, x, h, w, t, rfl, ht, hs, fun H1 s1 => ⟨_, rfl, ?_⟩⟩)
  cases f : fitsB h w t with
  | false =>
    rw [if_pos (by simp)]
    have e : planeB h w lo hi t = false := by
      unfold planeB
      rw [f]
      rfl
    rw [← e]
    exact q H1 s1
  | true =>
    rw [if_neg (by simp)]
    cases t with
    | none => cases f
    | some rs =>
      obtain ⟨p, us, rfl, ha, hr⟩ := ht.same s1
      refine all_btw (lo := lo) (hi := hi) f rfl ha hr hs (by decide) (Nat.le_of_ble_eq_true rfl) (Nat.le_of_ble_eq_true rfl) (fun v σ' H2 k nv e3 eo s2 hk => ?_) fun H2 s2 => ?_
      · have e0 : σ'[0]? = some (some (.ref a)) := (eo 0 (by decide) (by decide)).trans rfl
        simp only [tChain, tAttr, tVar, e0, e3, Option.some.injEq, exists_eq_left']
        have sb := (sa.same s1).same s2
        refine fld_low c sb ?_
        cases v with
        | int i =>
          refine le_int ⟨_, rfl, ?_⟩
          have e : btw (.int i) lo hi = (decide (lo ≤ i) && decide (i ≤ hi)) := rfl
          rw [e] at hk
          by_cases c1 : lo ≤ i
          · rw [decide_eq_true c1] at hk
            rw [if_pos (decide_eq_true c1)]
            exact fld_high c sb (le_int hk)
          · rw [decide_eq_false c1] at hk
            rw [if_neg (by simp [c1])]
            exact hk
        | _ => cases nv
      · have e : planeB h w lo hi (some rs) = rs.all (rowBtw lo hi) := by
          rw [planeB_some, f]
          rfl
        rw [← e]
        exact q H2 (s1.trans s2)
theorem ok_is_plane (c : ShC K) (h : sp_is_plane K vs H Q E) : vs.length = 2 ∧ t_is_plane K cells acts T pt (Ww E) (Dd Q) (L2.start ["shape", "thing"] vs) H := by
  obtain ⟨s, x, rfl, h⟩ := h
  refine ⟨rfl, ?_⟩
  rw [show L2.start ["shape", "thing"] [s, x] = [some s, some x] from rfl]
  unfold t_is_plane
  simp only [tSeq, tWhile, tAnd, tOr, tNot, tTest, tTru, tOp, tUn, tVar, tC, tLst, tTup, tNil, tAsg, tBM, tBM0, tCons, gSub, tIfS, tCB, gName, tRet, tRetN, tNext, tIf, tFn, tDrop, tRaise0, tAndT, tOrT, tNotT, tChain, tAug, tPar, tPar3, for_go, lc_go, iRng1, iRng2, iSeq, tSl, tPart, tNoPart, tRaiseA, tAttr, List.getElem?_cons_zero, List.getElem?_cons_succ, List.set_cons_zero, List.set_cons_succ, Option.some.injEq, exists_eq_left']
  refine ⟨rfl, rfl, s, rfl, ?_⟩
  rcases h with ⟨ks, e⟩ | ⟨a, h, w, lo, hi, t, rfl, sa, ht, hs, q⟩
  · exact .inl ⟨ks, e⟩
  · exact .inr ⟨a, h, w, lo, hi, rfl, sa, rfl, rfl, a, x, h, w, lo, hi, t, rfl, sa, ht, hs, q⟩
theorem mul_tup {t : Addr} {xs : List V} {n : Int} {Q : VK} (h : H t = some (.tup xs)) (hx : xs ≠ []) (hl : xs.length ≤ 1000) (n1 : 1 ≤ n) (n2 : n ≤ 1000) (q1 : n = 1 → Q (.ref t) H) (q2 : 2 ≤ n → ∀ p, H p = none → Q (.ref p) (upd H p (.tup (List.replicate n.toNat xs).flatten))) :
    G.rBin K .Mult (.ref t) (.int n) H Q := by
  by_cases c : n = 1
  · subst c
    exact .inr (.inr ⟨t, xs, rfl, rfl, .inl (.inl h), q1 rfl⟩)
  · exact .inr (.inl ⟨t, n, xs, rfl, rfl, .inl (.inl h), hx, by omega, n2, hl, q2 (by omega)⟩)
/-- (v,) * n of a new tuple of one -/
theorem mul_one {t : Addr} {v : V} {n : Int} {Q : VK} (h : H t = some (.tup [v])) (n1 : 1 ≤ n) (n2 : n ≤ 1000) (q : ∀ p H', (p = t ∨ H p = none) → Same H H' → H' p = some (.tup (List.replicate n.toNat v)) → Q (.ref p) H') : G.rBin K .Mult (.ref t) (.int n) H Q := by
  refine mul_tup h (by simp) (Nat.le_of_ble_eq_true rfl) n1 n2 (fun e => ?_) fun h2 p hp => ?_
  · subst e
    exact q t H (.inl rfl) (Same.refl H) h
  · refine q p _ (.inr hp) (same_new (Same.refl H) hp) ?_
    rw [upd_same]
    congr 2
    rw [List.flatten_replicate_singleton]
theorem ok_flat_of (c : ShC K) (h : sp_flat_of K vs H Q E) : vs.length = 2 ∧ t_flat_of K cells acts T pt (Ww E) (Dd Q) (L2.start ["shape", "number"] vs) H := by
  obtain ⟨a, n, h, w, lo, hi, rfl, sa, q⟩ := h
  refine ⟨rfl, ?_⟩
  rw [show L2.start ["shape", "number"] [V.ref a, V.int n] = [some (.ref a), some (.int n)] from rfl]
  unfold t_flat_of
  simp only [tSeq, tWhile, tAnd, tOr, tNot, tTest, tTru, tOp, tUn, tVar, tC, tLst, tTup, tNil, tAsg, tBM, tBM0, tCons, gSub, tIfS, tCB, gName, tRet, tRetN, tNext, tIf, tFn, tDrop, tRaise0, tAndT, tOrT, tNotT, tChain, tAug, tPar, tPar3, for_go, lc_go, iRng1, iRng2, iSeq, tSl, tPart, tNoPart, tRaiseA, tAttr, List.getElem?_cons_zero, List.getElem?_cons_succ, List.set_cons_zero, List.set_cons_succ, Option.some.injEq, exists_eq_left']
  obtain ⟨_, h1, h2, w1, w2, _⟩ := id sa
  refine ⟨small rfl, fun p hp => ?_⟩
  have s1 : Same H (upd H p (.tup [.int n])) := same_new (Same.refl H) hp
  refine fld_width c (sa.same s1) (mul_one upd_same w1 (by omega) fun r H2 hr s2 er => ⟨small rfl, fun p2 hp2 => ?_⟩)
  have s3 := same_new (o := HO.tup [V.ref r]) (Same.refl H2) hp2
  have s12 := s1.trans s2
  have s13 := s12.trans s3
  refine fld_height c (sa.same s13) (mul_one upd_same h1 (by omega) fun r2 H3 hr2 s4 er2 => ?_)
  have s14 := s13.trans s4
  refine q r2 H3 ?_ s14 ⟨List.replicate h.toNat r, by rw [er2, List.map_replicate], by rw [List.length_replicate]; unfold flatG; rw [List.length_replicate], fun i b g e1 e2 => ?_⟩
  · have nn : ∀ b, H b = none ∨ ∃ o, H b = some o := fun b => by
      cases H b with
      | none => exact .inl rfl
      | some o => exact .inr ⟨o, rfl⟩
    rcases nn r2 with z | ⟨o, z⟩
    · exact z
    · rcases hr2 with rfl | hr2
      · rw [s12 _ _ z] at hp2
        cases hp2
      · rw [s13 _ _ z] at hr2
        cases hr2
  · have e1' := List.eq_of_mem_replicate (List.mem_of_getElem? e1)
    have e2' := List.eq_of_mem_replicate (List.mem_of_getElem? (show (List.replicate h.toNat (List.replicate w.toNat n))[i]? = some g from e2))
    subst e1' e2'
    rw [List.map_replicate]
    exact s4 _ _ (s3 _ _ er)
theorem ok_flat_plane (c : ShC K) (h : sp_flat_plane K vs H Q E) : vs.length = 2 ∧ t_flat_plane K cells acts T pt (Ww E) (Dd Q) (L2.start ["shape", "number"] vs) H := by
  obtain ⟨s, v, rfl, kv, h⟩ := h
  refine ⟨rfl, ?_⟩
  rw [show L2.start ["shape", "number"] [s, v] = [some s, some v] from rfl]
  unfold t_flat_plane
  simp only [tSeq, tWhile, tAnd, tOr, tNot, tTest, tTru, tOp, tUn, tVar, tC, tLst, tTup, tNil, tAsg, tBM, tBM0, tCons, gSub, tIfS, tCB, gName, tRet, tRetN, tNext, tIf, tFn, tDrop, tRaise0, tAndT, tOrT, tNotT, tChain, tAug, tPar, tPar3, for_go, lc_go, iRng1, iRng2, iSeq, tSl, tPart, tNoPart, tRaiseA, tAttr, List.getElem?_cons_zero, List.getElem?_cons_succ, List.set_cons_zero, List.set_cons_succ, Option.some.injEq, exists_eq_left']
  refine ⟨rfl, rfl, s, rfl, ?_⟩
  rcases h with ⟨ks, e⟩ | ⟨a, h, w, lo, hi, rfl, sa, e, q⟩
  · exact .inl ⟨ks, e⟩
  · refine .inr ⟨a, h, w, lo, hi, rfl, sa, ?_⟩
    refine fld_low c sa (fld_high c sa ⟨rfl, rfl, v, lo, hi, rfl, kv, _, rfl, ?_⟩)
    cases b : btw v lo hi with
    | false => exact e b
    | true =>
      rw [if_neg (by simp)]
      obtain ⟨n, rfl, n0, n1⟩ := btw_int b
      exact ⟨rfl, rfl, a, n, h, w, lo, hi, rfl, sa, q n rfl n0 n1⟩
theorem ix_tup0 {t : Addr} {v : V} {us : List V} {Q : VK} (e : H t = some (.tup (v :: us))) (q : Q v H) : G.rSub2 K (.ref t) (.int 0) H Q := .inl (.inr (.inl ⟨t, _, 0, v, rfl, rfl, .inl (.inl e), by unfold atI ixN; simp, q⟩))
theorem anyB_cons {xs : List V} {rs : List Rw} : anyB (some (some xs :: rs)) = (decide (1 ≤ ((some xs :: rs : List Rw).length : Int)) && (decide (((some xs :: rs : List Rw).length : Int) ≤ 16) && (decide (1 ≤ (xs.length : Int)) && (decide ((xs.length : Int) ≤ 16) && planeB (some xs :: rs : List Rw).length xs.length (-512) 511 (some (some xs :: rs)))))) := rfl
theorem ok_is_any_plane (h : sp_is_any_plane vs H Q E) : vs.length = 1 ∧ t_is_any_plane K cells acts T pt (Ww E) (Dd Q) (L2.start ["thing", "row", "sample"] vs) H := by
  obtain ⟨x, t, rfl, ht, hs, q⟩ := h
  refine ⟨rfl, ?_⟩
  rw [show L2.start ["thing", "row", "sample"] [x] = [some x, none, none] from rfl]
  unfold t_is_any_plane
  simp only [tSeq, tWhile, tAnd, tOr, tNot, tTest, tTru, tOp, tUn, tVar, tC, tLst, tTup, tNil, tAsg, tBM, tBM0, tCons, gSub, tIfS, tCB, gName, tRet, tRetN, tNext, tIf, tFn, tDrop, tRaise0, tAndT, tOrT, tNotT, tChain, tAug, tPar, tPar3, for_go, lc_go, iRng1, iRng2, iSeq, tSl, tPart, tNoPart, tRaiseA, tAttr, List.getElem?_cons_zero, List.getElem?_cons_succ, List.set_cons_zero, List.set_cons_succ, Option.some.injEq, exists_eq_left']
  cases t with
  | none => exact isx_notup ht ⟨_, rfl, q H (Same.refl H)⟩
  | some rs0 =>
    obtain ⟨a, us, rfl, ha, hr⟩ := id ht
    refine isx_tup ha ⟨_, rfl, ?_⟩
    rw [if_neg (by simp)]
    refine len_tup ha (le_int ⟨_, rfl, ?_⟩)
    have hl := hr.1
    cases rs0 with
    | nil =>
      rw [hl, if_neg (by decide)]
      exact ⟨_, rfl, q H (Same.refl H)⟩
    | cons r0 rs =>
      cases us with
      | nil => cases hl
      | cons v0 us =>
        have c1 : (1 : Int) ≤ ((v0 :: us).length : Int) := by rw [List.length_cons]; omega
        rw [if_pos (decide_eq_true c1)]
        refine le_int ⟨_, rfl, ?_⟩
        have h0 := hr.2 0 v0 r0 rfl rfl
        by_cases c2 : ((v0 :: us).length : Int) ≤ 16
        · rw [if_neg (by simp only [decide_eq_true c2]; decide)]
          refine ix_tup0 ha ?_
          cases r0 with
          | none => exact isx_notup h0 ⟨_, rfl, q H (Same.refl H)⟩
          | some xs =>
            obtain ⟨b, rfl, hb, hsc⟩ := h0
            refine isx_tup hb ⟨_, rfl, ?_⟩
            rw [if_neg (by simp)]
            refine ix_tup0 ha (len_tup hb (le_int ⟨_, rfl, ?_⟩))
            rw [anyB_cons] at q
            rw [← hl, decide_eq_true c1, decide_eq_true c2] at q
            by_cases c3 : (1 : Int) ≤ (xs.length : Int)
            · rw [if_pos (decide_eq_true c3)]
              refine le_int ⟨_, rfl, ?_⟩
              rw [decide_eq_true c3] at q
              by_cases c4 : (xs.length : Int) ≤ 16
              · rw [decide_eq_true c4] at q
                rw [if_neg (by simp only [decide_eq_true c4]; decide)]
                refine len_tup ha (ix_tup0 ha (len_tup hb ⟨rfl, rfl, .ref a, _, _, some (some xs :: rs), rfl, ht, hs, fun H1 s1 => ⟨_, rfl, ?_⟩⟩))
                cases f : fitsB ((V.ref b :: us).length : Int) xs.length (some (some xs :: rs)) with
                | false =>
                  have e := q H1 s1
                  rw [planeB_some, f] at e
                  exact e
                | true =>
                  rw [if_neg (by simp)]
                  have ht1 := ht.same s1
                  obtain ⟨a2, us2, e0, ha2, hr2⟩ := ht1
                  cases e0
                  refine all_btw (lo := -512) (hi := 511) f rfl ha2 hr2 hs (by decide) (Nat.le_of_ble_eq_true rfl) (Nat.le_of_ble_eq_true rfl) (fun v σ' H2 k nv e3 eo s2 hk => ?_) fun H2 s2 => ?_
                  · simp only [tChain, tC, tVar, e3, Option.some.injEq, exists_eq_left']
                    cases v with
                    | int i =>
                      refine le_int ⟨_, rfl, ?_⟩
                      have e : btw (.int i) (-512) 511 = (decide (-512 ≤ i) && decide (i ≤ 511)) := rfl
                      rw [e] at hk
                      by_cases c5 : -512 ≤ i
                      · rw [decide_eq_true c5] at hk
                        rw [if_pos (decide_eq_true c5)]
                        exact le_int hk
                      · rw [decide_eq_false c5] at hk
                        rw [if_neg (by simp [c5])]
                        exact hk
                    | _ => cases nv
                  · have e := q H2 (s1.trans s2)
                    rw [planeB_some, f] at e
                    exact e
              · rw [decide_eq_false c4] at q
                rw [if_pos (by simp only [decide_eq_false c4]; decide)]
                exact q H (Same.refl H)
            · rw [if_neg (by simp only [decide_eq_false c3]; decide)]
              rw [decide_eq_false c3] at q
              exact ⟨_, rfl, q H (Same.refl H)⟩
        · rw [if_pos (by simp only [decide_eq_false c2]; decide)]
          cases r0 with
          | none => exact q H (Same.refl H)
          | some xs =>
            rw [anyB_cons, ← hl, decide_eq_true c1, decide_eq_false c2] at q
            exact q H (Same.refl H)
theorem ok_Shape_own_parts (c : ShC K) (h : sp_own_parts K vs H Q E) : vs.length = 1 ∧ t_Shape_own_parts K cells acts T pt (Ww E) (Dd Q) (L2.start ["self"] vs) H := by
  obtain ⟨a, h, w, lo, hi, rfl, sa, q⟩ := h
  refine ⟨rfl, ?_⟩
  rw [show L2.start ["self"] [V.ref a] = [some (.ref a)] from rfl]
  unfold t_Shape_own_parts
  simp only [tSeq, tWhile, tAnd, tOr, tNot, tTest, tTru, tOp, tUn, tVar, tC, tLst, tTup, tNil, tAsg, tBM, tBM0, tCons, gSub, tIfS, tCB, gName, tRet, tRetN, tNext, tIf, tFn, tDrop, tRaise0, tAndT, tOrT, tNotT, tChain, tAug, tPar, tPar3, for_go, lc_go, iRng1, iRng2, iSeq, tSl, tPart, tNoPart, tRaiseA, tAttr, List.getElem?_cons_zero, List.getElem?_cons_succ, List.set_cons_zero, List.set_cons_succ, Option.some.injEq, exists_eq_left']
  exact fld_height c sa (fld_width c sa (fld_low c sa (fld_high c sa ⟨small rfl, fun p hp => q p _ hp rfl⟩)))
theorem mt_own : mtLook (fl_Shape___eq__ K) "own_parts" (shC K) 0 = some (2, S_Shape_own_parts K) := by
  simp [mtLook]
theorem dp_four {p : Addr} {a b d e : Int} (h : H p = some (.tup [.int a, .int b, .int d, .int e])) : Dp K H (.ref p) (.tuple [.int a, .int b, .int d, .int e]) :=
  .tup (.inl (.inl h)) (.cons (.int a) (.cons (.int b) (.cons (.int d) (.cons (.int e) .nil))))
theorem eqv_four {a b c d a2 b2 c2 d2 : Int} : PyData.eqv (.tuple [.int a, .int b, .int c, .int d]) (.tuple [.int a2, .int b2, .int c2, .int d2]) = decide (a = a2 ∧ b = b2 ∧ c = c2 ∧ d = d2) := by
  show ((a == a2) && ((b == b2) && ((c == c2) && ((d == d2) && true)))) = _
  rw [Bool.eq_iff_iff]
  simp [and_assoc]
theorem ok_Shape___eq__ (c : ShC K) (h : sp_sh_eq K vs H Q E) : vs.length = 2 ∧ t_Shape___eq__ K cells acts T pt (Ww E) (Dd Q) (L2.start ["self", "other"] vs) H := by
  obtain ⟨a, h, w, lo, hi, y, rfl, sa, hy⟩ := h
  refine ⟨rfl, ?_⟩
  rw [show L2.start ["self", "other"] [V.ref a, y] = [some (.ref a), some y] from rfl]
  unfold t_Shape___eq__
  simp only [tMt, tSeq, tWhile, tAnd, tOr, tNot, tTest, tTru, tOp, tUn, tVar, tC, tLst, tTup, tNil, tAsg, tBM, tBM0, tCons, gSub, tIfS, tCB, gName, tRet, tRetN, tNext, tIf, tFn, tDrop, tRaise0, tAndT, tOrT, tNotT, tChain, tAug, tPar, tPar3, for_go, lc_go, iRng1, iRng2, iSeq, tSl, tPart, tNoPart, tRaiseA, tAttr, List.getElem?_cons_zero, List.getElem?_cons_succ, List.set_cons_zero, List.set_cons_succ, Option.some.injEq, exists_eq_left']
  rcases hy with ⟨ky, q⟩ | ⟨b, h2, w2, lo2, hi2, rfl, sb, q⟩
  · refine isx_no c ky ⟨_, rfl, ?_⟩
    exact q
  · refine isx_sh c sb ⟨_, rfl, ?_⟩
    rw [if_pos rfl]
    obtain ⟨⟨dx, oc, ea⟩, _⟩ := id sa
    obtain ⟨⟨dy, oc2, eb⟩, _⟩ := id sb
    refine ⟨a, _, dx, _, _, rfl, ea, rfl, mt_own, rfl, a, h, w, lo, hi, rfl, sa, fun p H1 hp e1 => ?_⟩
    subst e1
    have s1 : Same H (upd H p (.tup [.int h, .int w, .int lo, .int hi])) := same_new (Same.refl H) hp
    refine ⟨b, _, dy, _, _, rfl, s1 _ _ eb, rfl, mt_own, rfl, b, h2, w2, lo2, hi2, rfl, sb.same s1, fun p2 H2 hp2 e2 => ?_⟩
    subst e2
    refine .inr ⟨_, _, dp_four (keep_new upd_same hp2), dp_four upd_same, rfl, rfl, ?_⟩
    rw [eqv_four]
    exact q _ (s1.trans (same_new (Same.refl _) hp2))
theorem anyB_in {rs0 : List Rw} (h : anyB (some rs0) = true) : ∃ (w : Nat), 1 ≤ rs0.length ∧ rs0.length ≤ 16 ∧ 1 ≤ w ∧ w ≤ 16 ∧ planeB rs0.length w (-512) 511 (some rs0) = true := by
  cases rs0 with
  | nil => cases h
  | cons r rs =>
    cases r with
    | none => cases h
    | some xs =>
      rw [anyB_cons] at h
      simp only [Bool.and_eq_true, decide_eq_true_eq] at h
      obtain ⟨h1, h2, h3, h4, h5⟩ := h
      exact ⟨xs.length, by omega, by omega, by omega, by omega, h5⟩
/-- what looks like a plane is one -/
theorem plane_of {h w lo hi : Int} {t : Th} {x : V} (ht : ThAt H x t) (hb : planeB h w lo hi t = true) : ∃ p g, x = .ref p ∧ t = thOf g ∧ PlAt H p g ∧ (g.length : Int) = h ∧ (∀ r ∈ g, (r.length : Int) = w) ∧ ∀ r ∈ g, ∀ n ∈ r, lo ≤ n ∧ n ≤ hi := by
  cases t with
  | none => cases hb
  | some rs =>
    obtain ⟨a, us, rfl, ha, hr⟩ := ht
    rw [planeB_some, fitsB_some] at hb
    simp only [Bool.and_eq_true, decide_eq_true_eq] at hb
    obtain ⟨⟨h1, h2, h3⟩, h4⟩ := hb
    obtain ⟨rows, rfl, hlen⟩ := rows_of h2
    obtain ⟨bs, rfl, lb, hbs⟩ := refs_of hr
    have intR : ∀ xs ∈ rows, ∃ r : List Int, xs = r.map V.int ∧ ∀ n ∈ r, lo ≤ n ∧ n ≤ hi := fun xs hx => by
      have z := List.all_eq_true.mp h4 (some xs) (List.mem_map_of_mem hx)
      have z2 : ∀ v ∈ xs, btw v lo hi = true := fun v hv => List.all_eq_true.mp z v hv
      clear z hx
      induction xs with
      | nil => exact ⟨[], rfl, fun n hn => nomatch hn⟩
      | cons v xs ih =>
        obtain ⟨r, e, hr⟩ := ih fun u hu => z2 u (List.mem_cons_of_mem _ hu)
        obtain ⟨i, rfl, i0, i1⟩ := btw_int (z2 v List.mem_cons_self)
        refine ⟨i :: r, by rw [e]; rfl, fun n hn => ?_⟩
        rcases List.mem_cons.mp hn with rfl | hn
        · exact ⟨i0, i1⟩
        · exact hr n hn
    obtain ⟨g, eg, hg⟩ : ∃ g : List (List Int), rows = g.map (List.map V.int) ∧ ∀ r ∈ g, ∀ n ∈ r, lo ≤ n ∧ n ≤ hi := by
      clear hlen h2 h3 h4 h1 hr ha lb hbs
      induction rows with
      | nil => exact ⟨[], rfl, fun r hr => nomatch hr⟩
      | cons xs rows ih =>
        obtain ⟨g, e, hg⟩ := ih fun ys hy => intR ys (List.mem_cons_of_mem _ hy)
        obtain ⟨r, e2, hr⟩ := intR xs List.mem_cons_self
        refine ⟨r :: g, by rw [e, e2]; rfl, fun r' hr' => ?_⟩
        rcases List.mem_cons.mp hr' with rfl | h
        · exact hr
        · exact hg r' h
    subst eg
    refine ⟨a, g, rfl, ?_, ⟨bs, ha, by rw [lb, List.length_map], fun i b r e1 e2 => (hbs i b _ e1 (by rw [List.getElem?_map, e2]; rfl)).1⟩, ?_, fun r hr => ?_, hg⟩
    · unfold thOf
      rw [List.map_map]
      rfl
    · rw [← h1, List.length_map, List.length_map]
    · have := hlen (r.map V.int) (List.mem_map_of_mem hr)
      rw [List.length_map] at this
      exact this
theorem in_ways {v : V} {p : Addr} {k : VK} (sv : scV v = true) (e : H p = some (.tup [.str "sideways", .str "upside", .str "corner"])) (q : k (.bl (!wayB v)) H) : G.rCmp K .NotIn v (.ref p) H k := by
  have fv : flatV v = true := by
    cases v <;> first
      | rfl
      | cases sv
  refine .inl ⟨p, _, rfl, .inr (.inl (.inl e)), fv, rfl, ?_⟩
  have ei : inV v [.str "sideways", .str "upside", .str "corner"] = wayB v := by
    cases v with
    | non => rfl
    | bl b => rfl
    | int i => rfl
    | str y =>
      show ((("sideways" : Str) == y) || ((("upside" : Str) == y) || ((("corner" : Str) == y) || false))) = _
      have e : ∀ z : Str, decide (V.str y = V.str z) = (z == y) := fun z => by
        rw [Bool.eq_iff_iff, decide_eq_true_eq, beq_iff_eq]
        exact ⟨fun h => by cases h; rfl, fun h => by rw [h]⟩
      unfold wayB
      rw [e, e, e, Bool.or_false]
    | _ => cases sv
  rw [ei]
  exact q
theorem eq_way {v : V} {s : Str} {k : VK} (sv : scV v = true) (q : k (.bl (decide (v = .str s))) H) : G.rCmp K .Eq v (.str s) H k := by
  refine .inl ⟨?_, q⟩
  cases v <;> first
    | rfl
    | cases sv
theorem tup_of_lst {l : Addr} {xs : List V} {k : VK} (e : H l = some (.lst xs)) (q : ∀ p, H p = none → k (.ref p) (upd H p (.tup xs))) : G.rTupOf K [.ref l] H k := ⟨l, xs, rfl, .inl ⟨.inl (.inl e), q⟩⟩
theorem fresh_of (s : Same H H1) {p : Addr} (h : H1 p = none) : H p = none := by
  cases z : H p with
  | none => rfl
  | some o =>
    rw [s _ _ z] at h
    cases h
/-- a comprehension over a tuple, by an invariant -/
theorem lc_tup {a : Addr} (xs : List V) {ix : Nat} {tt : L2.TT} {te : TE} {σ : L2.St} {Q : VK} (P : Addr → Nat → List V → Hp → Prop) (h0 : ∀ D, H D = none → P D 0 [] (upd H D (.lst [])))
    (hl : ∀ D i acc H, P D i acc H → SqT K H a xs)
    (hs : ∀ D i acc H x, xs[i]? = some x → H D = some (.lst acc) → acc.length ≤ i → P D i acc H → tt ((wipe σ [ix]).set ix (some x)) H fun b H3 => if b = true then
      te ((wipe σ [ix]).set ix (some x)) H3 fun y H4 => ∃ acc, H4 D = some (.lst acc) ∧ acc.length < sizeLine ∧ Lp D P (i + 1) (upd H4 D (.lst (acc ++ [y]))) else Lp D P (i + 1) H3)
    (he : ∀ D acc H, acc.length ≤ xs.length → H D = some (.lst acc) → P D xs.length acc H → Q (.ref D) H) : LcGo (Itt K a) (gName ix) tt te [ix] σ Q H := by
  intro D hD
  refine ⟨fun i m H => i + m = xs.length ∧ Lp D P i H, ⟨xs.length, by omega, [], upd_same, Nat.le_refl _, h0 D hD⟩, fun i m H ⟨e, acc, hA, hz, h⟩ => ?_⟩
  by_cases c : i < xs.length
  · refine .inr ⟨⟨xs, xs[i], hl D i acc H h, List.getElem?_eq_getElem c⟩, fun H' => Lp D P (i + 1) H', fun H' q => ⟨m - 1, by omega, by omega, q⟩, fun x H' ⟨e1, e2⟩ => ?_⟩
    subst e1
    exact ⟨wipe_one, hs D i acc H' x (e2 xs (hl D i acc H' h)) hA hz h⟩
  · have : i = xs.length := by omega
    subst this
    exact .inl ⟨⟨xs, hl D _ acc H h, Nat.le_refl _⟩, he D acc H hz hA h⟩
theorem same_put {D : Addr} {o : HO} (s : Same H H1) (n : H D = none) : Same H (upd H1 D o) := fun b u e => by
  rw [upd_ne (ne_of_none e n)]
  exact s b u e
theorem ok_turned (h : sp_turned K vs H Q E) : vs.length = 2 ∧ t_turned K cells acts T pt (Ww E) (Dd Q) (L2.start ["plane", "way", "row"] vs) H := by
  obtain ⟨x, v, t, rfl, ht, hs, sv, e1, e2, q⟩ := h
  refine ⟨rfl, ?_⟩
  rw [show L2.start ["plane", "way", "row"] [x, v] = [some x, some v, none] from rfl]
  unfold t_turned
  simp only [tZip, tSeq, tWhile, tAnd, tOr, tNot, tTest, tTru, tOp, tUn, tVar, tC, tLst, tTup, tNil, tAsg, tBM, tBM0, tCons, gSub, tIfS, tCB, gName, tRet, tRetN, tNext, tIf, tFn, tDrop, tRaise0, tAndT, tOrT, tNotT, tChain, tAug, tPar, tPar3, for_go, lc_go, iRng1, iRng2, iSeq, tSl, tPart, tNoPart, tRaiseA, tAttr, List.getElem?_cons_zero, List.getElem?_cons_succ, List.set_cons_zero, List.set_cons_succ, Option.some.injEq, exists_eq_left']
  refine ⟨rfl, rfl, x, t, rfl, ht, hs, fun H1 s1 => ⟨_, rfl, ?_⟩⟩
  cases b : anyB t with
  | false => exact e1 b H1 s1
  | true =>
    rw [if_neg (by simp)]
    refine ⟨small rfl, fun p hp => in_ways sv upd_same ⟨_, rfl, ?_⟩⟩
    have s2 : Same H (upd H1 p (.tup [.str "sideways", .str "upside", .str "corner"])) := s1.trans (same_new (Same.refl _) hp)
    cases wb : wayB v with
    | false => exact e2 b wb _ s2
    | true =>
      rw [if_neg (by simp)]
      cases t with
      | none => cases b
      | some rs =>
      obtain ⟨w, n1, n16, w1, w16, hb⟩ := anyB_in b
      obtain ⟨pa, g, rfl, eg, pl, gl, gw, gz⟩ := plane_of (ht.same s2) hb
      have plH : PlAt H pa g := by
        obtain ⟨p0, g0, e0, eg0, pl0, _⟩ := plane_of ht hb
        cases e0
        rw [eg] at eg0
        have : g = g0 := by
          unfold thOf at eg0
          have z := Option.some.inj eg0
          exact (List.map_inj_right (fun a b hab => (List.map_inj_right (fun i j hij => by cases hij; rfl)).mp (Option.some.inj hab))).mp z
        rw [this]
        exact pl0
      have Q2 := q pa g rfl eg plH wb
      revert pl s2
      generalize upd H1 p (.tup [.str "sideways", .str "upside", .str "corner"]) = H2
      intro s2 pl
      obtain ⟨bs, ep, lb, hrows⟩ := pl
      have gl' : g.length = rs.length := by omega
      have rowAt : ∀ (j : Nat) (b : Addr), bs[j]? = some b → ∃ r, g[j]? = some r ∧ H2 b = some (.tup (r.map V.int)) := fun j b hj => by
        have cj : j < g.length := by rw [← lb]; exact (List.getElem?_eq_some_iff.mp hj).1
        exact ⟨g[j], List.getElem?_eq_getElem cj, hrows j b _ hj (List.getElem?_eq_getElem cj)⟩
      refine eq_way sv ⟨_, rfl, ?_⟩
      by_cases c1 : v = .str "sideways"
      · rw [if_pos (decide_eq_true c1)]
        have eg2 : turnG v g = g.map List.reverse := if_pos c1
        refine .inr (.inl ⟨_, rfl, pa, rfl, ⟨_, .inl (.inl ep)⟩, ?_⟩)
        refine lc_tup (bs.map V.ref) (fun D i acc H' => H2 D = none ∧ Same H2 H' ∧ ∃ ts : List Addr, acc = ts.map V.ref ∧ ts.length = i ∧ ∀ (j : Nat) (t : Addr) (r : List Int), ts[j]? = some t → g[j]? = some r → H' t = some (.tup (r.reverse.map V.int))) (fun D hD => ⟨hD, same_new (Same.refl _) hD, [], rfl, rfl, fun j t r e => by simp at e⟩) (fun D i acc H' h => .inl (.inl (h.2.1 _ _ ep))) ?_ ?_
        · rintro D i acc H' x hx hA hz ⟨hD, sD, ts, rfl, lts, hts⟩
          rw [List.getElem?_map] at hx
          obtain ⟨b, hb2, rfl⟩ := Option.map_eq_some_iff.mp hx
          obtain ⟨r, hr1, hr2⟩ := rowAt i b hb2
          show tRevA K (tVar 2) _ _ _
          refine .inr ⟨.ref b, rfl, b, _, rfl, .inl (.inl (sD _ _ hr2)), fun p hp => ?_⟩
          have npD : p ≠ D := fun e => by rw [e, hA] at hp; cases hp
          have li : i < bs.length := (List.getElem?_eq_some_iff.mp hb2).1
          refine Lp.put (keep_new hA hp) hz (by omega) ⟨hD, same_put (sD.trans (same_new (Same.refl _) hp)) hD, ts ++ [p], by rw [List.map_append]; rfl, by rw [List.length_append, lts]; rfl, fun j t r' h1 h2 => ?_⟩
          rcases Nat.lt_or_ge j ts.length with cj | cj
          · rw [List.getElem?_append_left cj] at h1
            have z := hts j t r' h1 h2
            have nt : t ≠ D := fun e => by rw [e, hA] at z; cases z
            rw [upd_ne nt]
            exact keep_new z hp
          · rw [List.getElem?_append_right cj] at h1
            have hj0 : j - ts.length = 0 := by
              rcases Nat.eq_zero_or_pos (j - ts.length) with z | z
              · exact z
              · rw [List.getElem?_eq_none (by simp; omega)] at h1
                cases h1
            rw [hj0] at h1
            cases h1
            have hji : j = i := by omega
            subst hji
            rw [hr1] at h2
            cases h2
            rw [upd_ne npD, upd_same, List.map_reverse]
        · rintro D acc H' hl2 hA ⟨hD, sD, ts, rfl, lts, hts⟩
          refine tup_of_lst hA fun r hr0 => ?_
          have sr := sD.trans (same_new (o := HO.tup (ts.map V.ref)) (Same.refl H') hr0)
          refine Q2 r _ (fresh_of (s2.trans sD) hr0) (s2.trans sr) ⟨ts, upd_same, by rw [eg2, List.length_map, lts, List.length_map, lb], fun j t r' h1 h2 => ?_⟩
          rw [eg2, List.getElem?_map] at h2
          obtain ⟨r0, h3, rfl⟩ := Option.map_eq_some_iff.mp h2
          exact keep_new (hts j t r0 h1 h3) hr0
      · rw [if_neg (by simp [c1])]
        refine eq_way sv ⟨_, rfl, ?_⟩
        by_cases c2 : v = .str "upside"
        · rw [if_pos (decide_eq_true c2)]
          have eg2 : turnG v g = g.reverse := (if_neg c1).trans (if_pos c2)
          refine .inr ⟨.ref pa, rfl, pa, _, rfl, .inl (.inl ep), fun r hr0 => ?_⟩
          refine Q2 r _ (fresh_of s2 hr0) (s2.trans (same_new (Same.refl _) hr0)) ⟨bs.reverse, by rw [upd_same, List.map_reverse], by rw [eg2, List.length_reverse, List.length_reverse, lb], fun j t r' h1 h2 => ?_⟩
          rw [eg2] at h2
          have cj : j < bs.length := by have := (List.getElem?_eq_some_iff.mp h1).1; rw [List.length_reverse] at this; exact this
          rw [List.getElem?_reverse cj] at h1
          rw [List.getElem?_reverse (by rw [← lb]; exact cj)] at h2
          rw [← lb] at h2
          exact keep_new (hrows _ t r' h1 h2) hr0
        · rw [if_neg (by simp [c2])]
          have eg2 : turnG v g = (List.range (g.headD []).length).map fun j => g.map fun r => r.getD j 0 := (if_neg c1).trans (if_neg c2)
          have hd : (g.headD []).length = w := by
            cases g with
            | nil => rw [List.length_nil] at gl'; omega
            | cons r0 g =>
              have := gw r0 List.mem_cons_self
              show r0.length = w
              omega
          rw [hd] at eg2
          refine ⟨pa, bs, g.map (List.map V.int), w, rfl, .inl (.inl ep), by rw [List.length_map, lb], by omega, by omega, by omega, by omega, fun j b xs h1 h2 => ?_, fun ts l H3 lts hl0 ht0 s3 e3 el => ?_⟩
          · rw [List.getElem?_map] at h2
            obtain ⟨r0, h3, rfl⟩ := Option.map_eq_some_iff.mp h2
            refine ⟨.inl (.inl (hrows j b r0 h1 h3)), ?_⟩
            have := gw r0 (List.mem_of_getElem? h3)
            rw [List.length_map]
            omega
          · refine tup_of_lst el fun r hr0 => ?_
            refine Q2 r _ (fresh_of (s2.trans s3) hr0) ((s2.trans s3).trans (same_new (Same.refl _) hr0)) ⟨ts, upd_same, by rw [eg2, List.length_map, List.length_range, lts], fun j t r' h1 h2 => ?_⟩
            rw [eg2, List.getElem?_map] at h2
            obtain ⟨j', h3, rfl⟩ := Option.map_eq_some_iff.mp h2
            have cj : j < w := by have := (List.getElem?_eq_some_iff.mp h1).1; omega
            rw [List.getElem?_range cj] at h3
            cases h3
            have ec : colV (g.map (List.map V.int)) j = (g.map fun r => r.getD j 0).map V.int := by
              unfold colV
              rw [List.map_map, List.map_map]
              refine List.map_congr_left fun r0 hr => ?_
              have := gw r0 hr
              show (r0.map V.int).getD j .non = V.int (r0.getD j 0)
              have c0 : j < r0.length := by omega
              rw [List.getD_eq_getElem?_getD, List.getD_eq_getElem?_getD, List.getElem?_map, List.getElem?_eq_getElem c0]
              rfl
            rw [← ec]
            exact keep_new (e3 j t h1) hr0
end
end Pk

set_option Elab.async false
set_option linter.all false
set_option maxRecDepth 100000
set_option maxHeartbeats 8000000
namespace Pk
open PySem PySem.Spec PyProof.Rows L2 LamX G
/-! ### data that repr can print -/
structure Nice (d : PyData) (k n : Nat) : Prop where
  s : d.showable = true
  h : d.hasDict = false
  k : d.depth ≤ k
  n : d.shown.length ≤ n
structure NiceA (ds : List PyData) (k m : Nat) : Prop where
  s : PyData.showableAll ds = true
  h : PyData.hasDictAll ds = false
  k : PyData.depthAll ds ≤ k
  n : piled (PyData.shownAll ds) ≤ m
theorem nice_nil : NiceA [] 0 0 := ⟨rfl, rfl, Nat.le_refl _, Nat.le_refl _⟩
theorem NiceA.cons {d : PyData} {ds : List PyData} {k l n m : Nat} (a : Nice d k n) (b : NiceA ds l m) : NiceA (d :: ds) (max k l) (n + 2 + m) := by
  refine ⟨?_, ?_, ?_, ?_⟩
  · show (d.showable && PyData.showableAll ds) = true
    rw [a.s, b.s]
    rfl
  · show (d.hasDict || PyData.hasDictAll ds) = false
    rw [a.h, b.h]
    rfl
  · show max d.depth (PyData.depthAll ds) ≤ max k l
    have := a.k
    have := b.k
    omega
  · show d.shown.length + 2 + piled (PyData.shownAll ds) ≤ _
    have := a.n
    have := b.n
    omega
theorem NiceA.le {ds : List PyData} {k l n m : Nat} (a : NiceA ds k n) (h1 : k ≤ l) (h2 : n ≤ m) : NiceA ds l m := ⟨a.s, a.h, Nat.le_trans a.k h1, Nat.le_trans a.n h2⟩
theorem Nice.le {d : PyData} {k l n m : Nat} (a : Nice d k n) (h1 : k ≤ l) (h2 : n ≤ m) : Nice d l m := ⟨a.s, a.h, Nat.le_trans a.k h1, Nat.le_trans a.n h2⟩
theorem nice_all {k n : Nat} : ∀ {ds : List PyData}, (∀ d ∈ ds, Nice d k n) → NiceA ds k (ds.length * (n + 2))
  | [], _ => ⟨rfl, rfl, Nat.zero_le _, Nat.zero_le _⟩
  | d :: ds, h => (NiceA.cons (h d List.mem_cons_self) (nice_all fun e he => h e (List.mem_cons_of_mem _ he))).le (by omega) (by rw [List.length_cons, Nat.add_mul, Nat.one_mul]; omega)
theorem nice_tup {ds : List PyData} {k m : Nat} (a : NiceA ds k m) : Nice (.tuple ds) (k + 1) (m + 3) := by
  refine ⟨a.s, a.h, ?_, ?_⟩
  · show PyData.depthAll ds + 1 ≤ k + 1
    have := a.k
    omega
  · show (PySem.tupleText (PyData.shownAll ds)).length ≤ _
    have z := tupText_le (PyData.shownAll ds)
    have := a.n
    omega
theorem nice_lst {ds : List PyData} {k m : Nat} (a : NiceA ds k m) : Nice (.list ds) (k + 1) (m + 3) := by
  refine ⟨a.s, a.h, ?_, ?_⟩
  · show PyData.depthAll ds + 1 ≤ k + 1
    have := a.k
    omega
  · show (listText (PyData.shownAll ds)).length ≤ _
    have z := listText_le (PyData.shownAll ds)
    have := a.n
    omega
theorem nice_pl {d : PyData} (h : PlD d) : Nice d 0 10002 := by
  obtain ⟨_, k2, k3, k4, k5⟩ := pl_one (K := default) (H := fun _ => none) h
  exact ⟨k2, k3, Nat.le_of_eq k4, k5⟩
theorem repr_nice {K : PySem.W.Frag} {H : Hp} {p : Addr} {Q : VK} {d : PyData} {k n : Nat} (hd : Dp K H (.ref p) d) (a : Nice d k n) (hk : k ≤ 30) (hn : n ≤ 16000000) (q : Q (.str d.shown) H) : G.rRepr K [.ref p] H Q :=
  .inl ⟨.ref p, d, rfl, hd, a.s, a.h, Nat.le_trans a.k hk, by rw [sizeLine_eq]; have := a.n; omega, ⟨p, rfl⟩, q⟩
/-! ### planes as data -/
def rowD (r : List Int) : PyData := .tuple (r.map PyData.int)
def plD (g : List (List Int)) : PyData := .tuple (g.map rowD)
/-- a plane's sides and samples -/
structure PlIn (g : List (List Int)) (h w lo hi : Int) : Prop where
  h : (g.length : Int) = h
  w : ∀ r ∈ g, (r.length : Int) = w
  z : ∀ r ∈ g, ∀ n ∈ r, lo ≤ n ∧ n ≤ hi
section
variable {K : PySem.W.Frag} {H H1 : Hp} {p : Addr} {g : List (List Int)} {h w lo hi : Int} {Q : VK}
theorem dp_row {b : Addr} {r : List Int} (e : H b = some (.tup (r.map V.int))) : Dp K H (.ref b) (rowD r) := .tup (.inl (.inl e)) (dp_ints r)
theorem dp_rows : ∀ (bs : List Addr) (g : List (List Int)), bs.length = g.length → (∀ (i : Nat) (b : Addr) (r : List Int), bs[i]? = some b → g[i]? = some r → H b = some (.tup (r.map V.int))) → DpAll K H (bs.map V.ref) (g.map rowD)
  | [], [], _, _ => .nil
  | b :: bs, r :: g, l, h => .cons (dp_row (h 0 b r rfl rfl)) (dp_rows bs g (by simpa using l) fun i c s h1 h2 => h (i + 1) c s h1 h2)
  | [], _ :: _, l, _ => by simp at l
  | _ :: _, [], l, _ => by simp at l
theorem dp_pl (hp : PlAt H p g) : Dp K H (.ref p) (plD g) := by
  obtain ⟨bs, e1, e2, e3⟩ := hp
  exact .tup (.inl (.inl e1)) (dp_rows bs g e2 e3)
theorem nice_row {r : List Int} (hl : r.length ≤ 17) (hr : ∀ n ∈ r, -1000000 ≤ n ∧ n ≤ 1000000) : Nice (rowD r) 1 170071 := by
  refine (nice_tup (nice_all (k := 0) (n := 10002) fun d hd => ?_)).le (Nat.le_refl _) (by rw [List.length_map]; omega)
  obtain ⟨n, hn, rfl⟩ := List.mem_map.mp hd
  exact nice_pl (pl_int (hr n hn).1 (hr n hn).2)
theorem nice_plane (hl : g.length ≤ 17) (hw : ∀ r ∈ g, r.length ≤ 17) (hr : ∀ r ∈ g, ∀ n ∈ r, -1000000 ≤ n ∧ n ≤ 1000000) : Nice (plD g) 2 2891244 := by
  refine (nice_tup (nice_all (k := 1) (n := 170071) fun d hd => ?_)).le (Nat.le_refl _) (by rw [List.length_map]; omega)
  obtain ⟨r, hr2, rfl⟩ := List.mem_map.mp hd
  exact nice_row (hw r hr2) (hr r hr2)
theorem lay_row (r : List Int) : (rowD r).canLay0 = true ∧ (rowD r).depth = 1 := by
  refine ⟨lay_ints r, ?_⟩
  show PyData.depthAll _ + 1 = 1
  rw [deep_ints]
theorem lay_rows : ∀ g : List (List Int), PyData.canLayAll0 (g.map rowD) = true ∧ PyData.depthAll (g.map rowD) ≤ 1
  | [] => ⟨rfl, Nat.zero_le _⟩
  | r :: g => by
    obtain ⟨h1, h2⟩ := lay_rows g
    refine ⟨?_, ?_⟩
    · show ((rowD r).canLay0 && PyData.canLayAll0 (g.map rowD)) = true
      rw [(lay_row r).1, h1]
      rfl
    · show max (rowD r).depth (PyData.depthAll (g.map rowD)) ≤ 1
      rw [(lay_row r).2]
      omega
theorem shaped_pl (g : List (List Int)) : SeqAt.shaped (plD g) = true := by
  unfold SeqAt.shaped
  rw [Bool.and_eq_true, decide_eq_true_eq]
  refine ⟨(lay_rows g).1, ?_⟩
  show PyData.depthAll (g.map rowD) + 1 ≤ 64
  have := (lay_rows g).2
  omega
theorem eqv_pl (g : List (List Int)) : PyData.eqv (plD g) (plD g) = true := SeqAt.eqv_refl _ (lay_rows g).1
theorem ne_pl {p2 : Addr} (h1 : PlAt H p g) (h2 : PlAt H p2 g) (q : Q (.bl false) H) : G.rCmp K .NotEq (.ref p) (.ref p2) H Q := by
  refine .inr ⟨_, _, dp_pl h1, dp_pl h2, shaped_pl g, shaped_pl g, ?_⟩
  rw [eqv_pl]
  exact q
theorem eq_pl {p2 : Addr} (h1 : PlAt H p g) (h2 : PlAt H p2 g) (q : Q (.bl true) H) : G.rCmp K .Eq (.ref p) (.ref p2) H Q := by
  refine .inr ⟨_, _, dp_pl h1, dp_pl h2, shaped_pl g, shaped_pl g, ?_⟩
  rw [eqv_pl]
  exact q
theorem PlAt.keep {st La Ca : Addr} {t : Int} (hp : PlAt H p g) (d : Drw st La Ca H t) (n : DrN st La H H1) : PlAt H1 p g := by
  obtain ⟨bs, e1, e2, e3⟩ := hp
  exact ⟨bs, d.keepT n e1, e2, fun i b r h1 h2 => d.keepT n (e3 i b r h1 h2)⟩
theorem PlAt.new {a : Addr} {o : HO} (hp : PlAt H p g) (ha : H a = none) : PlAt (upd H a o) p g := hp.same (same_new (Same.refl _) ha)
theorem ix_tup {t : Addr} {xs : List V} {i : Int} {v : V} (e : H t = some (.tup xs)) (h0 : 0 ≤ i) (h : xs[i.toNat]? = some v) (q : Q v H) : G.rSub2 K (.ref t) (.int i) H Q := by
  refine .inl (.inr (.inl ⟨t, xs, i, v, rfl, rfl, .inl (.inl e), ?_, q⟩))
  obtain ⟨hl, _⟩ := List.getElem?_eq_some_iff.mp h
  unfold atI ixN
  rw [if_pos h0, if_pos (by omega)]
  exact h
end
/-! ### planes by rows and columns -/
def gridZ (n m : Nat) (f : Nat → Nat → Int) : List (List Int) := (List.range n).map fun i => (List.range m).map fun j => f i j
section
variable {K : PySem.W.Frag} {H H1 : Hp} {p : Addr} {g : List (List Int)} {h w lo hi : Int} {Q : VK} {n m : Nat} {f f2 : Nat → Nat → Int}
theorem grid_congr (h : ∀ i j, i < n → j < m → f i j = f2 i j) : gridZ n m f = gridZ n m f2 :=
  List.map_congr_left fun i hi => List.map_congr_left fun j hj => h i j (List.mem_range.mp hi) (List.mem_range.mp hj)
theorem grid_len : (gridZ n m f).length = n := by unfold gridZ; rw [List.length_map, List.length_range]
theorem grid_at {i : Nat} (hi : i < n) : (gridZ n m f)[i]? = some ((List.range m).map (f i)) := by
  unfold gridZ
  rw [List.getElem?_map, List.getElem?_range hi]
  rfl
theorem grid_row {r : List Int} (hr : r ∈ gridZ n m f) : ∃ i, i < n ∧ r = (List.range m).map (f i) := by
  obtain ⟨i, hi, rfl⟩ := List.mem_map.mp hr
  exact ⟨i, List.mem_range.mp hi, rfl⟩
theorem row_at {i j : Nat} (hj : j < m) : ((List.range m).map (f i))[j]? = some (f i j) := by
  rw [List.getElem?_map, List.getElem?_range hj]
  rfl
theorem grid_in (hf : ∀ i j, i < n → j < m → lo ≤ f i j ∧ f i j ≤ hi) : PlIn (gridZ n m f) n m lo hi := by
  refine ⟨by rw [grid_len], fun r hr => ?_, fun r hr x hx => ?_⟩
  · obtain ⟨i, _, rfl⟩ := grid_row hr
    rw [List.length_map, List.length_range]
  · obtain ⟨i, hi, rfl⟩ := grid_row hr
    obtain ⟨j, hj, rfl⟩ := List.mem_map.mp hx
    exact hf i j hi (List.mem_range.mp hj)
theorem grid_of (hp : PlIn g h w lo hi) (h0 : 0 ≤ h) (w0 : 0 ≤ w) : ∃ (n m : Nat) (f : Nat → Nat → Int), h = n ∧ w = m ∧ g = gridZ n m f ∧ ∀ i j, i < n → j < m → lo ≤ f i j ∧ f i j ≤ hi := by
  have rl : ∀ i (hi : i < g.length), g[i].length = w.toNat := fun i hi => by
    have := hp.w g[i] (List.getElem_mem hi)
    omega
  refine ⟨g.length, w.toNat, fun i j => (g.getD i []).getD j 0, hp.h.symm, by omega, ?_, fun i j hi hj => ?_⟩
  · refine List.ext_getElem? fun i => ?_
    rcases Nat.lt_or_ge i g.length with hi | hi
    · rw [grid_at hi, List.getElem?_eq_getElem hi]
      congr 1
      refine List.ext_getElem? fun j => ?_
      rcases Nat.lt_or_ge j w.toNat with hj | hj
      · rw [show (List.map (fun j => (g.getD i []).getD j 0) (List.range w.toNat))[j]? = some ((g.getD i []).getD j 0) from row_at (f := fun i j => (g.getD i []).getD j 0) hj]
        have e1 : g.getD i [] = g[i] := by rw [List.getD_eq_getElem?_getD, List.getElem?_eq_getElem hi]; rfl
        rw [e1, List.getD_eq_getElem?_getD, List.getElem?_eq_getElem (by rw [rl i hi]; exact hj)]
        rfl
      · rw [List.getElem?_eq_none (by rw [rl i hi]; exact hj), List.getElem?_eq_none (by rw [List.length_map, List.length_range]; exact hj)]
    · rw [List.getElem?_eq_none hi, List.getElem?_eq_none (by rw [grid_len]; exact hi)]
  · have e1 : g.getD i [] = g[i] := by rw [List.getD_eq_getElem?_getD, List.getElem?_eq_getElem hi]; rfl
    have hj2 : j < g[i].length := by rw [rl i hi]; exact hj
    have e2 : (g.getD i []).getD j 0 = g[i][j] := by rw [e1, List.getD_eq_getElem?_getD, List.getElem?_eq_getElem hj2]; rfl
    show lo ≤ (g.getD i []).getD j 0 ∧ (g.getD i []).getD j 0 ≤ _
    rw [e2]
    exact hp.z g[i] (List.getElem_mem hi) _ (List.getElem_mem hj2)
theorem range_rev (n : Nat) : (List.range n).reverse = (List.range n).map fun i => n - 1 - i := by
  refine List.ext_getElem? fun i => ?_
  rcases Nat.lt_or_ge i n with hi | hi
  · rw [List.getElem?_reverse (by rw [List.length_range]; exact hi), List.length_range, List.getElem?_range (by omega), List.getElem?_map, List.getElem?_range hi]
    rfl
  · rw [List.getElem?_eq_none (by rw [List.length_reverse, List.length_range]; exact hi), List.getElem?_eq_none (by rw [List.length_map, List.length_range]; exact hi)]
theorem grid_side : turnG (.str "sideways") (gridZ n m f) = gridZ n m fun i j => f i (m - 1 - j) := by
  show (gridZ n m f).map List.reverse = _
  unfold gridZ
  rw [List.map_map]
  refine List.map_congr_left fun i hi => ?_
  show ((List.range m).map (f i)).reverse = _
  rw [← List.map_reverse, range_rev, List.map_map]
  rfl
theorem grid_up : turnG (.str "upside") (gridZ n m f) = gridZ n m fun i j => f (n - 1 - i) j := by
  have e : turnG (.str "upside") (gridZ n m f) = (gridZ n m f).reverse := by
    unfold turnG
    rw [if_neg (by decide), if_pos rfl]
  rw [e]
  unfold gridZ
  rw [← List.map_reverse, range_rev, List.map_map]
  rfl
theorem grid_corner (hn : 0 < n) : turnG (.str "corner") (gridZ n m f) = gridZ m n fun i j => f j i := by
  have e : turnG (.str "corner") (gridZ n m f) = (List.range ((gridZ n m f).headD []).length).map fun j => (gridZ n m f).map fun r => r.getD j 0 := by
    unfold turnG
    rw [if_neg (by decide), if_neg (by decide)]
  have hd : ((gridZ n m f).headD []).length = m := by
    obtain ⟨k, rfl⟩ : ∃ k, n = k + 1 := ⟨n - 1, by omega⟩
    unfold gridZ
    rw [List.range_succ_eq_map, List.map_cons, List.headD_cons, List.length_map, List.length_range]
  rw [e, hd]
  refine List.map_congr_left fun j hj => ?_
  unfold gridZ
  rw [List.map_map]
  refine List.map_congr_left fun i hi => ?_
  show ((List.range m).map (f i)).getD j 0 = f i j
  rw [List.getD_eq_getElem?_getD, row_at (List.mem_range.mp hj)]
  rfl
theorem any_in (hp : PlIn g h w lo hi) (h1 : 1 ≤ h) (h16 : h ≤ 16) (w1 : 1 ≤ w) (w16 : w ≤ 16) (l0 : -512 ≤ lo) (l1 : hi ≤ 511) : anyB (thOf g) = true := by
  have hl := hp.h
  cases g with
  | nil => rw [← hl] at h1; simp at h1
  | cons r g =>
    have wr := hp.w r List.mem_cons_self
    show anyB (some (some (r.map V.int) :: g.map fun r => some (r.map V.int))) = true
    rw [anyB_cons]
    simp only [Bool.and_eq_true, decide_eq_true_eq, List.length_cons, List.length_map]
    rw [List.length_cons] at hl
    refine ⟨by omega, by omega, by omega, by omega, ?_⟩
    have key : ∀ (r2 : Rw), r2 ∈ (some (r.map V.int) :: g.map fun r => some (r.map V.int)) → ∃ s ∈ (r :: g), r2 = some (s.map V.int) := fun r2 hr2 => by
      rcases List.mem_cons.mp hr2 with rfl | h
      · exact ⟨r, List.mem_cons_self, rfl⟩
      · obtain ⟨s, hs, rfl⟩ := List.mem_map.mp h
        exact ⟨s, List.mem_cons_of_mem _ hs, rfl⟩
    rw [planeB_some, fitsB_some]
    simp only [Bool.and_eq_true, decide_eq_true_eq, List.length_cons, List.length_map]
    refine ⟨⟨trivial, List.all_eq_true.mpr fun r2 hr2 => ?_, List.all_eq_true.mpr fun r2 hr2 => ?_⟩, List.all_eq_true.mpr fun r2 hr2 => ?_⟩ <;> obtain ⟨s, hs, rfl⟩ := key r2 hr2
    · have := hp.w s hs
      exact decide_eq_true (by rw [List.length_map]; omega)
    · refine List.all_eq_true.mpr fun v hv => ?_
      obtain ⟨i, _, rfl⟩ := List.mem_map.mp hv
      rfl
    · refine List.all_eq_true.mpr fun v hv => ?_
      obtain ⟨i, hi2, rfl⟩ := List.mem_map.mp hv
      obtain ⟨z0, z1⟩ := hp.z s hs i hi2
      exact btw_of (by omega) (by omega)
theorem nice_in (hp : PlIn g h w lo hi) (h16 : h ≤ 16) (w16 : w ≤ 16) (l0 : -512 ≤ lo) (l1 : hi ≤ 511) : Nice (plD g) 2 2891244 :=
  nice_plane (by have := hp.h; omega) (fun r hr => by have := hp.w r hr; omega) fun r hr n hn => by have := hp.z r hr n hn; omega
theorem ths_in (hp : PlIn g h w lo hi) (h16 : h ≤ 16) (w16 : w ≤ 16) : ThS (thOf g) := by
  refine ⟨by rw [List.length_map]; have := hp.h; omega, fun r hr => ?_⟩
  obtain ⟨s, hs, rfl⟩ := List.mem_map.mp hr
  show (s.map V.int).length ≤ 100
  rw [List.length_map]
  have := hp.w s hs
  omega
/-- a list of rows -/
def GrL (H : Hp) (l : Addr) (g : List (List Int)) : Prop := ∃ bs : List Addr, H l = some (.lst (bs.map V.ref)) ∧ bs.length = g.length ∧ ∀ (i : Nat) (b : Addr) (r : List Int), bs[i]? = some b → g[i]? = some r → H b = some (.tup (r.map V.int))
theorem GrL.same {l : Addr} (hp : GrL H l g) (s : Same H H1) : GrL H1 l g := by
  obtain ⟨bs, e1, e2, e3⟩ := hp
  exact ⟨bs, s _ _ e1, e2, fun i b r a c => s _ _ (e3 i b r a c)⟩
theorem tup_gr {l : Addr} (hp : GrL H l g) (q : ∀ p H', H p = none → Same H H' → PlAt H' p g → Q (.ref p) H') : G.rTupOf K [.ref l] H Q := by
  obtain ⟨bs, e1, e2, e3⟩ := hp
  exact tup_of_lst e1 fun p hp => q p _ hp (same_new (Same.refl _) hp) ⟨bs, upd_same, e2, fun i b r h1 h2 => keep_new (e3 i b r h1 h2) hp⟩
/-- a row of numbers, one for each of a range -/
theorem lc_ints {ii : Nat} {te : TE} {σ : L2.St} (z : Nat → Int) (hz : m ≤ 1000000) (hii : ii < σ.length)
    (ht : ∀ j σ' H' (k : VK), j < m → σ'[ii]? = some (some (.int (0 + j))) → (∀ l, l ≠ ii → σ'[l]? = σ[l]?) → Same H H' → k (.int (z j)) H' → te σ' H' k)
    (q : ∀ D, H D = none → Q (.ref D) (upd H D (.lst (((List.range m).map z).map V.int)))) : LcGo (Itr 0 m) (gName ii) tYes te [ii] σ Q H := by
  refine lc_rng (fun D j acc H' => H D = none ∧ acc = ((List.range j).map z).map V.int ∧ H' = upd H D (.lst acc)) (fun D hD => ⟨hD, rfl, rfl⟩) ?_ ?_
  · rintro D j acc H' hj hA hz2 ⟨hD, rfl, rfl⟩
    refine ht j _ _ _ hj ?_ (fun l hl => ?_) (same_new (Same.refl H) hD) ?_
    · show ((σ.set ii none).set ii (some (V.int (0 + j))))[ii]? = _
      rw [List.getElem?_set_self (by rw [List.length_set]; exact hii)]
    · show ((σ.set ii none).set ii (some (V.int (0 + j))))[l]? = _
      rw [List.getElem?_set_ne (Ne.symm hl), List.getElem?_set_ne (Ne.symm hl)]
    · refine Lp.put hA hz2 (by omega) ⟨hD, ?_, by rw [upd_upd]⟩
      rw [List.range_succ, List.map_append, List.map_append]
      rfl
  · rintro D acc H' _ hA ⟨hD, rfl, rfl⟩
    exact q D hD
/-- rows of numbers, each made a tuple -/
theorem lc_grid {io ii im : Nat} {te : TE} {σ : L2.St} (f : Nat → Nat → Int) (hn : n ≤ 1000) (hm : m ≤ 1000) (hio : io < σ.length) (hii : ii < σ.length) (ne : im ≠ io) (e : σ[im]? = some (some (.int m)))
    (ht : ∀ i j σ' H' (k : VK), i < n → j < m → σ'[io]? = some (some (.int (0 + i))) → σ'[ii]? = some (some (.int (0 + j))) → (∀ l, l ≠ io → l ≠ ii → σ'[l]? = σ[l]?) → Same H H' → k (.int (f i j)) H' → te σ' H' k) (ne2 : io ≠ ii)
    (q : ∀ D H', H D = none → Same H H' → GrL H' D (gridZ n m f) → Q (.ref D) H') :
    LcGo (Itr 0 n) (gName io) tYes (tCB (G.rTupOf K) (tCons (tLc (iRng1 (tCons (tVar im) tNil)) (gName ii) tYes te [ii]) tNil)) [io] σ Q H := by
  refine lc_rng (fun D i acc H' => H D = none ∧ Same H H' ∧ ∃ ts : List Addr, acc = ts.map V.ref ∧ ts.length = i ∧ ∀ (j : Nat) (b : Addr), ts[j]? = some b → H' b = some (.tup (((List.range m).map (f j)).map V.int))) (fun D hD => ⟨hD, same_new (Same.refl _) hD, [], rfl, rfl, fun j b h => by simp at h⟩) ?_ ?_
  · rintro D i acc H' hi hA hz ⟨hD, sD, ts, rfl, lts, hts⟩
    simp only [tCB, tCons, tNil, lc_go, iRng1, tVar]
    show tYes _ _ _
    refine ⟨.int m, ?_, m, rfl, by omega, by omega, ?_⟩
    · show ((σ.set io none).set io (some (V.int (0 + i))))[im]? = _
      rw [List.getElem?_set_ne (Ne.symm ne), List.getElem?_set_ne (Ne.symm ne)]
      exact e
    rw [Int.toNat_natCast]
    refine lc_ints (m := m) (σ := (σ.set io none).set io (some (V.int (0 + i)))) (f i) (by omega) (by rw [List.length_set, List.length_set]; exact hii) (fun j σ' H2 k hj e1 e2 s2 hk => ?_) fun l hl => ?_
    · refine ht i j σ' H2 k hi hj ?_ e1 (fun l l1 l2 => ?_) (sD.trans s2) hk
      · rw [e2 io ne2]
        show ((σ.set io none).set io (some (V.int (0 + i))))[io]? = _
        rw [List.getElem?_set_self (by rw [List.length_set]; exact hio)]
      · rw [e2 l l2]
        show ((σ.set io none).set io (some (V.int (0 + i))))[l]? = _
        rw [List.getElem?_set_ne (Ne.symm l1), List.getElem?_set_ne (Ne.symm l1)]
    · refine tup_of_lst upd_same fun p hp => ?_
      have sl : Same H' (upd H' l (.lst (((List.range m).map (f i)).map V.int))) := same_new (Same.refl _) hl
      have hAl := sl _ _ hA
      have npD : p ≠ D := fun e => by rw [e, hAl] at hp; cases hp
      refine Lp.put (keep_new hAl hp) hz (by omega) ⟨hD, same_put ((sD.trans sl).trans (same_new (Same.refl _) hp)) hD, ts ++ [p], by rw [List.map_append]; rfl, by rw [List.length_append, lts]; rfl, fun j b hj => ?_⟩
      rcases Nat.lt_or_ge j ts.length with c | c
      · rw [List.getElem?_append_left c] at hj
        have z := hts j b hj
        rw [upd_ne (fun e => by rw [e, hA] at z; cases z)]
        exact keep_new (sl _ _ z) hp
      · rw [List.getElem?_append_right c] at hj
        have h0 : j - ts.length = 0 := by
          rcases Nat.eq_zero_or_pos (j - ts.length) with z | z
          · exact z
          · rw [List.getElem?_eq_none (by simp; omega)] at hj
            cases hj
        rw [h0] at hj
        cases hj
        have : j = i := by omega
        subst this
        rw [upd_ne npD, upd_same]
  · rintro D acc H' _ hA ⟨hD, sD, ts, rfl, lts, hts⟩
    refine q D H' hD sD ⟨ts, hA, by rw [grid_len, lts], fun i b r h1 h2 => ?_⟩
    have hi : i < n := by rw [← lts]; exact (List.getElem?_eq_some_iff.mp h1).1
    rw [grid_at hi] at h2
    cases h2
    exact hts i b h1
end
/-! ### what laws' texts share -/
section
variable {T : List (Addr × Str)} {st La Ca : Addr} {K : PySem.W.Frag} {H0 H H1 : Hp} {t u : Int} {x y : V} {Q : VK}
theorem Rf.same (R : Rf T st La Ca H0 H t) (s : Same H H1) : Rf T st La Ca H0 H1 t := ⟨drw_same R.d s, fun p hp => (R.T p hp).ext s, R.n.trans (same_dr s).n⟩
theorem sq_par {H : Hp} {i j : Nat} {ta : TA} {rest : TS} {D : Ends} {σ : L2.St} (h : ta σ H fun vs H1 => ∃ v w, vs = [v, w] ∧ rest D ((σ.set i (some v)).set j (some w)) H1) : tSeq (tPar i j ta) rest D σ H := h
theorem sq_par3 {H : Hp} {i j k : Nat} {ta : TA} {rest : TS} {D : Ends} {σ : L2.St} (h : ta σ H fun vs H1 => ∃ v w x, vs = [v, w, x] ∧ rest D (((σ.set i (some v)).set j (some w)).set k (some x)) H1) : tSeq (tPar3 i j k ta) rest D σ H := h
theorem sq_st {a rest : TS} {D : Ends} {σ : L2.St} (h : a { D with nx := rest D } σ H) : tSeq a rest D σ H := h
theorem for_s {H : Hp} {wi : TI} {g : TG} {tb : TS} {D : Ends} {σ : L2.St} (h : wi σ H fun J H1 => ForGo J g tb D σ H1) : tFor wi g tb D σ H := h
theorem and_join {A : Bool} {P X : Prop} (h : X) (hp : A = true → X → P) : if A = true then P else X := by
  by_cases c : A = true
  · rw [if_pos c]
    exact hp c h
  · rw [if_neg c]
    exact h
/-- a new tuple, a new list: the heaps kept opaque -/
@[irreducible] def NwT (xs : List V) (H : Hp) (Q : VK) : Prop := xs.length ≤ sizeLine ∧ ∀ p, H p = none → Q (.ref p) (upd H p (.tup xs))
@[irreducible] def NwL (xs : List V) (H : Hp) (Q : VK) : Prop := xs.length ≤ sizeLine ∧ ∀ p, H p = none → Q (.ref p) (upd H p (.lst xs))
theorem nwT {xs : List V} {Q : VK} (hl : xs.length ≤ 1000) (h : ∀ p H', H p = none → Same H H' → H' p = some (.tup xs) → Q (.ref p) H') : NwT xs H Q := by
  unfold NwT
  exact ⟨by rw [sizeLine_eq]; omega, fun p hp => h p _ hp (same_new (Same.refl _) hp) upd_same⟩
theorem nwL {xs : List V} {Q : VK} (hl : xs.length ≤ 1000) (h : ∀ p H', H p = none → Same H H' → H' p = some (.lst xs) → Q (.ref p) H') : NwL xs H Q := by
  unfold NwL
  exact ⟨by rw [sizeLine_eq]; omega, fun p hp => h p _ hp (same_new (Same.refl _) hp) upd_same⟩
theorem tt_go {ta : TA} {σ : L2.St} {Q : VK} (h : ta σ H fun vs H1 => NwT vs H1 Q) : tTup ta σ H Q := by
  unfold NwT at h
  exact h
theorem tl_go {ta : TA} {σ : L2.St} {Q : VK} (h : ta σ H fun vs H1 => NwL vs H1 Q) : tLst ta σ H Q := by
  unfold NwL at h
  exact h
theorem cons_op {r : R2} {t u : TE} {tr : TA} {σ : L2.St} {Q : List V → Hp → Prop} (h : t σ H fun x H1 => u σ H1 fun y H2 => r x y H2 fun z H3 => tr σ H3 fun xs H4 => Q (z :: xs) H4) : tCons (tOp r t u) tr σ H Q := h
/-- what looks so on all later heaps -/
def ThN (st La : Addr) (H : Hp) (x : V) (th : Th) : Prop := ∀ H', DrN st La H H' → ThAt H' x th
theorem th_rep {H : Hp} {b c : Addr} {n : Nat} {xs : List V} (h : ∀ v ∈ xs, scV v = true) (e1 : H b = some (.tup (List.replicate n (.ref c)))) (e2 : H c = some (.tup xs)) : ThAt H (.ref b) (some (List.replicate n (some xs))) := by
  refine ⟨b, _, rfl, e1, by rw [List.length_replicate, List.length_replicate], fun i v r h1 h2 => ?_⟩
  rw [List.eq_of_mem_replicate (List.mem_of_getElem? h1), List.eq_of_mem_replicate (List.mem_of_getElem? h2)]
  exact ⟨c, rfl, e2, h⟩
/-- a new tuple, the heap kept opaque -/
theorem tup_go {xs : List V} {k : VK} (h : ∀ p H', H p = none → Same H H' → H' p = some (.tup xs) → k (.ref p) H') : ∀ p, H p = none → k (.ref p) (upd H p (.tup xs)) := fun p hp => h p _ hp (same_new (Same.refl _) hp) upd_same
theorem lst_go {xs : List V} {k : VK} (h : ∀ p H', H p = none → Same H H' → H' p = some (.lst xs) → k (.ref p) H') : ∀ p, H p = none → k (.ref p) (upd H p (.lst xs)) := fun p hp => h p _ hp (same_new (Same.refl _) hp) upd_same
theorem pick_go {a : Addr} {xs : List V} {acts : Acts} {E : XK} (R : Rf T st La Ca H0 H t) (tl : t ≤ 2 ^ 40) (e : H a = some (.lst xs)) (na : a ≠ st ∧ a ≠ La ∧ a ≠ Ca) (l0 : 0 < xs.length) (l1 : xs.length ≤ 1000000)
    (q : ∀ x H', x ∈ xs → Rf T st La Ca H H' (t + 1) → Q x H') : spPick acts [.ref st, .ref a] [] H Q E :=
  ⟨st, La, Ca, t, a, xs, rfl, tl, R.d, na.2.1, e, l0, l1, fun x H' hx d' f' => q x H' hx (R.fresh.dr d' f')⟩
theorem draw_go {n : Int} {acts : Acts} {E : XK} (R : Rf T st La Ca H0 H t) (tl : t ≤ 2 ^ 40) (n0 : 0 < n) (n1 : n ≤ 2 ^ 29) (q : ∀ r H', 0 ≤ r → r < n → Rf T st La Ca H H' (t + 1) → Q (.int r) H') : spDraw acts [.ref st, .int n] [] H Q E :=
  ⟨st, La, Ca, n, t, rfl, n0, n1, tl, R.d, fun r H' r0 r1 d' f' => q r H' r0 r1 (R.fresh.dr d' f')⟩
theorem eqv_ints4 {a b c d a2 b2 c2 d2 : Int} : PyData.eqv (.list [.int a, .int b, .int c, .int d]) (.list [.int a2, .int b2, .int c2, .int d2]) = decide (a = a2 ∧ b = b2 ∧ c = c2 ∧ d = d2) := by
  show ((a == a2) && ((b == b2) && ((c == c2) && ((d == d2) && true)))) = _
  rw [Bool.eq_iff_iff]
  simp [and_assoc]
end
end Pk

set_option Elab.async false
set_option linter.all false
set_option maxRecDepth 100000
set_option maxHeartbeats 8000000
namespace K03
open PySem PySem.Spec PyProof.Rows L2 LamX G Pk
/-! ### the text -/
def topS (i : Nat) : Stmt := PySem.Challenge.pw_pricedreels_k03_shapes_planes_and_turnin.main.body.getD i (.Pass ⟨0, 0, 0, 0⟩)
abbrev st_is_number : Stmt := topS 7
theorem sc_is_number : FnScope ["thing"] ["thing"] (defScope st_is_number) := ⟨rfl, rfl, rfl, by decide +kernel, rfl, by decide +kernel, by decide +kernel⟩
abbrev st_is_between : Stmt := topS 8
theorem sc_is_between : FnScope ["thing", "low", "high"] ["thing", "low", "high"] (defScope st_is_between) := ⟨rfl, rfl, rfl, by decide +kernel, rfl, by decide +kernel, by decide +kernel⟩
abbrev st_need_shape : Stmt := topS 14
theorem sc_need_shape : FnScope ["shape"] ["shape"] (defScope st_need_shape) := ⟨rfl, rfl, rfl, by decide +kernel, rfl, by decide +kernel, by decide +kernel⟩
abbrev st_fits_grid : Stmt := topS 15
theorem sc_fits_grid : FnScope ["thing", "height", "width", "row", "sample"] ["thing", "height", "width"] (defScope st_fits_grid) := ⟨rfl, rfl, rfl, by decide +kernel, rfl, by decide +kernel, by decide +kernel⟩
abbrev st_does_suit : Stmt := topS 16
theorem sc_does_suit : FnScope ["shape", "thing", "row", "sample"] ["shape", "thing"] (defScope st_does_suit) := ⟨rfl, rfl, rfl, by decide +kernel, rfl, by decide +kernel, by decide +kernel⟩
abbrev st_is_plane : Stmt := topS 17
theorem sc_is_plane : FnScope ["shape", "thing"] ["shape", "thing"] (defScope st_is_plane) := ⟨rfl, rfl, rfl, by decide +kernel, rfl, by decide +kernel, by decide +kernel⟩
abbrev st_flat_of : Stmt := topS 18
theorem sc_flat_of : FnScope ["shape", "number"] ["shape", "number"] (defScope st_flat_of) := ⟨rfl, rfl, rfl, by decide +kernel, rfl, by decide +kernel, by decide +kernel⟩
abbrev st_flat_plane : Stmt := topS 19
theorem sc_flat_plane : FnScope ["shape", "number"] ["shape", "number"] (defScope st_flat_plane) := ⟨rfl, rfl, rfl, by decide +kernel, rfl, by decide +kernel, by decide +kernel⟩
abbrev st_is_any_plane : Stmt := topS 20
theorem sc_is_any_plane : FnScope ["thing", "row", "sample"] ["thing"] (defScope st_is_any_plane) := ⟨rfl, rfl, rfl, by decide +kernel, rfl, by decide +kernel, by decide +kernel⟩
abbrev st_turned : Stmt := topS 21
theorem sc_turned : FnScope ["plane", "way", "row"] ["plane", "way"] (defScope st_turned) := ⟨rfl, rfl, rfl, by decide +kernel, rfl, by decide +kernel, by decide +kernel⟩
abbrev st__law_begun : Stmt := topS 23
theorem sc__law_begun : FnScope ["_law_script", "_law_cells_here", "_law_cell", "_law_large"] ["_law_script"] (defScope st__law_begun) := ⟨rfl, rfl, rfl, by decide +kernel, rfl, by decide +kernel, by decide +kernel⟩
abbrev st__law_draw : Stmt := topS 24
theorem sc__law_draw : FnScope ["_law_state", "_law_size_here", "_law_found", "_law_turn", "_law_cell", "_law_mixed"] ["_law_state", "_law_size_here"] (defScope st__law_draw) := ⟨rfl, rfl, rfl, by decide +kernel, rfl, by decide +kernel, by decide +kernel⟩
abbrev st__law_pick : Stmt := topS 25
theorem sc__law_pick : FnScope ["_law_state", "_law_several"] ["_law_state", "_law_several"] (defScope st__law_pick) := ⟨rfl, rfl, rfl, by decide +kernel, rfl, by decide +kernel, by decide +kernel⟩
abbrev st__law_caught : Stmt := topS 26
theorem sc__law_caught : FnScope ["_law_work", "_law_caught_here", "error"] ["_law_work"] (defScope st__law_caught) := ⟨rfl, rfl, rfl, by decide +kernel, rfl, by decide +kernel, by decide +kernel⟩
abbrev st__law_is_whole : Stmt := topS 27
theorem sc__law_is_whole : FnScope ["_law_item"] ["_law_item"] (defScope st__law_is_whole) := ⟨rfl, rfl, rfl, by decide +kernel, rfl, by decide +kernel, by decide +kernel⟩
abbrev st__law_scope : Stmt := topS 28
theorem sc__law_scope : FnScope ["_law_state", "_law_some", "_law_tall", "_law_wide", "_law_least", "_law_most"] ["_law_state"] (defScope st__law_scope) := ⟨rfl, rfl, rfl, by decide +kernel, rfl, by decide +kernel, by decide +kernel⟩
abbrev st__law_within : Stmt := topS 29
theorem sc__law_within : FnScope ["_law_scope_here", "_law_item"] ["_law_scope_here", "_law_item"] (defScope st__law_within) := ⟨rfl, rfl, rfl, by decide +kernel, rfl, by decide +kernel, by decide +kernel⟩
abbrev st__law_grain : Stmt := topS 30
theorem sc__law_grain : FnScope ["_law_state", "_law_scope_here"] ["_law_state", "_law_scope_here"] (defScope st__law_grain) := ⟨rfl, rfl, rfl, by decide +kernel, rfl, by decide +kernel, by decide +kernel⟩
abbrev st__law_pane : Stmt := topS 31
theorem sc__law_pane : FnScope ["_law_state", "_law_scope_here", "_law_fashion", "_law_base", "_law_pair", "_law_slope", "_law_found", "_law_y", "_law_line", "_law_x"] ["_law_state", "_law_scope_here"] (defScope st__law_pane) := ⟨rfl, rfl, rfl, by decide +kernel, rfl, by decide +kernel, by decide +kernel⟩
abbrev st__law_due : Stmt := topS 32
theorem sc__law_due : FnScope ["_law_four", "_law_tall", "_law_wide", "_law_least", "_law_most"] ["_law_four"] (defScope st__law_due) := ⟨rfl, rfl, rfl, by decide +kernel, rfl, by decide +kernel, by decide +kernel⟩
abbrev st__law_is_pane : Stmt := topS 33
theorem sc__law_is_pane : FnScope ["_law_scope_here", "_law_item", "_law_line", "_law_grain_here"] ["_law_scope_here", "_law_item"] (defScope st__law_is_pane) := ⟨rfl, rfl, rfl, by decide +kernel, rfl, by decide +kernel, by decide +kernel⟩
abbrev st__law_bent : Stmt := topS 34
theorem sc__law_bent : FnScope ["_law_state", "_law_scope_here", "_law_pane_here", "_law_lines", "_law_fashion", "_law_line", "_law_spot", "_law_dot"] ["_law_state", "_law_scope_here", "_law_pane_here"] (defScope st__law_bent) := ⟨rfl, rfl, rfl, by decide +kernel, rfl, by decide +kernel, by decide +kernel⟩
abbrev st__law_turned_right : Stmt := topS 35
theorem sc__law_turned_right : FnScope ["_law_state", "_law_scope_here", "_law_pane_here", "_law_tall", "_law_wide", "_law_ups", "_law_x", "_law_y", "_law_sides", "_law_corners", "_law_told", "_law_fashion"] ["_law_state", "_law_scope_here", "_law_pane_here"] (defScope st__law_turned_right) := ⟨rfl, rfl, rfl, by decide +kernel, rfl, by decide +kernel, by decide +kernel⟩
abbrev st_Shape___init__ : Stmt := clsM (topS 13) 0
theorem sc_Shape___init__ : FnScope ["self", "height", "width", "low", "high"] ["self", "height", "width", "low", "high"] (defScope st_Shape___init__) := ⟨rfl, rfl, rfl, by decide +kernel, rfl, by decide +kernel, by decide +kernel⟩
abbrev st_Shape_own_parts : Stmt := clsM (topS 13) 1
theorem sc_Shape_own_parts : FnScope ["self"] ["self"] (defScope st_Shape_own_parts) := ⟨rfl, rfl, rfl, by decide +kernel, rfl, by decide +kernel, by decide +kernel⟩
abbrev st_Shape___eq__ : Stmt := clsM (topS 13) 2
theorem sc_Shape___eq__ : FnScope ["self", "other"] ["self", "other"] (defScope st_Shape___eq__) := ⟨rfl, rfl, rfl, by decide +kernel, rfl, by decide +kernel, by decide +kernel⟩
abbrev st_law : Stmt := topS 36
theorem sc_law : FnScope ["_law_script", "_law_state", "_law_turn", "_law_scope_here", "_law_four", "_law_form", "_law_middle_here", "_law_bent_here", "_law_lap", "_law_some", "_law_due_here", "_law_caught_here", "_law_pane_here", "_law_item", "_law_base", "_law_odd", "_law_work", "_law_wrong"] ["_law_script"] (defScope st_law) := ⟨rfl, rfl, rfl, by decide +kernel, rfl, by decide +kernel, by decide +kernel⟩
def mdOf (K : PySem.W.Frag) : Md := { free := ["abs", "all", "bool", "int", "isinstance", "len", "list", "max", "min", "range", "repr", "tuple", "zip"], gv := [("BadNumber", .ref (He.ga K "BadNumber")), ("BadPlane", .ref (He.ga K "BadPlane")), ("BadShape", .ref (He.ga K "BadShape")), ("BadWay", .ref (He.ga K "BadWay")), ("LEAST_LOW", (.int (-512))), ("MOST_HIGH", (.int 511)), ("MOST_SIDE", (.int 16)), ("Shape", .ref (He.ga K "Shape"))], exc := [("BadNumber", He.ga K "BadNumber"), ("BadPlane", He.ga K "BadPlane"), ("BadWay", He.ga K "BadWay"), ("ReelError", He.ga K "ReelError")], exa := [("BadShape", He.ga K "BadShape", "part")] }

abbrev tT (K : PySem.W.Frag) : Addr := (He.cT K ("law", none)).2
abbrev TT (K : PySem.W.Frag) : List (Addr × Str) := [(tT K, ("law" ++ ".<locals>." : Str) ++ "<lambda>")]
def dueV (x y z u : V) : V := if btw x 1 16 = false then .str "height" else if btw y 1 16 = false then .str "width" else if btw z (-512) 511 = false then .str "low" else match z with
  | .int lo => if btw u lo 511 = true then .non else .str "high"
  | _ => .str "low"
def sp_pane : SpD := fun vs H Q _ => ∃ (st La Ca p : Addr) (t h w lo hi : Int), vs = [.ref st, .ref p] ∧ t ≤ 2 ^ 38 ∧ Drw st La Ca H t ∧ ScAt st H p h w lo hi ∧
  ∀ q g H', H q = none → PlAt H' q g → PlIn g h w lo hi → Drw st La Ca H' (t + 1000) → Dr st La H H' → Q (.ref q) H'
def sp_due (K : PySem.W.Frag) : SpD := fun vs H Q _ => ∃ (a : Addr) (x y z u : V), vs = [.ref a] ∧ SqL K H a [x, y, z, u] ∧ Kd H x ∧ Kd H y ∧ Kd H z ∧ Kd H u ∧ Q (dueV x y z u) H
def sp_is_pane : SpD := fun vs H Q _ => ∃ (st p : Addr) (h w lo hi : Int) (x : V) (t : Th), vs = [.ref p, x] ∧ ScAt st H p h w lo hi ∧ ThAt H x t ∧ ThS t ∧ ∀ H', Same H H' → Q (.bl (planeB h w lo hi t)) H'
def sp_bent : SpD := fun vs H Q _ => ∃ (st La Ca p q : Addr) (t h w lo hi : Int) (g : List (List Int)), vs = [.ref st, .ref p, .ref q] ∧ t ≤ 2 ^ 38 ∧ Drw st La Ca H t ∧ ScAt st H p h w lo hi ∧ PlAt H q g ∧ PlIn g h w lo hi ∧
  ∀ x th H', ThAt H' x th → ThS th → Drw st La Ca H' (t + 10) → Dr st La H H' → Q x H'
def sp_turned_right : SpD := fun vs H Q _ => ∃ (st p q : Addr) (h w lo hi : Int) (g : List (List Int)), vs = [.ref st, .ref p, .ref q] ∧ ScAt st H p h w lo hi ∧ PlAt H q g ∧ PlIn g h w lo hi ∧ ∀ H', Same H H' → Q (.bl true) H'
def sp_law (K : PySem.W.Frag) : SpD := fun vs H Q _ => ∃ (a : Addr) (zs : List Int), vs = [.ref a] ∧ SqL K H a (zs.map V.int) ∧ zs.length ≤ 1000 ∧ Tabs (TT K) H ∧ ∀ H', Q (.bl true) H'
abbrev S__law_begun (K : PySem.W.Frag) : SpG := spBegun K
abbrev S__law_draw (_ : PySem.W.Frag) : SpG := spDraw
abbrev S__law_pick (_ : PySem.W.Frag) : SpG := spPick
abbrev S__law_caught (K : PySem.W.Frag) : SpG := spCaught K
abbrev S__law_is_whole (_ : PySem.W.Frag) : SpG := sh sp_is_number [0]
abbrev S__law_scope (_ : PySem.W.Frag) : SpG := sh sp_scope [0]
abbrev S__law_within (_ : PySem.W.Frag) : SpG := sh sp_within [0, 1]
abbrev S__law_grain (_ : PySem.W.Frag) : SpG := sh sp_grain [0, 1]
abbrev S__law_pane (_ : PySem.W.Frag) : SpG := sh sp_pane [0, 1]
abbrev S__law_due (K : PySem.W.Frag) : SpG := sh (sp_due K) [0]
abbrev S__law_is_pane (_ : PySem.W.Frag) : SpG := sh sp_is_pane [0, 1]
abbrev S__law_bent (_ : PySem.W.Frag) : SpG := sh sp_bent [0, 1, 2]
abbrev S__law_turned_right (_ : PySem.W.Frag) : SpG := sh sp_turned_right [0, 1, 2]
abbrev S_Shape___init___k1_high_low_width_height (K : PySem.W.Frag) : SpG := sh (sp_shape_init K) [0, 4, 3, 2, 1]
abbrev S_Shape_k0_high_low_width_height (K : PySem.W.Frag) : SpG := mkS (He.ga K "Shape") (S_Shape___init___k1_high_low_width_height K)
abbrev S_law (K : PySem.W.Frag) : SpG := sh (sp_law K) [0]
-- READING is_number
abbrev fl_is_number (K : PySem.W.Frag) : List FnE := []
abbrev gm_is_number (K : PySem.W.Frag) (cells : List (Str × Addr)) (acts : Acts) (T : List (Addr × Str)) (pt : Option Addr) : Gam := gam (mdOf K) ["thing"] (fl_is_number K) (act_is_number acts) ("is_number" ++ ".<locals>." : Str) cells T pt
theorem eq_is_number (K : PySem.W.Frag) (cells : List (Str × Addr)) (acts : Acts) (T : List (Addr × Str)) (W : WX) : wSL (wS K 40 (gm_is_number K cells acts T none) (defScope st_is_number) W) (defBody st_is_number) = t_is_number K cells acts T none W := by kernel_rfl
-- READING is_between
abbrev fl_is_between (K : PySem.W.Frag) : List FnE := [⟨"is_number", 1, [], 2, S_is_number K, none⟩]
abbrev gm_is_between (K : PySem.W.Frag) (cells : List (Str × Addr)) (acts : Acts) (T : List (Addr × Str)) (pt : Option Addr) : Gam := gam (mdOf K) ["thing", "low", "high"] (fl_is_between K) (act_is_between acts) ("is_between" ++ ".<locals>." : Str) cells T pt
theorem eq_is_between (K : PySem.W.Frag) (cells : List (Str × Addr)) (acts : Acts) (T : List (Addr × Str)) (W : WX) : wSL (wS K 40 (gm_is_between K cells acts T none) (defScope st_is_between) W) (defBody st_is_between) = t_is_between K cells acts T none W := by kernel_rfl
-- READING need_shape
abbrev fl_need_shape (K : PySem.W.Frag) : List FnE := []
abbrev gm_need_shape (K : PySem.W.Frag) (cells : List (Str × Addr)) (acts : Acts) (T : List (Addr × Str)) (pt : Option Addr) : Gam := gam (mdOf K) ["shape"] (fl_need_shape K) (act_need_shape acts) ("need_shape" ++ ".<locals>." : Str) cells T pt
theorem eq_need_shape (K : PySem.W.Frag) (cells : List (Str × Addr)) (acts : Acts) (T : List (Addr × Str)) (W : WX) : wSL (wS K 40 (gm_need_shape K cells acts T none) (defScope st_need_shape) W) (defBody st_need_shape) = t_need_shape K cells acts T none W := by kernel_rfl
-- READING fits_grid
abbrev fl_fits_grid (K : PySem.W.Frag) : List FnE := [⟨"is_number", 1, [], 2, S_is_number K, none⟩]
abbrev gm_fits_grid (K : PySem.W.Frag) (cells : List (Str × Addr)) (acts : Acts) (T : List (Addr × Str)) (pt : Option Addr) : Gam := gam (mdOf K) ["thing", "height", "width", "row", "sample"] (fl_fits_grid K) (act_fits_grid acts) ("fits_grid" ++ ".<locals>." : Str) cells T pt
theorem eq_fits_grid (K : PySem.W.Frag) (cells : List (Str × Addr)) (acts : Acts) (T : List (Addr × Str)) (W : WX) : wSL (wS K 40 (gm_fits_grid K cells acts T none) (defScope st_fits_grid) W) (defBody st_fits_grid) = t_fits_grid K cells acts T none W := by kernel_rfl
-- READING does_suit
abbrev fl_does_suit (K : PySem.W.Frag) : List FnE := [⟨"fits_grid", 3, [], 3, S_fits_grid K, none⟩]
abbrev gm_does_suit (K : PySem.W.Frag) (cells : List (Str × Addr)) (acts : Acts) (T : List (Addr × Str)) (pt : Option Addr) : Gam := gam (mdOf K) ["shape", "thing", "row", "sample"] (fl_does_suit K) (act_does_suit acts) ("does_suit" ++ ".<locals>." : Str) cells T pt
theorem eq_does_suit (K : PySem.W.Frag) (cells : List (Str × Addr)) (acts : Acts) (T : List (Addr × Str)) (W : WX) : wSL (wS K 40 (gm_does_suit K cells acts T none) (defScope st_does_suit) W) (defBody st_does_suit) = t_does_suit K cells acts T none W := by kernel_rfl
-- READING is_plane
abbrev fl_is_plane (K : PySem.W.Frag) : List FnE := [⟨"need_shape", 1, [], 2, S_need_shape K, none⟩, ⟨"does_suit", 2, [], 4, S_does_suit K, none⟩]
abbrev gm_is_plane (K : PySem.W.Frag) (cells : List (Str × Addr)) (acts : Acts) (T : List (Addr × Str)) (pt : Option Addr) : Gam := gam (mdOf K) ["shape", "thing"] (fl_is_plane K) (act_is_plane acts) ("is_plane" ++ ".<locals>." : Str) cells T pt
theorem eq_is_plane (K : PySem.W.Frag) (cells : List (Str × Addr)) (acts : Acts) (T : List (Addr × Str)) (W : WX) : wSL (wS K 40 (gm_is_plane K cells acts T none) (defScope st_is_plane) W) (defBody st_is_plane) = t_is_plane K cells acts T none W := by kernel_rfl
-- READING flat_of
abbrev fl_flat_of (K : PySem.W.Frag) : List FnE := []
abbrev gm_flat_of (K : PySem.W.Frag) (cells : List (Str × Addr)) (acts : Acts) (T : List (Addr × Str)) (pt : Option Addr) : Gam := gam (mdOf K) ["shape", "number"] (fl_flat_of K) (act_flat_of acts) ("flat_of" ++ ".<locals>." : Str) cells T pt
theorem eq_flat_of (K : PySem.W.Frag) (cells : List (Str × Addr)) (acts : Acts) (T : List (Addr × Str)) (W : WX) : wSL (wS K 40 (gm_flat_of K cells acts T none) (defScope st_flat_of) W) (defBody st_flat_of) = t_flat_of K cells acts T none W := by kernel_rfl
-- READING flat_plane
abbrev fl_flat_plane (K : PySem.W.Frag) : List FnE := [⟨"need_shape", 1, [], 2, S_need_shape K, none⟩, ⟨"is_between", 3, [], 3, S_is_between K, none⟩, ⟨"flat_of", 2, [], 2, S_flat_of K, none⟩]
abbrev gm_flat_plane (K : PySem.W.Frag) (cells : List (Str × Addr)) (acts : Acts) (T : List (Addr × Str)) (pt : Option Addr) : Gam := gam (mdOf K) ["shape", "number"] (fl_flat_plane K) (act_flat_plane acts) ("flat_plane" ++ ".<locals>." : Str) cells T pt
theorem eq_flat_plane (K : PySem.W.Frag) (cells : List (Str × Addr)) (acts : Acts) (T : List (Addr × Str)) (W : WX) : wSL (wS K 40 (gm_flat_plane K cells acts T none) (defScope st_flat_plane) W) (defBody st_flat_plane) = t_flat_plane K cells acts T none W := by kernel_rfl
-- READING is_any_plane
abbrev fl_is_any_plane (K : PySem.W.Frag) : List FnE := [⟨"fits_grid", 3, [], 3, S_fits_grid K, none⟩]
abbrev gm_is_any_plane (K : PySem.W.Frag) (cells : List (Str × Addr)) (acts : Acts) (T : List (Addr × Str)) (pt : Option Addr) : Gam := gam (mdOf K) ["thing", "row", "sample"] (fl_is_any_plane K) (act_is_any_plane acts) ("is_any_plane" ++ ".<locals>." : Str) cells T pt
theorem eq_is_any_plane (K : PySem.W.Frag) (cells : List (Str × Addr)) (acts : Acts) (T : List (Addr × Str)) (W : WX) : wSL (wS K 40 (gm_is_any_plane K cells acts T none) (defScope st_is_any_plane) W) (defBody st_is_any_plane) = t_is_any_plane K cells acts T none W := by kernel_rfl
-- READING turned
abbrev fl_turned (K : PySem.W.Frag) : List FnE := [⟨"is_any_plane", 1, [], 4, S_is_any_plane K, none⟩]
abbrev gm_turned (K : PySem.W.Frag) (cells : List (Str × Addr)) (acts : Acts) (T : List (Addr × Str)) (pt : Option Addr) : Gam := gam (mdOf K) ["plane", "way", "row"] (fl_turned K) (act_turned acts) ("turned" ++ ".<locals>." : Str) cells T pt
theorem eq_turned (K : PySem.W.Frag) (cells : List (Str × Addr)) (acts : Acts) (T : List (Addr × Str)) (W : WX) : wSL (wS K 40 (gm_turned K cells acts T none) (defScope st_turned) W) (defBody st_turned) = t_turned K cells acts T none W := by kernel_rfl
-- READING _law_begun
abbrev fl__law_begun (K : PySem.W.Frag) : List FnE := []
abbrev act__law_begun (acts : Acts) : Acts := fun g tl => false = true ∧ acts g tl
abbrev gm__law_begun (K : PySem.W.Frag) (cells : List (Str × Addr)) (acts : Acts) (T : List (Addr × Str)) (pt : Option Addr) : Gam := gam (mdOf K) ["_law_script", "_law_cells_here", "_law_cell", "_law_large"] (fl__law_begun K) (act__law_begun acts) ("_law_begun" ++ ".<locals>." : Str) cells T pt
def t__law_begun (K : PySem.W.Frag) (cells : List (Str × Addr)) (acts : Acts) (T : List (Addr × Str)) (pt : Option Addr) (W : WX) : TS :=
  (tSeq (tAsg (tLc (iSeq K (tVar 0)) (gName 2) tYes (tCB G.rAbs1 (tCons (tVar 2) tNil)) [2]) (gName 1))
  (tSeq (tAsg (tLc (iSeq K (tVar 1)) (gName 2) (tTest (tOp (G.rCmp K .GtE) (tVar 2) (tOp (G.rBin K .Pow) (tC (.int 10)) (tC (.int 18))))) (tOp (G.rBin K .Sub) (tVar 2) (tOp (G.rBin K .Pow) (tC (.int 10)) (tC (.int 18)))) [2]) (gName 3))
  (tRet (tDisp [((tC (.str "large")), (tVar 3)), ((tC (.str "cells")), (tVar 1)), ((tC (.str "left")), (tC (.int 0))), ((tC (.str "turn")), (tC (.int 0)))]))))
theorem eq__law_begun (K : PySem.W.Frag) (cells : List (Str × Addr)) (acts : Acts) (T : List (Addr × Str)) (W : WX) : wSL (wS K 40 (gm__law_begun K cells acts T none) (defScope st__law_begun) W) (defBody st__law_begun) = t__law_begun K cells acts T none W := by kernel_rfl
-- READING _law_draw
abbrev fl__law_draw (K : PySem.W.Frag) : List FnE := []
abbrev act__law_draw (acts : Acts) : Acts := fun g tl => false = true ∧ acts g tl
abbrev gm__law_draw (K : PySem.W.Frag) (cells : List (Str × Addr)) (acts : Acts) (T : List (Addr × Str)) (pt : Option Addr) : Gam := gam (mdOf K) ["_law_state", "_law_size_here", "_law_found", "_law_turn", "_law_cell", "_law_mixed"] (fl__law_draw K) (act__law_draw acts) ("_law_draw" ++ ".<locals>." : Str) cells T pt
def t__law_draw (K : PySem.W.Frag) (cells : List (Str × Addr)) (acts : Acts) (T : List (Addr × Str)) (pt : Option Addr) (W : WX) : TS :=
  (tSeq (tWhile (tAnd (tTest (tOp (G.rCmp K .Eq) (tOp (G.rSub2 K) (tVar 0) (tC (.str "left"))) (tC (.int 0)))) (tTest (tOp (G.rCmp K .NotEq) (tOp (G.rSub2 K) (tVar 0) (tC (.str "large"))) (tLst tNil))))
  (tAsg (tBM K "list" rPopAt (tOp (G.rSub2 K) (tVar 0) (tC (.str "large"))) (tCons (tC (.int 0)) tNil)) (gSub (tVar 0) (tC (.str "left")) G.rPut)))
  (tSeq (tIfS (tTest (tOp (G.rCmp K .Gt) (tOp (G.rSub2 K) (tVar 0) (tC (.str "left"))) (tC (.int 0))))
  (tSeq (tAsg (tOp (G.rBin K .Mod) (tCB G.rInt1 (tCons (tOp (G.rSub2 K) (tVar 0) (tC (.str "left"))) tNil)) (tVar 1)) (gName 2))
  (tSeq (tAsg (tOp (G.rBin K .FloorDiv) (tOp (G.rSub2 K) (tVar 0) (tC (.str "left"))) (tVar 1)) (gSub (tVar 0) (tC (.str "left")) G.rPut))
  (tRet (tVar 2))))
  tNext)
  (tSeq (tAsg (tOp (G.rBin K .Add) (tOp (G.rSub2 K) (tVar 0) (tC (.str "turn"))) (tC (.int 1))) (gName 3))
  (tSeq (tAsg (tVar 3) (gSub (tVar 0) (tC (.str "turn")) G.rPut))
  (tSeq (tAsg (tIf (tTest (tOp (G.rCmp K .NotEq) (tOp (G.rSub2 K) (tVar 0) (tC (.str "cells"))) (tLst tNil))) (tOp (G.rSub2 K) (tOp (G.rSub2 K) (tVar 0) (tC (.str "cells"))) (tOp (G.rBin K .Mod) (tCB G.rInt1 (tCons (tVar 3) tNil)) (tCB (G.rLen K) (tCons (tOp (G.rSub2 K) (tVar 0) (tC (.str "cells"))) tNil)))) (tC (.int 0))) (gName 4))
  (tSeq (tAsg (tOp (G.rBin K .Mod) (tCB G.rInt1 (tCons (tOp (G.rBin K .Pow) (tOp (G.rBin K .Add) (tOp (G.rBin K .Add) (tOp (G.rBin K .Mod) (tCB G.rInt1 (tCons (tVar 4) tNil)) (tC (.int 2147483563))) (tOp (G.rBin K .Mult) (tC (.int 40692)) (tVar 3))) (tC (.int 24681))) (tC (.int 3))) tNil)) (tC (.int 2147483629))) (gName 5))
  (tRet (tOp (G.rBin K .Mod) (tCB G.rInt1 (tCons (tOp (G.rBin K .FloorDiv) (tOp (G.rBin K .Mod) (tCB G.rInt1 (tCons (tOp (G.rBin K .Pow) (tOp (G.rBin K .Add) (tVar 5) (tOp (G.rBin K .Mult) (tC (.int 104917)) (tVar 3))) (tC (.int 5))) tNil)) (tC (.int 2147483579))) (tC (.int 29))) tNil)) (tVar 1)))))))))
theorem eq__law_draw (K : PySem.W.Frag) (cells : List (Str × Addr)) (acts : Acts) (T : List (Addr × Str)) (W : WX) : wSL (wS K 40 (gm__law_draw K cells acts T none) (defScope st__law_draw) W) (defBody st__law_draw) = t__law_draw K cells acts T none W := by kernel_rfl
-- READING _law_pick
abbrev fl__law_pick (K : PySem.W.Frag) : List FnE := [⟨"_law_draw", 2, [], 2, S__law_draw K, none⟩]
abbrev act__law_pick (acts : Acts) : Acts := fun g tl => false = true ∧ acts g tl
abbrev gm__law_pick (K : PySem.W.Frag) (cells : List (Str × Addr)) (acts : Acts) (T : List (Addr × Str)) (pt : Option Addr) : Gam := gam (mdOf K) ["_law_state", "_law_several"] (fl__law_pick K) (act__law_pick acts) ("_law_pick" ++ ".<locals>." : Str) cells T pt
def t__law_pick (K : PySem.W.Frag) (cells : List (Str × Addr)) (acts : Acts) (T : List (Addr × Str)) (pt : Option Addr) (W : WX) : TS :=
  (tRet (tOp (G.rSub2 K) (tVar 1) (tFn (S__law_draw K) (fun _ _ => act__law_pick acts) W (tCons (tVar 0) (tCons (tCB (G.rLen K) (tCons (tVar 1) tNil)) tNil)) tNil 2 0)))
theorem eq__law_pick (K : PySem.W.Frag) (cells : List (Str × Addr)) (acts : Acts) (T : List (Addr × Str)) (W : WX) : wSL (wS K 40 (gm__law_pick K cells acts T none) (defScope st__law_pick) W) (defBody st__law_pick) = t__law_pick K cells acts T none W := by kernel_rfl
-- READING _law_caught
abbrev fl__law_caught (K : PySem.W.Frag) : List FnE := []
abbrev act__law_caught (acts : Acts) : Acts := fun g tl => true = true ∧ acts g tl
abbrev gm__law_caught (K : PySem.W.Frag) (cells : List (Str × Addr)) (acts : Acts) (T : List (Addr × Str)) (pt : Option Addr) : Gam := gam (mdOf K) ["_law_work", "_law_caught_here", "error"] (fl__law_caught K) (act__law_caught acts) ("_law_caught" ++ ".<locals>." : Str) cells T pt
def t__law_caught (K : PySem.W.Frag) (cells : List (Str × Addr)) (acts : Acts) (T : List (Addr × Str)) (pt : Option Addr) (W : WX) : TS :=
  (tSeq (tAsg (tC .non) (gName 1))
  (tSeq (fun D σ H => (tDrop (tThunk 0 (act__law_caught acts) (wKeep K (.ref (He.ga K "ReelError")) 2 (tAsg (tVar 2) (gName 1)) W D))) D σ H)
  (tRet (tVar 1))))
theorem eq__law_caught (K : PySem.W.Frag) (cells : List (Str × Addr)) (acts : Acts) (T : List (Addr × Str)) (W : WX) : wSL (wS K 40 (gm__law_caught K cells acts T none) (defScope st__law_caught) W) (defBody st__law_caught) = t__law_caught K cells acts T none W := by kernel_rfl
-- READING _law_is_whole
abbrev fl__law_is_whole (K : PySem.W.Frag) : List FnE := []
abbrev act__law_is_whole (acts : Acts) : Acts := fun g tl => false = true ∧ acts g tl
abbrev gm__law_is_whole (K : PySem.W.Frag) (cells : List (Str × Addr)) (acts : Acts) (T : List (Addr × Str)) (pt : Option Addr) : Gam := gam (mdOf K) ["_law_item"] (fl__law_is_whole K) (act__law_is_whole acts) ("_law_is_whole" ++ ".<locals>." : Str) cells T pt
def t__law_is_whole (K : PySem.W.Frag) (cells : List (Str × Addr)) (acts : Acts) (T : List (Addr × Str)) (pt : Option Addr) (W : WX) : TS :=
  (tRet (tAndT K (tCB (G.rIsX K) (tCons (tVar 0) (tCons (tC (.ty "int")) tNil))) (tNotT K (tCB (G.rIsX K) (tCons (tVar 0) (tCons (tC (.ty "bool")) tNil))))))
theorem eq__law_is_whole (K : PySem.W.Frag) (cells : List (Str × Addr)) (acts : Acts) (T : List (Addr × Str)) (W : WX) : wSL (wS K 40 (gm__law_is_whole K cells acts T none) (defScope st__law_is_whole) W) (defBody st__law_is_whole) = t__law_is_whole K cells acts T none W := by kernel_rfl
-- READING _law_scope
abbrev fl__law_scope (K : PySem.W.Frag) : List FnE := [⟨"_law_draw", 2, [], 2, S__law_draw K, none⟩, ⟨"_law_pick", 2, [], 3, S__law_pick K, none⟩]
abbrev act__law_scope (acts : Acts) : Acts := fun g tl => false = true ∧ acts g tl
abbrev gm__law_scope (K : PySem.W.Frag) (cells : List (Str × Addr)) (acts : Acts) (T : List (Addr × Str)) (pt : Option Addr) : Gam := gam (mdOf K) ["_law_state", "_law_some", "_law_tall", "_law_wide", "_law_least", "_law_most"] (fl__law_scope K) (act__law_scope acts) ("_law_scope" ++ ".<locals>." : Str) cells T pt
def t__law_scope (K : PySem.W.Frag) (cells : List (Str × Addr)) (acts : Acts) (T : List (Addr × Str)) (pt : Option Addr) (W : WX) : TS :=
  (tSeq (tAsg (tLst (tCons (tTup (tCons (tC (.int 1)) (tCons (tC (.int 1)) tNil))) (tCons (tTup (tCons (tC (.int 2)) (tCons (tC (.int 2)) tNil))) (tCons (tTup (tCons (tC (.int 2)) (tCons (tC (.int 3)) tNil))) (tCons (tTup (tCons (tC (.int 3)) (tCons (tC (.int 2)) tNil))) (tCons (tTup (tCons (tC (.int 4)) (tCons (tC (.int 4)) tNil))) (tCons (tTup (tCons (tC (.int 1)) (tCons (tC (.int 5)) tNil))) (tCons (tTup (tCons (tC (.int 5)) (tCons (tC (.int 1)) tNil))) (tCons (tTup (tCons (tC (.int 3)) (tCons (tC (.int 4)) tNil))) (tCons (tTup (tCons (tC (.int 2)) (tCons (tC (.int 6)) tNil))) (tCons (tTup (tCons (tC (.int 5)) (tCons (tC (.int 6)) tNil))) (tCons (tTup (tCons (tC (.int 9)) (tCons (tC (.int 2)) tNil))) tNil)))))))))))) (gName 1))
  (tSeq (tAsg (tIf (tTest (tOp (G.rCmp K .Gt) (tFn (S__law_draw K) (fun _ _ => act__law_scope acts) W (tCons (tVar 0) (tCons (tC (.int 6)) tNil)) tNil 2 0) (tC (.int 0)))) (tVar 1) (tLst (tCons (tTup (tCons (tC (.int 2)) (tCons (tC (.int 10)) tNil))) (tCons (tTup (tCons (tC (.int 3)) (tCons (tC (.int 16)) tNil))) (tCons (tTup (tCons (tC (.int 8)) (tCons (tC (.int 8)) tNil))) (tCons (tTup (tCons (tC (.int 10)) (tCons (tC (.int 9)) tNil))) tNil)))))) (gName 1))
  (tSeq (tAsg (tFn (S__law_pick K) (fun _ _ => act__law_scope acts) W (tCons (tVar 0) (tCons (tVar 1) tNil)) tNil 2 0) (gSeq K 2 (gCons (gName 2) (gCons (gName 3) gNil))))
  (tSeq (tAsg (tFn (S__law_pick K) (fun _ _ => act__law_scope acts) W (tCons (tVar 0) (tCons (tLst (tCons (tC (.int 0)) (tCons (tC (.int 0)) (tCons (tC (.int 0)) (tCons (tUn (rU fun i => .int (-i)) (tC (.int 4))) (tCons (tUn (rU fun i => .int (-i)) (tC (.int 512))) (tCons (tC (.int 3)) tNil))))))) tNil)) tNil 2 0) (gName 4))
  (tSeq (tAsg (tCB (G.rMin2 K) (tCons (tC (.int 511)) (tCons (tOp (G.rBin K .Add) (tVar 4) (tFn (S__law_pick K) (fun _ _ => act__law_scope acts) W (tCons (tVar 0) (tCons (tLst (tCons (tC (.int 0)) (tCons (tC (.int 1)) (tCons (tC (.int 3)) (tCons (tC (.int 9)) (tCons (tC (.int 15)) (tCons (tC (.int 255)) (tCons (tC (.int 1023)) tNil)))))))) tNil)) tNil 2 0)) tNil))) (gName 5))
  (tRet (tDisp [((tC (.str "tall")), (tVar 2)), ((tC (.str "wide")), (tVar 3)), ((tC (.str "least")), (tVar 4)), ((tC (.str "most")), (tVar 5))])))))))
theorem eq__law_scope (K : PySem.W.Frag) (cells : List (Str × Addr)) (acts : Acts) (T : List (Addr × Str)) (W : WX) : wSL (wS K 40 (gm__law_scope K cells acts T none) (defScope st__law_scope) W) (defBody st__law_scope) = t__law_scope K cells acts T none W := by kernel_rfl
-- READING _law_within
abbrev fl__law_within (K : PySem.W.Frag) : List FnE := []
abbrev act__law_within (acts : Acts) : Acts := fun g tl => false = true ∧ acts g tl
abbrev gm__law_within (K : PySem.W.Frag) (cells : List (Str × Addr)) (acts : Acts) (T : List (Addr × Str)) (pt : Option Addr) : Gam := gam (mdOf K) ["_law_scope_here", "_law_item"] (fl__law_within K) (act__law_within acts) ("_law_within" ++ ".<locals>." : Str) cells T pt
def t__law_within (K : PySem.W.Frag) (cells : List (Str × Addr)) (acts : Acts) (T : List (Addr × Str)) (pt : Option Addr) (W : WX) : TS :=
  (tRet (tCB (G.rMin2 K) (tCons (tCB (G.rMax2 K) (tCons (tVar 1) (tCons (tOp (G.rSub2 K) (tVar 0) (tC (.str "least"))) tNil))) (tCons (tOp (G.rSub2 K) (tVar 0) (tC (.str "most"))) tNil))))
theorem eq__law_within (K : PySem.W.Frag) (cells : List (Str × Addr)) (acts : Acts) (T : List (Addr × Str)) (W : WX) : wSL (wS K 40 (gm__law_within K cells acts T none) (defScope st__law_within) W) (defBody st__law_within) = t__law_within K cells acts T none W := by kernel_rfl
-- READING _law_grain
abbrev fl__law_grain (K : PySem.W.Frag) : List FnE := [⟨"_law_draw", 2, [], 2, S__law_draw K, none⟩]
abbrev act__law_grain (acts : Acts) : Acts := fun g tl => false = true ∧ acts g tl
abbrev gm__law_grain (K : PySem.W.Frag) (cells : List (Str × Addr)) (acts : Acts) (T : List (Addr × Str)) (pt : Option Addr) : Gam := gam (mdOf K) ["_law_state", "_law_scope_here"] (fl__law_grain K) (act__law_grain acts) ("_law_grain" ++ ".<locals>." : Str) cells T pt
def t__law_grain (K : PySem.W.Frag) (cells : List (Str × Addr)) (acts : Acts) (T : List (Addr × Str)) (pt : Option Addr) (W : WX) : TS :=
  (tRet (tOp (G.rBin K .Add) (tOp (G.rSub2 K) (tVar 1) (tC (.str "least"))) (tFn (S__law_draw K) (fun _ _ => act__law_grain acts) W (tCons (tVar 0) (tCons (tOp (G.rBin K .Add) (tOp (G.rBin K .Sub) (tOp (G.rSub2 K) (tVar 1) (tC (.str "most"))) (tOp (G.rSub2 K) (tVar 1) (tC (.str "least")))) (tC (.int 1))) tNil)) tNil 2 0)))
theorem eq__law_grain (K : PySem.W.Frag) (cells : List (Str × Addr)) (acts : Acts) (T : List (Addr × Str)) (W : WX) : wSL (wS K 40 (gm__law_grain K cells acts T none) (defScope st__law_grain) W) (defBody st__law_grain) = t__law_grain K cells acts T none W := by kernel_rfl
-- READING _law_pane
abbrev fl__law_pane (K : PySem.W.Frag) : List FnE := [⟨"_law_draw", 2, [], 2, S__law_draw K, none⟩, ⟨"_law_grain", 2, [], 3, S__law_grain K, none⟩, ⟨"_law_pick", 2, [], 3, S__law_pick K, none⟩, ⟨"_law_within", 2, [], 2, S__law_within K, none⟩]
abbrev act__law_pane (acts : Acts) : Acts := fun g tl => false = true ∧ acts g tl
abbrev gm__law_pane (K : PySem.W.Frag) (cells : List (Str × Addr)) (acts : Acts) (T : List (Addr × Str)) (pt : Option Addr) : Gam := gam (mdOf K) ["_law_state", "_law_scope_here", "_law_fashion", "_law_base", "_law_pair", "_law_slope", "_law_found", "_law_y", "_law_line", "_law_x"] (fl__law_pane K) (act__law_pane acts) ("_law_pane" ++ ".<locals>." : Str) cells T pt
def t__law_pane (K : PySem.W.Frag) (cells : List (Str × Addr)) (acts : Acts) (T : List (Addr × Str)) (pt : Option Addr) (W : WX) : TS :=
  (tSeq (tPar 2 3 (tCons (tFn (S__law_draw K) (fun _ _ => act__law_pane acts) W (tCons (tVar 0) (tCons (tC (.int 4)) tNil)) tNil 2 0) (tCons (tFn (S__law_grain K) (fun _ _ => act__law_pane acts) W (tCons (tVar 0) (tCons (tVar 1) tNil)) tNil 2 0) tNil)))
  (tSeq (tPar 4 5 (tCons (tLst (tCons (tVar 3) (tCons (tFn (S__law_grain K) (fun _ _ => act__law_pane acts) W (tCons (tVar 0) (tCons (tVar 1) tNil)) tNil 2 0) tNil))) (tCons (tLst (tCons (tOp (G.rBin K .Sub) (tFn (S__law_draw K) (fun _ _ => act__law_pane acts) W (tCons (tVar 0) (tCons (tC (.int 5)) tNil)) tNil 2 0) (tC (.int 2))) (tCons (tOp (G.rBin K .Sub) (tFn (S__law_draw K) (fun _ _ => act__law_pane acts) W (tCons (tVar 0) (tCons (tC (.int 5)) tNil)) tNil 2 0) (tC (.int 2))) tNil))) tNil)))
  (tSeq (tAsg (tLst tNil) (gName 6))
  (tSeq (tFor (iRng1 (tCons (tOp (G.rSub2 K) (tVar 1) (tC (.str "tall"))) tNil)) (gName 7)
  (tSeq (tAsg (tLst tNil) (gName 8))
  (tSeq (tFor (iRng1 (tCons (tOp (G.rSub2 K) (tVar 1) (tC (.str "wide"))) tNil)) (gName 9)
  (tIfS (tTest (tOp (G.rCmp K .Eq) (tVar 2) (tC (.int 0))))
  (tDrop (tBM K "list" rAppend (tVar 8) (tCons (tFn (S__law_grain K) (fun _ _ => act__law_pane acts) W (tCons (tVar 0) (tCons (tVar 1) tNil)) tNil 2 0) tNil)))
  (tIfS (tTest (tOp (G.rCmp K .Eq) (tVar 2) (tC (.int 1))))
  (tDrop (tBM K "list" rAppend (tVar 8) (tCons (tFn (S__law_pick K) (fun _ _ => act__law_pane acts) W (tCons (tVar 0) (tCons (tVar 4) tNil)) tNil 2 0) tNil)))
  (tIfS (tTest (tOp (G.rCmp K .Eq) (tVar 2) (tC (.int 2))))
  (tDrop (tBM K "list" rAppend (tVar 8) (tCons (tFn (S__law_within K) (fun _ _ => act__law_pane acts) W (tCons (tVar 1) (tCons (tOp (G.rBin K .Add) (tOp (G.rBin K .Add) (tVar 3) (tOp (G.rBin K .Mult) (tOp (G.rSub2 K) (tVar 5) (tC (.int 0))) (tVar 7))) (tOp (G.rBin K .Mult) (tOp (G.rSub2 K) (tVar 5) (tC (.int 1))) (tVar 9))) tNil)) tNil 2 0) tNil)))
  (tDrop (tBM K "list" rAppend (tVar 8) (tCons (tOp (G.rSub2 K) (tVar 4) (tCB G.rInt1 (tCons (tOp (G.rCmp K .Eq) (tFn (S__law_draw K) (fun _ _ => act__law_pane acts) W (tCons (tVar 0) (tCons (tC (.int 6)) tNil)) tNil 2 0) (tC (.int 0))) tNil))) tNil)))))))
  (tDrop (tBM K "list" rAppend (tVar 6) (tCons (tCB (G.rTupOf K) (tCons (tVar 8) tNil)) tNil))))))
  (tRet (tCB (G.rTupOf K) (tCons (tVar 6) tNil)))))))
theorem eq__law_pane (K : PySem.W.Frag) (cells : List (Str × Addr)) (acts : Acts) (T : List (Addr × Str)) (W : WX) : wSL (wS K 40 (gm__law_pane K cells acts T none) (defScope st__law_pane) W) (defBody st__law_pane) = t__law_pane K cells acts T none W := by kernel_rfl
-- READING _law_due
abbrev fl__law_due (K : PySem.W.Frag) : List FnE := [⟨"_law_is_whole", 1, [], 2, S__law_is_whole K, none⟩]
abbrev act__law_due (acts : Acts) : Acts := fun g tl => false = true ∧ acts g tl
abbrev gm__law_due (K : PySem.W.Frag) (cells : List (Str × Addr)) (acts : Acts) (T : List (Addr × Str)) (pt : Option Addr) : Gam := gam (mdOf K) ["_law_four", "_law_tall", "_law_wide", "_law_least", "_law_most"] (fl__law_due K) (act__law_due acts) ("_law_due" ++ ".<locals>." : Str) cells T pt
def t__law_due (K : PySem.W.Frag) (cells : List (Str × Addr)) (acts : Acts) (T : List (Addr × Str)) (pt : Option Addr) (W : WX) : TS :=
  (tSeq (tAsg (tVar 0) (gSeq K 4 (gCons (gName 1) (gCons (gName 2) (gCons (gName 3) (gCons (gName 4) gNil))))))
  (tSeq (tIfS (tOr (tNot (tTru K (tFn (S__law_is_whole K) (fun _ _ => act__law_due acts) W (tCons (tVar 1) tNil) tNil 1 0))) (tNot (tTest (tChain (G.rCmp K .LtE) (G.rCmp K .LtE) (tC (.int 1)) (tVar 1) (tC (.int 16))))))
  (tRet (tC (.str "height")))
  tNext)
  (tSeq (tIfS (tOr (tNot (tTru K (tFn (S__law_is_whole K) (fun _ _ => act__law_due acts) W (tCons (tVar 2) tNil) tNil 1 0))) (tNot (tTest (tChain (G.rCmp K .LtE) (G.rCmp K .LtE) (tC (.int 1)) (tVar 2) (tC (.int 16))))))
  (tRet (tC (.str "width")))
  tNext)
  (tSeq (tIfS (tOr (tNot (tTru K (tFn (S__law_is_whole K) (fun _ _ => act__law_due acts) W (tCons (tVar 3) tNil) tNil 1 0))) (tNot (tTest (tChain (G.rCmp K .LtE) (G.rCmp K .LtE) (tUn (rU fun i => .int (-i)) (tC (.int 512))) (tVar 3) (tC (.int 511))))))
  (tRet (tC (.str "low")))
  tNext)
  (tRet (tIf (tAnd (tTru K (tFn (S__law_is_whole K) (fun _ _ => act__law_due acts) W (tCons (tVar 4) tNil) tNil 1 0)) (tTest (tChain (G.rCmp K .LtE) (G.rCmp K .LtE) (tVar 3) (tVar 4) (tC (.int 511))))) (tC .non) (tC (.str "high"))))))))
theorem eq__law_due (K : PySem.W.Frag) (cells : List (Str × Addr)) (acts : Acts) (T : List (Addr × Str)) (W : WX) : wSL (wS K 40 (gm__law_due K cells acts T none) (defScope st__law_due) W) (defBody st__law_due) = t__law_due K cells acts T none W := by kernel_rfl
-- READING _law_is_pane
abbrev fl__law_is_pane (K : PySem.W.Frag) : List FnE := [⟨"_law_is_whole", 1, [], 2, S__law_is_whole K, none⟩]
abbrev act__law_is_pane (acts : Acts) : Acts := fun g tl => false = true ∧ acts g tl
abbrev gm__law_is_pane (K : PySem.W.Frag) (cells : List (Str × Addr)) (acts : Acts) (T : List (Addr × Str)) (pt : Option Addr) : Gam := gam (mdOf K) ["_law_scope_here", "_law_item", "_law_line", "_law_grain_here"] (fl__law_is_pane K) (act__law_is_pane acts) ("_law_is_pane" ++ ".<locals>." : Str) cells T pt
def t__law_is_pane (K : PySem.W.Frag) (cells : List (Str × Addr)) (acts : Acts) (T : List (Addr × Str)) (pt : Option Addr) (W : WX) : TS :=
  (tSeq (tIfS (tOr (tNot (tTru K (tCB (G.rIsX K) (tCons (tVar 1) (tCons (tC (.ty "tuple")) tNil))))) (tTest (tOp (G.rCmp K .NotEq) (tCB (G.rLen K) (tCons (tVar 1) tNil)) (tOp (G.rSub2 K) (tVar 0) (tC (.str "tall"))))))
  (tRet (tC (.bl false)))
  tNext)
  (tSeq (tFor (iSeq K (tVar 1)) (gName 2)
  (tSeq (tIfS (tOr (tNot (tTru K (tCB (G.rIsX K) (tCons (tVar 2) (tCons (tC (.ty "tuple")) tNil))))) (tTest (tOp (G.rCmp K .NotEq) (tCB (G.rLen K) (tCons (tVar 2) tNil)) (tOp (G.rSub2 K) (tVar 0) (tC (.str "wide"))))))
  (tRet (tC (.bl false)))
  tNext)
  (tIfS (tTest (tOp (G.rCmp K .NotEq) (tLc (iSeq K (tVar 2)) (gName 3) (tOr (tNot (tTru K (tFn (S__law_is_whole K) noActs noW (tCons (tVar 3) tNil) tNil 1 0))) (tNot (tTest (tChain (G.rCmp K .LtE) (G.rCmp K .LtE) (tOp (G.rSub2 K) (tVar 0) (tC (.str "least"))) (tVar 3) (tOp (G.rSub2 K) (tVar 0) (tC (.str "most"))))))) (tVar 3) [3]) (tLst tNil)))
  (tRet (tC (.bl false)))
  tNext)))
  (tRet (tC (.bl true)))))
theorem eq__law_is_pane (K : PySem.W.Frag) (cells : List (Str × Addr)) (acts : Acts) (T : List (Addr × Str)) (W : WX) : wSL (wS K 40 (gm__law_is_pane K cells acts T none) (defScope st__law_is_pane) W) (defBody st__law_is_pane) = t__law_is_pane K cells acts T none W := by kernel_rfl
-- READING _law_bent
abbrev fl__law_bent (K : PySem.W.Frag) : List FnE := [⟨"_law_draw", 2, [], 2, S__law_draw K, none⟩, ⟨"_law_pick", 2, [], 3, S__law_pick K, none⟩, ⟨"_law_grain", 2, [], 3, S__law_grain K, none⟩]
abbrev act__law_bent (acts : Acts) : Acts := fun g tl => false = true ∧ acts g tl
abbrev gm__law_bent (K : PySem.W.Frag) (cells : List (Str × Addr)) (acts : Acts) (T : List (Addr × Str)) (pt : Option Addr) : Gam := gam (mdOf K) ["_law_state", "_law_scope_here", "_law_pane_here", "_law_lines", "_law_fashion", "_law_line", "_law_spot", "_law_dot"] (fl__law_bent K) (act__law_bent acts) ("_law_bent" ++ ".<locals>." : Str) cells T pt
def t__law_bent (K : PySem.W.Frag) (cells : List (Str × Addr)) (acts : Acts) (T : List (Addr × Str)) (pt : Option Addr) (W : WX) : TS :=
  (tSeq (tPar 3 4 (tCons (tLc (iSeq K (tVar 2)) (gName 5) tYes (tCB (G.rListOf K) (tCons (tVar 5) tNil)) [5]) (tCons (tFn (S__law_draw K) (fun _ _ => act__law_bent acts) W (tCons (tVar 0) (tCons (tC (.int 8)) tNil)) tNil 2 0) tNil)))
  (tSeq (tPar 6 7 (tCons (tFn (S__law_draw K) (fun _ _ => act__law_bent acts) W (tCons (tVar 0) (tCons (tCB (G.rLen K) (tCons (tVar 3) tNil)) tNil)) tNil 2 0) (tCons (tFn (S__law_draw K) (fun _ _ => act__law_bent acts) W (tCons (tVar 0) (tCons (tOp (G.rSub2 K) (tVar 1) (tC (.str "wide"))) tNil)) tNil 2 0) tNil)))
  (tSeq (tIfS (tTest (tOp (G.rCmp K .Eq) (tVar 4) (tC (.int 0))))
  (tAsg (tFn (S__law_pick K) (fun _ _ => act__law_bent acts) W (tCons (tVar 0) (tCons (tLst (tCons (tOp (G.rBin K .Add) (tOp (G.rSub2 K) (tVar 1) (tC (.str "most"))) (tC (.int 1))) (tCons (tOp (G.rBin K .Sub) (tOp (G.rSub2 K) (tVar 1) (tC (.str "least"))) (tC (.int 1))) (tCons (tC .non) (tCons (tC (.str "0")) tNil))))) tNil)) tNil 2 0) (gSub (tOp (G.rSub2 K) (tVar 3) (tVar 6)) (tVar 7) G.rPut))
  (tIfS (tTest (tOp (G.rCmp K .Eq) (tVar 4) (tC (.int 1))))
  (tAsg (tOp (G.rCmp K .Eq) (tOp (G.rSub2 K) (tOp (G.rSub2 K) (tVar 3) (tVar 6)) (tVar 7)) (tC (.int 1))) (gSub (tOp (G.rSub2 K) (tVar 3) (tVar 6)) (tVar 7) G.rPut))
  (tIfS (tTest (tOp (G.rCmp K .Eq) (tVar 4) (tC (.int 2))))
  (tDrop (tBM K "list" rAppend (tVar 3) (tCons (tOp (G.rSub2 K) (tVar 3) (tC (.int 0))) tNil)))
  (tIfS (tTest (tOp (G.rCmp K .Eq) (tVar 4) (tC (.int 3))))
  (tDrop (tBM K "list" rAppend (tOp (G.rSub2 K) (tVar 3) (tVar 6)) (tCons (tOp (G.rSub2 K) (tVar 1) (tC (.str "least"))) tNil)))
  (tIfS (tTest (tOp (G.rCmp K .Eq) (tVar 4) (tC (.int 4))))
  (tRet (tFn (S__law_pick K) (fun _ _ => act__law_bent acts) W (tCons (tVar 0) (tCons (tLst (tCons (tVar 3) (tCons (tCB (G.rTupOf K) (tCons (tVar 3) tNil)) (tCons (tLc (iSeq K (tVar 3)) (gName 5) tYes (tCB (G.rTupOf K) (tCons (tVar 5) tNil)) [5]) (tCons (tC .non) (tCons (tTup tNil) (tCons (tC (.str "plane")) (tCons tDNewK tNil)))))))) tNil)) tNil 2 0))
  (tIfS (tTest (tOp (G.rCmp K .Eq) (tVar 4) (tC (.int 5))))
  (tDrop (tBM0 K "list" rPop (tVar 3)))
  (tAsg (tFn (S__law_grain K) (fun _ _ => act__law_bent acts) W (tCons (tVar 0) (tCons (tVar 1) tNil)) tNil 2 0) (gSub (tOp (G.rSub2 K) (tVar 3) (tVar 6)) (tVar 7) G.rPut))))))))
  (tRet (tCB (G.rTupOf K) (tCons (tLc (iSeq K (tVar 3)) (gName 5) tYes (tCB (G.rTupOf K) (tCons (tVar 5) tNil)) [5]) tNil))))))
theorem eq__law_bent (K : PySem.W.Frag) (cells : List (Str × Addr)) (acts : Acts) (T : List (Addr × Str)) (W : WX) : wSL (wS K 40 (gm__law_bent K cells acts T none) (defScope st__law_bent) W) (defBody st__law_bent) = t__law_bent K cells acts T none W := by kernel_rfl
-- READING _law_turned_right
abbrev fl__law_turned_right (K : PySem.W.Frag) : List FnE := [⟨"turned", 2, [], 5, S_turned K, none⟩, ⟨"turned", 0, ["way", "plane"], 5, S_turned_k0_way_plane K, none⟩]
abbrev act__law_turned_right (acts : Acts) : Acts := fun g tl => false = true ∧ acts g tl
abbrev gm__law_turned_right (K : PySem.W.Frag) (cells : List (Str × Addr)) (acts : Acts) (T : List (Addr × Str)) (pt : Option Addr) : Gam := gam (mdOf K) ["_law_state", "_law_scope_here", "_law_pane_here", "_law_tall", "_law_wide", "_law_ups", "_law_x", "_law_y", "_law_sides", "_law_corners", "_law_told", "_law_fashion"] (fl__law_turned_right K) (act__law_turned_right acts) ("_law_turned_right" ++ ".<locals>." : Str) cells T pt
def t__law_turned_right (K : PySem.W.Frag) (cells : List (Str × Addr)) (acts : Acts) (T : List (Addr × Str)) (pt : Option Addr) (W : WX) : TS :=
  (tSeq (tAsg (tTup (tCons (tOp (G.rSub2 K) (tVar 1) (tC (.str "tall"))) (tCons (tOp (G.rSub2 K) (tVar 1) (tC (.str "wide"))) tNil))) (gSeq K 2 (gCons (gName 3) (gCons (gName 4) gNil))))
  (tSeq (tAsg (tLc (iRng1 (tCons (tVar 3) tNil)) (gName 7) tYes (tCB (G.rTupOf K) (tCons (tLc (iRng1 (tCons (tVar 4) tNil)) (gName 6) tYes (tOp (G.rSub2 K) (tOp (G.rSub2 K) (tVar 2) (tOp (G.rBin K .Sub) (tOp (G.rBin K .Sub) (tVar 3) (tC (.int 1))) (tVar 7))) (tVar 6)) [6]) tNil)) [7]) (gName 5))
  (tSeq (tAsg (tLc (iRng1 (tCons (tVar 3) tNil)) (gName 7) tYes (tCB (G.rTupOf K) (tCons (tLc (iRng1 (tCons (tVar 4) tNil)) (gName 6) tYes (tOp (G.rSub2 K) (tOp (G.rSub2 K) (tVar 2) (tVar 7)) (tOp (G.rBin K .Sub) (tOp (G.rBin K .Sub) (tVar 4) (tC (.int 1))) (tVar 6))) [6]) tNil)) [7]) (gName 8))
  (tSeq (tAsg (tLc (iRng1 (tCons (tVar 4) tNil)) (gName 6) tYes (tCB (G.rTupOf K) (tCons (tLc (iRng1 (tCons (tVar 3) tNil)) (gName 7) tYes (tOp (G.rSub2 K) (tOp (G.rSub2 K) (tVar 2) (tVar 7)) (tVar 6)) [7]) tNil)) [6]) (gName 9))
  (tSeq (tAsg (tLst (tCons (tFn (S_turned K) (fun _ _ => act__law_turned_right acts) W (tCons (tVar 2) (tCons (tC (.str "upside")) tNil)) tNil 2 0) (tCons (tFn (S_turned_k0_way_plane K) (fun _ _ => act__law_turned_right acts) W tNil (tCons (tC (.str "sideways")) (tCons (tVar 2) tNil)) 0 2) (tCons (tFn (S_turned K) (fun _ _ => act__law_turned_right acts) W (tCons (tVar 2) (tCons (tC (.str "corner")) tNil)) tNil 2 0) tNil)))) (gName 10))
  (tSeq (tIfS (tTest (tOp (G.rCmp K .NotEq) (tCB (G.rRepr K) (tCons (tVar 10) tNil)) (tCB (G.rRepr K) (tCons (tLst (tCons (tCB (G.rTupOf K) (tCons (tVar 5) tNil)) (tCons (tCB (G.rTupOf K) (tCons (tVar 8) tNil)) (tCons (tCB (G.rTupOf K) (tCons (tVar 9) tNil)) tNil)))) tNil))))
  (tRet (tC (.bl false)))
  tNext)
  (tSeq (tFor (iSeq K (tLst (tCons (tC (.str "upside")) (tCons (tC (.str "sideways")) (tCons (tC (.str "corner")) tNil))))) (gName 11)
  (tIfS (tTest (tOp (G.rCmp K .NotEq) (tFn (S_turned K) (fun _ _ => act__law_turned_right acts) W (tCons (tFn (S_turned K) (fun _ _ => act__law_turned_right acts) W (tCons (tVar 2) (tCons (tVar 11) tNil)) tNil 2 0) (tCons (tVar 11) tNil)) tNil 2 0) (tVar 2)))
  (tRet (tC (.bl false)))
  tNext))
  (tRet (tOp (G.rCmp K .Eq) (tFn (S_turned K) (fun _ _ => act__law_turned_right acts) W (tCons (tFn (S_turned K) (fun _ _ => act__law_turned_right acts) W (tCons (tFn (S_turned K) (fun _ _ => act__law_turned_right acts) W (tCons (tVar 2) (tCons (tC (.str "corner")) tNil)) tNil 2 0) (tCons (tC (.str "sideways")) tNil)) tNil 2 0) (tCons (tC (.str "corner")) tNil)) tNil 2 0) (tFn (S_turned K) (fun _ _ => act__law_turned_right acts) W (tCons (tVar 2) (tCons (tC (.str "upside")) tNil)) tNil 2 0))))))))))
theorem eq__law_turned_right (K : PySem.W.Frag) (cells : List (Str × Addr)) (acts : Acts) (T : List (Addr × Str)) (W : WX) : wSL (wS K 40 (gm__law_turned_right K cells acts T none) (defScope st__law_turned_right) W) (defBody st__law_turned_right) = t__law_turned_right K cells acts T none W := by kernel_rfl
-- READING Shape___init__
abbrev fl_Shape___init__ (K : PySem.W.Frag) : List FnE := [⟨"is_between", 3, [], 3, S_is_between K, none⟩]
abbrev gm_Shape___init__ (K : PySem.W.Frag) (cells : List (Str × Addr)) (acts : Acts) (T : List (Addr × Str)) (pt : Option Addr) : Gam := gam (mdOf K) ["self", "height", "width", "low", "high"] (fl_Shape___init__ K) (act_Shape___init__ acts) ("Shape.__init__" ++ ".<locals>." : Str) cells T pt
theorem eq_Shape___init__ (K : PySem.W.Frag) (cells : List (Str × Addr)) (acts : Acts) (T : List (Addr × Str)) (W : WX) : wSL (wS K 40 (gm_Shape___init__ K cells acts T none) (defScope st_Shape___init__) W) (defBody st_Shape___init__) = t_Shape___init__ K cells acts T none W := by kernel_rfl
-- READING Shape_own_parts
abbrev fl_Shape_own_parts (K : PySem.W.Frag) : List FnE := []
abbrev gm_Shape_own_parts (K : PySem.W.Frag) (cells : List (Str × Addr)) (acts : Acts) (T : List (Addr × Str)) (pt : Option Addr) : Gam := gam (mdOf K) ["self"] (fl_Shape_own_parts K) (act_Shape_own_parts acts) ("Shape.own_parts" ++ ".<locals>." : Str) cells T pt
theorem eq_Shape_own_parts (K : PySem.W.Frag) (cells : List (Str × Addr)) (acts : Acts) (T : List (Addr × Str)) (W : WX) : wSL (wS K 40 (gm_Shape_own_parts K cells acts T none) (defScope st_Shape_own_parts) W) (defBody st_Shape_own_parts) = t_Shape_own_parts K cells acts T none W := by kernel_rfl
-- READING Shape___eq__
abbrev fl_Shape___eq__ (K : PySem.W.Frag) : List FnE := [⟨"own_parts", 0, [], 2, S_Shape_own_parts K, some (He.ga K "Shape")⟩]
abbrev gm_Shape___eq__ (K : PySem.W.Frag) (cells : List (Str × Addr)) (acts : Acts) (T : List (Addr × Str)) (pt : Option Addr) : Gam := gam (mdOf K) ["self", "other"] (fl_Shape___eq__ K) (act_Shape___eq__ acts) ("Shape.__eq__" ++ ".<locals>." : Str) cells T pt
theorem eq_Shape___eq__ (K : PySem.W.Frag) (cells : List (Str × Addr)) (acts : Acts) (T : List (Addr × Str)) (W : WX) : wSL (wS K 40 (gm_Shape___eq__ K cells acts T none) (defScope st_Shape___eq__) W) (defBody st_Shape___eq__) = t_Shape___eq__ K cells acts T none W := by kernel_rfl
-- READING law
abbrev fl_law (K : PySem.W.Frag) : List FnE := [⟨"_law_begun", 1, [], 2, S__law_begun K, none⟩, ⟨"_law_scope", 1, [], 4, S__law_scope K, none⟩, ⟨"Shape", 4, [], 5, S_Shape K, none⟩, ⟨"Shape", 0, ["high", "low", "width", "height"], 5, S_Shape_k0_high_low_width_height K, none⟩, ⟨"_law_draw", 2, [], 2, S__law_draw K, none⟩, ⟨"_law_pick", 2, [], 3, S__law_pick K, none⟩, ⟨"_law_due", 1, [], 3, S__law_due K, none⟩, ⟨"_law_caught", 1, [], 44, S__law_caught K, none⟩, ⟨"_law_pane", 2, [], 4, S__law_pane K, none⟩, ⟨"_law_bent", 3, [], 4, S__law_bent K, none⟩, ⟨"_law_is_pane", 2, [], 3, S__law_is_pane K, none⟩, ⟨"is_plane", 2, [], 5, S_is_plane K, none⟩, ⟨"is_plane", 0, ["thing", "shape"], 5, S_is_plane_k0_thing_shape K, none⟩, ⟨"_law_grain", 2, [], 3, S__law_grain K, none⟩, ⟨"flat_plane", 2, [], 4, S_flat_plane K, none⟩, ⟨"_law_turned_right", 3, [], 6, S__law_turned_right K, none⟩, ⟨"flat_plane", 0, ["number", "shape"], 4, S_flat_plane_k0_number_shape K, none⟩, ⟨"turned", 2, [], 5, S_turned K, none⟩, ⟨"__eq__", 1, [], 4, S_Shape___eq__ K, some (He.ga K "Shape")⟩]
abbrev act_law (acts : Acts) : Acts := fun g tl => false = true ∧ acts g tl
abbrev gm_law (K : PySem.W.Frag) (cells : List (Str × Addr)) (acts : Acts) (T : List (Addr × Str)) (pt : Option Addr) : Gam := gam (mdOf K) ["_law_script", "_law_state", "_law_turn", "_law_scope_here", "_law_four", "_law_form", "_law_middle_here", "_law_bent_here", "_law_lap", "_law_some", "_law_due_here", "_law_caught_here", "_law_pane_here", "_law_item", "_law_base", "_law_odd", "_law_work", "_law_wrong"] (fl_law K) (act_law acts) ("law" ++ ".<locals>." : Str) cells T pt
abbrev ac_law (K : PySem.W.Frag) (cells : List (Str × Addr)) (acts : Acts) (T : List (Addr × Str)) (pt : Option Addr) (n : Nat) : L2.St → Hp → Acts := actsAt (gm_law K cells acts T pt) (defScope st_law) fun s W b => wE K n (gm_law K cells acts T pt).low s W b
def t_law (K : PySem.W.Frag) (cells : List (Str × Addr)) (acts : Acts) (T : List (Addr × Str)) (pt : Option Addr) (W : WX) : TS :=
  (tSeq (tAsg (tFn (S__law_begun K) (ac_law K cells acts T pt 38) W (tCons (tVar 0) tNil) tNil 1 0) (gName 1))
  (tSeq (tFor (iRng1 (tCons (tOp (G.rBin K .Add) (tC (.int 3)) (tCB (G.rMin2 K) (tCons (tCB (G.rLen K) (tCons (tVar 0) tNil)) (tCons (tC (.int 8)) tNil)))) tNil)) (gName 2)
  (tSeq (tAsg (tFn (S__law_scope K) (ac_law K cells acts T pt 37) W (tCons (tVar 1) tNil) tNil 1 0) (gName 3))
  (tSeq (tAsg (tLst (tCons (tOp (G.rSub2 K) (tVar 3) (tC (.str "tall"))) (tCons (tOp (G.rSub2 K) (tVar 3) (tC (.str "wide"))) (tCons (tOp (G.rSub2 K) (tVar 3) (tC (.str "least"))) (tCons (tOp (G.rSub2 K) (tVar 3) (tC (.str "most"))) tNil))))) (gName 4))
  (tSeq (tAsg (tFn (S_Shape K) (ac_law K cells acts T pt 37) W (tCons (tOp (G.rSub2 K) (tVar 4) (tC (.int 0))) (tCons (tOp (G.rSub2 K) (tVar 4) (tC (.int 1))) (tCons (tOp (G.rSub2 K) (tVar 4) (tC (.int 2))) (tCons (tOp (G.rSub2 K) (tVar 4) (tC (.int 3))) tNil)))) tNil 4 0) (gName 5))
  (tSeq (tAsg (tOp (G.rBin K .FloorDiv) (tOp (G.rBin K .Add) (tOp (G.rSub2 K) (tVar 4) (tC (.int 2))) (tOp (G.rSub2 K) (tVar 4) (tC (.int 3)))) (tC (.int 2))) (gName 6))
  (tSeq (tIfS (tTest (tOp (rCmpM K (mtLook (fl_law K) "__eq__") .NotEq) (tCB (G.rRepr K) (tCons (tLst (tCons (tAttr K "height" (tVar 5)) (tCons (tAttr K "width" (tVar 5)) (tCons (tAttr K "low" (tVar 5)) (tCons (tAttr K "high" (tVar 5)) (tCons (tAttr K "middle" (tVar 5)) tNil)))))) tNil)) (tCB (G.rRepr K) (tCons (tOp (G.rBin K .Add) (tVar 4) (tLst (tCons (tVar 6) tNil))) tNil))))
  (tRet (tC (.bl false)))
  tNext)
  (tSeq (tIfS (tOr (tTest (tOp (rCmpM K (mtLook (fl_law K) "__eq__") .Eq) (tVar 5) (tCB (G.rTupOf K) (tCons (tVar 4) tNil)))) (tTest (tOp (rCmpM K (mtLook (fl_law K) "__eq__") .Eq) (tVar 5) (tC .non))))
  (tRet (tC (.bl false)))
  tNext)
  (tSeq (tIfS (tTest (tOp (rCmpM K (mtLook (fl_law K) "__eq__") .NotEq) (tVar 5) (tFn (S_Shape_k0_high_low_width_height K) (ac_law K cells acts T pt 36) W tNil (tCons (tOp (G.rSub2 K) (tVar 4) (tC (.int 3))) (tCons (tOp (G.rSub2 K) (tVar 4) (tC (.int 2))) (tCons (tOp (G.rSub2 K) (tVar 4) (tC (.int 1))) (tCons (tOp (G.rSub2 K) (tVar 4) (tC (.int 0))) tNil)))) 0 4)))
  (tRet (tC (.bl false)))
  tNext)
  (tSeq (tAsg (tCB (G.rListOf K) (tCons (tVar 4) tNil)) (gName 7))
  (tSeq (tFor (iRng1 (tCons (tOp (G.rBin K .Add) (tC (.int 1)) (tFn (S__law_draw K) (ac_law K cells acts T pt 36) W (tCons (tVar 1) (tCons (tC (.int 2)) tNil)) tNil 2 0)) tNil)) (gName 8)
  (tSeq (tAsg (tLst (tCons (tC (.int 0)) (tCons (tC (.int 17)) (tCons (tUn (rU fun i => .int (-i)) (tC (.int 1))) (tCons (tC (.int 16)) (tCons (tC (.int 1)) (tCons (tC (.bl true)) (tCons (tC .non) (tCons (tC (.str "1")) (tCons (tC (.int 511)) (tCons (tC (.int 512)) (tCons (tUn (rU fun i => .int (-i)) (tC (.int 512))) (tCons (tUn (rU fun i => .int (-i)) (tC (.int 513))) (tCons (tTup (tCons (tC (.int 1)) tNil)) (tCons (tOp (G.rBin K .Sub) (tOp (G.rSub2 K) (tVar 4) (tC (.int 2))) (tC (.int 1))) tNil))))))))))))))) (gName 9))
  (tAsg (tFn (S__law_pick K) (ac_law K cells acts T pt 36) W (tCons (tVar 1) (tCons (tVar 9) tNil)) tNil 2 0) (gSub (tVar 7) (tFn (S__law_draw K) (ac_law K cells acts T pt 36) W (tCons (tVar 1) (tCons (tC (.int 4)) tNil)) tNil 2 0) G.rPut))))
  (tSeq (tPar 10 11 (tCons (tFn (S__law_due K) (ac_law K cells acts T pt 37) W (tCons (tVar 7) tNil) tNil 1 0) (tCons (tCaught K (ac_law K cells acts T pt 37) W (tLamV (("law" ++ ".<locals>." : Str)) cells T (lamB (defBody st_law) 0) (lamC (defBody st_law) 0))) tNil)))
  (tSeq (tIfS (tAnd (tTest (tOp (rCmpM K (mtLook (fl_law K) "__eq__") .Is) (tVar 10) (tC .non))) (tTest (tOp (rCmpM K (mtLook (fl_law K) "__eq__") .IsNot) (tVar 11) (tC .non))))
  (tRet (tC (.bl false)))
  tNext)
  (tSeq (tIfS (tAnd (tTest (tOp (rCmpM K (mtLook (fl_law K) "__eq__") .Is) (tVar 10) (tC .non))) (tTest (tOp (rCmpM K (mtLook (fl_law K) "__eq__") .NotEq) (tOp (rCmpM K (mtLook (fl_law K) "__eq__") .Eq) (tFn (S_Shape K) (ac_law K cells acts T pt 34) W (tCons (tOp (G.rSub2 K) (tVar 7) (tC (.int 0))) (tCons (tOp (G.rSub2 K) (tVar 7) (tC (.int 1))) (tCons (tOp (G.rSub2 K) (tVar 7) (tC (.int 2))) (tCons (tOp (G.rSub2 K) (tVar 7) (tC (.int 3))) tNil)))) tNil 4 0) (tVar 5)) (tOp (rCmpM K (mtLook (fl_law K) "__eq__") .Eq) (tVar 7) (tVar 4)))))
  (tRet (tC (.bl false)))
  tNext)
  (tSeq (tIfS (tAnd (tTest (tOp (rCmpM K (mtLook (fl_law K) "__eq__") .IsNot) (tVar 10) (tC .non))) (tOr (tNot (tTru K (tCB (G.rIsX K) (tCons (tVar 11) (tCons (tC (.ref (He.ga K "BadShape"))) tNil))))) (tTest (tOp (rCmpM K (mtLook (fl_law K) "__eq__") .NotEq) (tAttr K "part" (tVar 11)) (tVar 10)))))
  (tRet (tC (.bl false)))
  tNext)
  (tSeq (tAsg (tFn (S__law_pane K) (ac_law K cells acts T pt 37) W (tCons (tVar 1) (tCons (tVar 3) tNil)) tNil 2 0) (gName 12))
  (tSeq (tFor (iRng1 (tCons (tC (.int 4)) tNil)) (gName 8)
  (tSeq (tAsg (tIf (tTest (tOp (rCmpM K (mtLook (fl_law K) "__eq__") .Eq) (tVar 8) (tC (.int 0)))) (tVar 12) (tFn (S__law_bent K) (ac_law K cells acts T pt 35) W (tCons (tVar 1) (tCons (tVar 3) (tCons (tVar 12) tNil))) tNil 3 0)) (gName 13))
  (tSeq (tAsg (tFn (S__law_is_pane K) (ac_law K cells acts T pt 36) W (tCons (tVar 3) (tCons (tVar 13) tNil)) tNil 2 0) (gName 10))
  (tIfS (tTest (tOp (rCmpM K (mtLook (fl_law K) "__eq__") .NotEq) (tCB (G.rRepr K) (tCons (tLst (tCons (tFn (S_is_plane K) (ac_law K cells acts T pt 33) W (tCons (tVar 5) (tCons (tVar 13) tNil)) tNil 2 0) (tCons (tFn (S_is_plane_k0_thing_shape K) (ac_law K cells acts T pt 33) W tNil (tCons (tVar 13) (tCons (tVar 5) tNil)) 0 2) tNil))) tNil)) (tCB (G.rRepr K) (tCons (tLst (tCons (tVar 10) (tCons (tVar 10) tNil))) tNil))))
  (tRet (tC (.bl false)))
  tNext))))
  (tSeq (tAsg (tFn (S__law_grain K) (ac_law K cells acts T pt 37) W (tCons (tVar 1) (tCons (tVar 3) tNil)) tNil 2 0) (gName 14))
  (tSeq (tIfS (tTest (tOp (rCmpM K (mtLook (fl_law K) "__eq__") .NotEq) (tCB (G.rRepr K) (tCons (tFn (S_flat_plane K) (ac_law K cells acts T pt 35) W (tCons (tVar 5) (tCons (tVar 14) tNil)) tNil 2 0) tNil)) (tCB (G.rRepr K) (tCons (tOp (G.rBin K .Mult) (tTup (tCons (tOp (G.rBin K .Mult) (tTup (tCons (tVar 14) tNil)) (tOp (G.rSub2 K) (tVar 4) (tC (.int 1)))) tNil)) (tOp (G.rSub2 K) (tVar 4) (tC (.int 0)))) tNil))))
  (tRet (tC (.bl false)))
  tNext)
  (tSeq (tIfS (tNot (tTru K (tFn (S__law_turned_right K) (ac_law K cells acts T pt 35) W (tCons (tVar 1) (tCons (tVar 3) (tCons (tVar 12) tNil))) tNil 3 0)))
  (tRet (tC (.bl false)))
  tNext)
  (tSeq (tAsg (tFn (S__law_pick K) (ac_law K cells acts T pt 37) W (tCons (tVar 1) (tCons (tLst (tCons (tOp (G.rBin K .Add) (tOp (G.rSub2 K) (tVar 4) (tC (.int 3))) (tC (.int 1))) (tCons (tOp (G.rBin K .Sub) (tOp (G.rSub2 K) (tVar 4) (tC (.int 2))) (tC (.int 1))) (tCons (tC .non) (tCons (tC (.str "0")) (tCons (tTup (tCons (tVar 14) tNil)) (tCons (tC (.bl true)) (tCons (tC (.bl false)) tNil)))))))) tNil)) tNil 2 0) (gName 15))
  (tSeq (tIfS (tNot (tTru K (tCB (G.rIsX K) (tCons (tCaught K (ac_law K cells acts T pt 34) W (tLamV (("law" ++ ".<locals>." : Str)) cells T (lamB (defBody st_law) 1) (lamC (defBody st_law) 1))) (tCons (tC (.ref (He.ga K "BadNumber"))) tNil)))))
  (tRet (tC (.bl false)))
  tNext)
  (tSeq (tFor (iSeq K (tLst (tCons (tLamV (("law" ++ ".<locals>." : Str)) cells T (lamB (defBody st_law) 2) (lamC (defBody st_law) 2)) (tCons (tLamV (("law" ++ ".<locals>." : Str)) cells T (lamB (defBody st_law) 3) (lamC (defBody st_law) 3)) tNil)))) (gName 16)
  (tSeq (tAsg (tFn (S__law_caught K) (ac_law K cells acts T pt 36) W (tCons (tVar 16) tNil) tNil 1 0) (gName 11))
  (tIfS (tOr (tNot (tTru K (tCB (G.rIsX K) (tCons (tVar 11) (tCons (tC (.ref (He.ga K "BadShape"))) tNil))))) (tTest (tOp (rCmpM K (mtLook (fl_law K) "__eq__") .IsNot) (tAttr K "part" (tVar 11)) (tC .non))))
  (tRet (tC (.bl false)))
  tNext)))
  (tSeq (tAsg (tLst (tCons (tC .non) (tCons (tTup tNil) (tCons (tTup (tCons (tTup tNil) tNil)) (tCons (tLst (tCons (tVar 12) tNil)) (tCons (tTup (tCons (tTup (tCons (tC (.int 512)) tNil)) tNil)) (tCons (tTup (tCons (tTup (tCons (tC (.int 0)) (tCons (tC (.int 1)) tNil))) (tCons (tTup (tCons (tC (.int 0)) tNil)) tNil))) (tCons (tTup (tCons (tTup (tCons (tC (.bl true)) tNil)) tNil)) (tCons (tTup (tCons (tOp (G.rBin K .Mult) (tTup (tCons (tC (.int 0)) tNil)) (tC (.int 17))) tNil)) (tCons (tOp (G.rBin K .Mult) (tTup (tCons (tTup (tCons (tC (.int 0)) tNil)) tNil)) (tC (.int 17))) (tCons (tTup (tCons (tTup (tCons (tUn (rU fun i => .int (-i)) (tC (.int 513))) tNil)) tNil)) tNil))))))))))) (gName 9))
  (tSeq (tAsg (tFn (S__law_pick K) (ac_law K cells acts T pt 37) W (tCons (tVar 1) (tCons (tVar 9) tNil)) tNil 2 0) (gName 17))
  (tSeq (tIfS (tNot (tTru K (tCB (G.rIsX K) (tCons (tCaught K (ac_law K cells acts T pt 34) W (tLamV (("law" ++ ".<locals>." : Str)) cells T (lamB (defBody st_law) 4) (lamC (defBody st_law) 4))) (tCons (tC (.ref (He.ga K "BadPlane"))) tNil)))))
  (tRet (tC (.bl false)))
  tNext)
  (tIfS (tNot (tTru K (tCB (G.rIsX K) (tCons (tCaught K (ac_law K cells acts T pt 34) W (tLamV (("law" ++ ".<locals>." : Str)) cells T (lamB (defBody st_law) 5) (lamC (defBody st_law) 5))) (tCons (tC (.ref (He.ga K "BadWay"))) tNil)))))
  (tRet (tC (.bl false)))
  tNext))))))))))))))))))))))))))
  (tRet (tC (.bl true)))))
theorem eq_law (K : PySem.W.Frag) (cells : List (Str × Addr)) (acts : Acts) (T : List (Addr × Str)) (p : Addr) (W : WX) : wSL (wS K 40 (gm_law K cells acts T (some p)) (defScope st_law) W) (defBody st_law) = t_law K cells acts T (some p) W := by kernel_rfl
def lm_law_0 (K : PySem.W.Frag) (W : WX) : TE := (tFn (S_Shape K) noActs W (tCons (tOp (G.rSub2 K) (tVar 7) (tC (.int 0))) (tCons (tOp (G.rSub2 K) (tVar 7) (tC (.int 1))) (tCons (tOp (G.rSub2 K) (tVar 7) (tC (.int 2))) (tCons (tOp (G.rSub2 K) (tVar 7) (tC (.int 3))) tNil)))) tNil 4 0)
theorem lq_law_0_33 (K : PySem.W.Frag) (cells : List (Str × Addr)) (acts : Acts) (T : List (Addr × Str)) (p : Addr) (W : WX) : wE K 33 (gm_law K cells acts T (some p)).low (lamC (defBody st_law) 0) W (lamB (defBody st_law) 0) = lm_law_0 K W := by kernel_rfl
theorem lq_law_0_34 (K : PySem.W.Frag) (cells : List (Str × Addr)) (acts : Acts) (T : List (Addr × Str)) (p : Addr) (W : WX) : wE K 34 (gm_law K cells acts T (some p)).low (lamC (defBody st_law) 0) W (lamB (defBody st_law) 0) = lm_law_0 K W := by kernel_rfl
theorem lq_law_0_35 (K : PySem.W.Frag) (cells : List (Str × Addr)) (acts : Acts) (T : List (Addr × Str)) (p : Addr) (W : WX) : wE K 35 (gm_law K cells acts T (some p)).low (lamC (defBody st_law) 0) W (lamB (defBody st_law) 0) = lm_law_0 K W := by kernel_rfl
theorem lq_law_0_36 (K : PySem.W.Frag) (cells : List (Str × Addr)) (acts : Acts) (T : List (Addr × Str)) (p : Addr) (W : WX) : wE K 36 (gm_law K cells acts T (some p)).low (lamC (defBody st_law) 0) W (lamB (defBody st_law) 0) = lm_law_0 K W := by kernel_rfl
theorem lq_law_0_37 (K : PySem.W.Frag) (cells : List (Str × Addr)) (acts : Acts) (T : List (Addr × Str)) (p : Addr) (W : WX) : wE K 37 (gm_law K cells acts T (some p)).low (lamC (defBody st_law) 0) W (lamB (defBody st_law) 0) = lm_law_0 K W := by kernel_rfl
theorem lq_law_0_38 (K : PySem.W.Frag) (cells : List (Str × Addr)) (acts : Acts) (T : List (Addr × Str)) (p : Addr) (W : WX) : wE K 38 (gm_law K cells acts T (some p)).low (lamC (defBody st_law) 0) W (lamB (defBody st_law) 0) = lm_law_0 K W := by kernel_rfl
def lm_law_1 (K : PySem.W.Frag) (W : WX) : TE := (tFn (S_flat_plane_k0_number_shape K) noActs W tNil (tCons (tVar 15) (tCons (tVar 5) tNil)) 0 2)
theorem lq_law_1_33 (K : PySem.W.Frag) (cells : List (Str × Addr)) (acts : Acts) (T : List (Addr × Str)) (p : Addr) (W : WX) : wE K 33 (gm_law K cells acts T (some p)).low (lamC (defBody st_law) 1) W (lamB (defBody st_law) 1) = lm_law_1 K W := by kernel_rfl
theorem lq_law_1_34 (K : PySem.W.Frag) (cells : List (Str × Addr)) (acts : Acts) (T : List (Addr × Str)) (p : Addr) (W : WX) : wE K 34 (gm_law K cells acts T (some p)).low (lamC (defBody st_law) 1) W (lamB (defBody st_law) 1) = lm_law_1 K W := by kernel_rfl
theorem lq_law_1_35 (K : PySem.W.Frag) (cells : List (Str × Addr)) (acts : Acts) (T : List (Addr × Str)) (p : Addr) (W : WX) : wE K 35 (gm_law K cells acts T (some p)).low (lamC (defBody st_law) 1) W (lamB (defBody st_law) 1) = lm_law_1 K W := by kernel_rfl
theorem lq_law_1_36 (K : PySem.W.Frag) (cells : List (Str × Addr)) (acts : Acts) (T : List (Addr × Str)) (p : Addr) (W : WX) : wE K 36 (gm_law K cells acts T (some p)).low (lamC (defBody st_law) 1) W (lamB (defBody st_law) 1) = lm_law_1 K W := by kernel_rfl
theorem lq_law_1_37 (K : PySem.W.Frag) (cells : List (Str × Addr)) (acts : Acts) (T : List (Addr × Str)) (p : Addr) (W : WX) : wE K 37 (gm_law K cells acts T (some p)).low (lamC (defBody st_law) 1) W (lamB (defBody st_law) 1) = lm_law_1 K W := by kernel_rfl
theorem lq_law_1_38 (K : PySem.W.Frag) (cells : List (Str × Addr)) (acts : Acts) (T : List (Addr × Str)) (p : Addr) (W : WX) : wE K 38 (gm_law K cells acts T (some p)).low (lamC (defBody st_law) 1) W (lamB (defBody st_law) 1) = lm_law_1 K W := by kernel_rfl
def lm_law_2 (K : PySem.W.Frag) (W : WX) : TE := (tFn (S_is_plane K) noActs W (tCons (tVar 15) (tCons (tVar 12) tNil)) tNil 2 0)
theorem lq_law_2_33 (K : PySem.W.Frag) (cells : List (Str × Addr)) (acts : Acts) (T : List (Addr × Str)) (p : Addr) (W : WX) : wE K 33 (gm_law K cells acts T (some p)).low (lamC (defBody st_law) 2) W (lamB (defBody st_law) 2) = lm_law_2 K W := by kernel_rfl
theorem lq_law_2_34 (K : PySem.W.Frag) (cells : List (Str × Addr)) (acts : Acts) (T : List (Addr × Str)) (p : Addr) (W : WX) : wE K 34 (gm_law K cells acts T (some p)).low (lamC (defBody st_law) 2) W (lamB (defBody st_law) 2) = lm_law_2 K W := by kernel_rfl
theorem lq_law_2_35 (K : PySem.W.Frag) (cells : List (Str × Addr)) (acts : Acts) (T : List (Addr × Str)) (p : Addr) (W : WX) : wE K 35 (gm_law K cells acts T (some p)).low (lamC (defBody st_law) 2) W (lamB (defBody st_law) 2) = lm_law_2 K W := by kernel_rfl
theorem lq_law_2_36 (K : PySem.W.Frag) (cells : List (Str × Addr)) (acts : Acts) (T : List (Addr × Str)) (p : Addr) (W : WX) : wE K 36 (gm_law K cells acts T (some p)).low (lamC (defBody st_law) 2) W (lamB (defBody st_law) 2) = lm_law_2 K W := by kernel_rfl
theorem lq_law_2_37 (K : PySem.W.Frag) (cells : List (Str × Addr)) (acts : Acts) (T : List (Addr × Str)) (p : Addr) (W : WX) : wE K 37 (gm_law K cells acts T (some p)).low (lamC (defBody st_law) 2) W (lamB (defBody st_law) 2) = lm_law_2 K W := by kernel_rfl
theorem lq_law_2_38 (K : PySem.W.Frag) (cells : List (Str × Addr)) (acts : Acts) (T : List (Addr × Str)) (p : Addr) (W : WX) : wE K 38 (gm_law K cells acts T (some p)).low (lamC (defBody st_law) 2) W (lamB (defBody st_law) 2) = lm_law_2 K W := by kernel_rfl
def lm_law_3 (K : PySem.W.Frag) (W : WX) : TE := (tFn (S_flat_plane K) noActs W (tCons (tC .non) (tCons (tVar 15) tNil)) tNil 2 0)
theorem lq_law_3_33 (K : PySem.W.Frag) (cells : List (Str × Addr)) (acts : Acts) (T : List (Addr × Str)) (p : Addr) (W : WX) : wE K 33 (gm_law K cells acts T (some p)).low (lamC (defBody st_law) 3) W (lamB (defBody st_law) 3) = lm_law_3 K W := by kernel_rfl
theorem lq_law_3_34 (K : PySem.W.Frag) (cells : List (Str × Addr)) (acts : Acts) (T : List (Addr × Str)) (p : Addr) (W : WX) : wE K 34 (gm_law K cells acts T (some p)).low (lamC (defBody st_law) 3) W (lamB (defBody st_law) 3) = lm_law_3 K W := by kernel_rfl
theorem lq_law_3_35 (K : PySem.W.Frag) (cells : List (Str × Addr)) (acts : Acts) (T : List (Addr × Str)) (p : Addr) (W : WX) : wE K 35 (gm_law K cells acts T (some p)).low (lamC (defBody st_law) 3) W (lamB (defBody st_law) 3) = lm_law_3 K W := by kernel_rfl
theorem lq_law_3_36 (K : PySem.W.Frag) (cells : List (Str × Addr)) (acts : Acts) (T : List (Addr × Str)) (p : Addr) (W : WX) : wE K 36 (gm_law K cells acts T (some p)).low (lamC (defBody st_law) 3) W (lamB (defBody st_law) 3) = lm_law_3 K W := by kernel_rfl
theorem lq_law_3_37 (K : PySem.W.Frag) (cells : List (Str × Addr)) (acts : Acts) (T : List (Addr × Str)) (p : Addr) (W : WX) : wE K 37 (gm_law K cells acts T (some p)).low (lamC (defBody st_law) 3) W (lamB (defBody st_law) 3) = lm_law_3 K W := by kernel_rfl
theorem lq_law_3_38 (K : PySem.W.Frag) (cells : List (Str × Addr)) (acts : Acts) (T : List (Addr × Str)) (p : Addr) (W : WX) : wE K 38 (gm_law K cells acts T (some p)).low (lamC (defBody st_law) 3) W (lamB (defBody st_law) 3) = lm_law_3 K W := by kernel_rfl
def lm_law_4 (K : PySem.W.Frag) (W : WX) : TE := (tFn (S_turned K) noActs W (tCons (tVar 17) (tCons (tC (.str "up")) tNil)) tNil 2 0)
theorem lq_law_4_33 (K : PySem.W.Frag) (cells : List (Str × Addr)) (acts : Acts) (T : List (Addr × Str)) (p : Addr) (W : WX) : wE K 33 (gm_law K cells acts T (some p)).low (lamC (defBody st_law) 4) W (lamB (defBody st_law) 4) = lm_law_4 K W := by kernel_rfl
theorem lq_law_4_34 (K : PySem.W.Frag) (cells : List (Str × Addr)) (acts : Acts) (T : List (Addr × Str)) (p : Addr) (W : WX) : wE K 34 (gm_law K cells acts T (some p)).low (lamC (defBody st_law) 4) W (lamB (defBody st_law) 4) = lm_law_4 K W := by kernel_rfl
theorem lq_law_4_35 (K : PySem.W.Frag) (cells : List (Str × Addr)) (acts : Acts) (T : List (Addr × Str)) (p : Addr) (W : WX) : wE K 35 (gm_law K cells acts T (some p)).low (lamC (defBody st_law) 4) W (lamB (defBody st_law) 4) = lm_law_4 K W := by kernel_rfl
theorem lq_law_4_36 (K : PySem.W.Frag) (cells : List (Str × Addr)) (acts : Acts) (T : List (Addr × Str)) (p : Addr) (W : WX) : wE K 36 (gm_law K cells acts T (some p)).low (lamC (defBody st_law) 4) W (lamB (defBody st_law) 4) = lm_law_4 K W := by kernel_rfl
theorem lq_law_4_37 (K : PySem.W.Frag) (cells : List (Str × Addr)) (acts : Acts) (T : List (Addr × Str)) (p : Addr) (W : WX) : wE K 37 (gm_law K cells acts T (some p)).low (lamC (defBody st_law) 4) W (lamB (defBody st_law) 4) = lm_law_4 K W := by kernel_rfl
theorem lq_law_4_38 (K : PySem.W.Frag) (cells : List (Str × Addr)) (acts : Acts) (T : List (Addr × Str)) (p : Addr) (W : WX) : wE K 38 (gm_law K cells acts T (some p)).low (lamC (defBody st_law) 4) W (lamB (defBody st_law) 4) = lm_law_4 K W := by kernel_rfl
def lm_law_5 (K : PySem.W.Frag) (W : WX) : TE := (tFn (S_turned K) noActs W (tCons (tVar 12) (tCons (tFn (S__law_pick K) noActs W (tCons (tVar 1) (tCons (tLst (tCons (tC (.str "up")) (tCons (tC .non) (tCons (tC (.int 0)) (tCons (tC (.str "")) (tCons (tC (.str "Corner")) tNil)))))) tNil)) tNil 2 0) tNil)) tNil 2 0)
theorem lq_law_5_33 (K : PySem.W.Frag) (cells : List (Str × Addr)) (acts : Acts) (T : List (Addr × Str)) (p : Addr) (W : WX) : wE K 33 (gm_law K cells acts T (some p)).low (lamC (defBody st_law) 5) W (lamB (defBody st_law) 5) = lm_law_5 K W := by kernel_rfl
theorem lq_law_5_34 (K : PySem.W.Frag) (cells : List (Str × Addr)) (acts : Acts) (T : List (Addr × Str)) (p : Addr) (W : WX) : wE K 34 (gm_law K cells acts T (some p)).low (lamC (defBody st_law) 5) W (lamB (defBody st_law) 5) = lm_law_5 K W := by kernel_rfl
theorem lq_law_5_35 (K : PySem.W.Frag) (cells : List (Str × Addr)) (acts : Acts) (T : List (Addr × Str)) (p : Addr) (W : WX) : wE K 35 (gm_law K cells acts T (some p)).low (lamC (defBody st_law) 5) W (lamB (defBody st_law) 5) = lm_law_5 K W := by kernel_rfl
theorem lq_law_5_36 (K : PySem.W.Frag) (cells : List (Str × Addr)) (acts : Acts) (T : List (Addr × Str)) (p : Addr) (W : WX) : wE K 36 (gm_law K cells acts T (some p)).low (lamC (defBody st_law) 5) W (lamB (defBody st_law) 5) = lm_law_5 K W := by kernel_rfl
theorem lq_law_5_37 (K : PySem.W.Frag) (cells : List (Str × Addr)) (acts : Acts) (T : List (Addr × Str)) (p : Addr) (W : WX) : wE K 37 (gm_law K cells acts T (some p)).low (lamC (defBody st_law) 5) W (lamB (defBody st_law) 5) = lm_law_5 K W := by kernel_rfl
theorem lq_law_5_38 (K : PySem.W.Frag) (cells : List (Str × Addr)) (acts : Acts) (T : List (Addr × Str)) (p : Addr) (W : WX) : wE K 38 (gm_law K cells acts T (some p)).low (lamC (defBody st_law) 5) W (lamB (defBody st_law) 5) = lm_law_5 K W := by kernel_rfl

end K03

set_option Elab.async false
set_option linter.all false
set_option maxRecDepth 100000
set_option maxHeartbeats 8000000
namespace K03
open PySem PySem.Spec PyProof.Rows L2 LamX G Pk
section
variable {K : PySem.W.Frag} {cells : List (Str × Addr)} {acts : Acts} {T : List (Addr × Str)} {pt : Option Addr} {vs : List V} {H H1 : Hp} {Q : VK} {E : XK}
theorem ok__law_is_whole (h : sp_is_number vs H Q E) : vs.length = 1 ∧ t__law_is_whole K cells acts T pt (Ww E) (Dd Q) (L2.start ["_law_item"] vs) H := by
  obtain ⟨x, rfl, hk, q⟩ := h
  refine ⟨rfl, ?_⟩
  rw [show L2.start ["_law_item"] [x] = [some x] from rfl]
  unfold t__law_is_whole
  simp only [tSeq, tWhile, tAnd, tOr, tNot, tTest, tTru, tOp, tUn, tVar, tC, tLst, tTup, tNil, tAsg, tBM, tBM0, tCons, gSub, tIfS, tCB, gName, tRet, tRetN, tNext, tIf, tFn, tDrop, tRaise0, tAndT, tOrT, tNotT, tChain, tAug, tPar, tPar3, for_go, lc_go, iRng1, iRng2, iSeq, tSl, tPart, tNoPart, tRaiseA, tAttr, List.getElem?_cons_zero, List.getElem?_cons_succ, List.set_cons_zero, List.set_cons_succ, Option.some.injEq, exists_eq_left']
  refine isX_kd (.inl rfl) hk ⟨_, rfl, ?_⟩
  rw [isNum_eq] at q
  by_cases c : isTy "int" x = true
  · rw [if_pos c]
    rw [c] at q
    exact isX_kd (.inr (.inl rfl)) hk ⟨_, rfl, q⟩
  · rw [if_neg c]
    rw [Bool.eq_false_iff.mpr c] at q ⊢
    exact q
theorem btw_eq {i lo hi : Int} : btw (.int i) lo hi = (decide (lo ≤ i) && decide (i ≤ hi)) := rfl
/-- lo <= v <= hi of an int, as a test -/
theorem chn {i : Nat} {n lo hi : Int} {tlo thi : TE} {σ : L2.St} {k : Bool → Hp → Prop} (e : σ[i]? = some (some (.int n))) (hlo : ∀ Q : VK, Q (.int lo) H → tlo σ H Q) (hhi : ∀ Q : VK, Q (.int hi) H → thi σ H Q) (hk : k (btw (.int n) lo hi) H) :
    (tTest (tChain (G.rCmp K .LtE) (G.rCmp K .LtE) tlo (tVar i) thi)) σ H k := by
  simp only [tTest, tChain, tVar, e, Option.some.injEq, exists_eq_left']
  refine hlo _ (le_int ⟨_, rfl, ?_⟩)
  rw [btw_eq] at hk
  by_cases c : lo ≤ n
  · rw [decide_eq_true c] at hk
    rw [if_pos (decide_eq_true c)]
    exact hhi _ (le_int ⟨_, rfl, hk⟩)
  · rw [decide_eq_false c] at hk
    rw [if_neg (by simp [c])]
    exact ⟨_, rfl, hk⟩
/-- not a whole number, or out of the bounds -/
theorem out_btw {i : Nat} {v : V} {lo hi : Int} {tlo thi : TE} {ac : L2.St → Hp → Acts} {W : WX} {σ : L2.St} {k : Bool → Hp → Prop} (e : σ[i]? = some (some v)) (kv : Kd H v) (hlo : ∀ Q : VK, Q (.int lo) H → tlo σ H Q) (hhi : ∀ Q : VK, Q (.int hi) H → thi σ H Q) (hk : k (!btw v lo hi) H) :
    (tOr (tNot (tTru K (tFn (S__law_is_whole K) ac W (tCons (tVar i) tNil) tNil 1 0))) (tNot (tTest (tChain (G.rCmp K .LtE) (G.rCmp K .LtE) tlo (tVar i) thi)))) σ H k := by
  show tTru K _ σ H _
  simp only [tTru, tFn, tCons, tVar, tNil, e, Option.some.injEq, exists_eq_left']
  refine ⟨rfl, rfl, v, rfl, kv, _, rfl, ?_⟩
  cases v with
  | int n =>
    show if (!true) = true then _ else _
    rw [if_neg (by simp)]
    exact chn e hlo hhi hk
  | _ =>
    show if (!false) = true then _ else _
    rw [if_pos (by simp)]
    exact hk
theorem in_btw {i : Nat} {v : V} {lo hi : Int} {tlo thi : TE} {ac : L2.St → Hp → Acts} {W : WX} {σ : L2.St} {k : Bool → Hp → Prop} (e : σ[i]? = some (some v)) (kv : Kd H v) (hlo : ∀ Q : VK, Q (.int lo) H → tlo σ H Q) (hhi : ∀ Q : VK, Q (.int hi) H → thi σ H Q) (hk : k (btw v lo hi) H) :
    (tAnd (tTru K (tFn (S__law_is_whole K) ac W (tCons (tVar i) tNil) tNil 1 0)) (tTest (tChain (G.rCmp K .LtE) (G.rCmp K .LtE) tlo (tVar i) thi))) σ H k := by
  show tTru K _ σ H _
  simp only [tTru, tFn, tCons, tVar, tNil, e, Option.some.injEq, exists_eq_left']
  refine ⟨rfl, rfl, v, rfl, kv, _, rfl, ?_⟩
  cases v with
  | int n =>
    show if true = true then _ else _
    rw [if_pos rfl]
    exact chn e hlo hhi hk
  | _ =>
    show if false = true then _ else _
    rw [if_neg (by simp)]
    exact hk
theorem ok__law_due (h : sp_due K vs H Q E) : vs.length = 1 ∧ t__law_due K cells acts T pt (Ww E) (Dd Q) (L2.start ["_law_four", "_law_tall", "_law_wide", "_law_least", "_law_most"] vs) H := by
  obtain ⟨a, x, y, z, u, rfl, hl, kx, ky, kz, ku, q⟩ := h
  refine ⟨rfl, ?_⟩
  rw [show L2.start ["_law_four", "_law_tall", "_law_wide", "_law_least", "_law_most"] [V.ref a] = [some (.ref a), none, none, none, none] from rfl]
  unfold t__law_due
  refine sq_asgG ⟨_, rfl, .inr ⟨a, _, rfl, hl, rfl, _, _, rfl, _, _, rfl, _, _, rfl, _, _, rfl, rfl, ?_⟩⟩
  unfold dueV at q
  have cint : ∀ {σ : L2.St} {n : Int} (Q : VK), Q (.int n) H → (tC (.int n)) σ H Q := fun Q h => h
  refine sq_if (out_btw rfl kx cint cint ?_)
  cases c1 : btw x 1 16 with
  | false =>
    rw [if_pos c1] at q
    exact q
  | true =>
  rw [if_neg (by rw [c1]; simp)] at q
  show if (!true) = true then _ else _
  rw [if_neg (by simp)]
  refine sq_if (out_btw rfl ky cint cint ?_)
  cases c2 : btw y 1 16 with
  | false =>
    rw [if_pos c2] at q
    exact q
  | true =>
  rw [if_neg (by rw [c2]; simp)] at q
  show if (!true) = true then _ else _
  rw [if_neg (by simp)]
  refine sq_if (out_btw (lo := -512) (hi := 511) rfl kz (fun Q h => ⟨_, rfl, h⟩) cint ?_)
  cases c3 : btw z (-512) 511 with
  | false =>
    rw [if_pos c3] at q
    exact q
  | true =>
  rw [if_neg (by rw [c3]; simp)] at q
  show if (!true) = true then _ else _
  rw [if_neg (by simp)]
  obtain ⟨lo, rfl, lo0, lo1⟩ := btw_int c3
  show (tAnd _ _) _ _ _
  refine in_btw (lo := lo) (hi := 511) rfl ku (fun Q h => ⟨_, rfl, h⟩) cint ?_
  replace q : Q (if btw u lo 511 = true then V.non else V.str "high") H := q
  cases c4 : btw u lo 511 with
  | false =>
    rw [c4] at q
    exact q
  | true =>
    rw [c4] at q
    exact q
/-! ### is it a plane: the law's own look -/
theorem go_tup {a : Addr} (xs : List V) {ix : Nat} {tb : TS} {D : Ends} {σ : L2.St} (P : Nat → L2.St → Hp → Prop) (h0 : P 0 σ H) (hl : ∀ i σ H, P i σ H → SqT K H a xs)
    (hs : ∀ i x σ H, xs[i]? = some x → P i σ H → tb { D with nx := P (i + 1), ct := P (i + 1), bk := D.nx } (σ.set ix (some x)) H) (he : ∀ σ H, P xs.length σ H → D.nx σ H) : ForGo (Itt K a) (gName ix) tb D σ H := by
  refine ⟨fun i m σ H => P i σ H ∧ i + m = xs.length, ⟨xs.length, h0, by omega⟩, fun i m σ H ⟨h, e⟩ => ?_⟩
  by_cases c : i < xs.length
  · refine .inr ⟨⟨xs, xs[i], hl i σ H h, List.getElem?_eq_getElem c⟩, P (i + 1), fun σ' H' q => ⟨m - 1, by omega, q, by omega⟩, fun x H' ⟨e1, e2⟩ => ?_⟩
    subst e1
    exact hs i x σ H' (e2 xs (hl i σ H' h)) h
  · have : i = xs.length := by omega
    subst this
    exact .inl ⟨⟨xs, hl _ σ H h, Nat.le_refl _⟩, he σ H h⟩
theorem lc_tfilt {a : Addr} (xs : List V) {ix : Nat} {tt : L2.TT} {σ : L2.St} {Q : VK} (p : V → Bool) (hl : H a = some (.tup xs)) (hz : xs.length ≤ 1000000) (hix : ix < σ.length)
    (ht : ∀ v σ' H' (k : Bool → Hp → Prop), v ∈ xs → σ'[ix]? = some (some v) → (∀ j, j ≠ ix → σ'[j]? = σ[j]?) → Same H H' → k (p v) H' → tt σ' H' k)
    (q : ∀ D, H D = none → Q (.ref D) (upd H D (.lst (xs.filter p)))) : LcGo (Itt K a) (gName ix) tt (tVar ix) [ix] σ Q H := by
  refine lc_tup xs (fun D i acc H' => H D = none ∧ acc = (xs.take i).filter p ∧ H' = upd H D (.lst acc)) (fun D hD => ⟨hD, by simp, rfl⟩) (fun D i acc H' h => by rw [h.2.2]; exact .inl (.inl (keep_new hl h.1))) ?_ ?_
  · rintro D i acc H' x hx hA hz2 ⟨hD, rfl, rfl⟩
    have hi : i < xs.length := (List.getElem?_eq_some_iff.mp hx).1
    have et : (xs.take (i + 1)).filter p = (xs.take i).filter p ++ (if p x = true then [x] else []) := by
      rw [List.take_succ, hx, List.filter_append]
      show _ ++ List.filter p [x] = _
      rw [List.filter_cons, List.filter_nil]
    refine ht x _ _ _ (List.mem_of_getElem? hx) ?_ (fun j hj => ?_) (same_new (Same.refl H) hD) ?_
    · show ((σ.set ix none).set ix (some x))[ix]? = _
      rw [List.getElem?_set_self (by rw [List.length_set]; exact hix)]
    · show ((σ.set ix none).set ix (some x))[j]? = _
      rw [List.getElem?_set_ne (Ne.symm hj), List.getElem?_set_ne (Ne.symm hj)]
    by_cases c : p x = true
    · rw [if_pos c]
      refine ⟨x, ?_, Lp.put hA hz2 (by omega) ⟨hD, ?_, ?_⟩⟩
      · show ((σ.set ix none).set ix (some x))[ix]? = _
        rw [List.getElem?_set_self (by rw [List.length_set]; exact hix)]
      · rw [et, if_pos c]
      · rw [upd_upd]
    · rw [if_neg c]
      refine Lp.skip hA hz2 ⟨hD, ?_, rfl⟩
      rw [et, if_neg c, List.append_nil]
  · rintro D acc H' hl2 hA ⟨hD, rfl, rfl⟩
    rw [List.take_length]
    exact q D hD
def datS : V → PyData
  | .bl b => .bool b
  | .int i => .int i
  | .str x => .str x
  | _ => .none
theorem dp_sc {v : V} (h : scV v = true) : Dp K H v (datS v) := by
  cases v with
  | non => exact .non
  | bl b => exact .bl b
  | int i => exact .int i
  | str x => exact .str x
  | _ => cases h
theorem dp_scs : ∀ {xs : List V}, (∀ v ∈ xs, scV v = true) → DpAll K H xs (xs.map datS)
  | [], _ => .nil
  | v :: r, h => .cons (dp_sc (h v List.mem_cons_self)) (dp_scs fun u hu => h u (List.mem_cons_of_mem _ hu))
theorem lay_scs : ∀ {xs : List V}, (∀ v ∈ xs, scV v = true) → PyData.canLayAll0 (xs.map datS) = true ∧ PyData.depthAll (xs.map datS) = 0
  | [], _ => ⟨rfl, rfl⟩
  | v :: r, h => by
    obtain ⟨h1, h2⟩ := lay_scs (xs := r) fun u hu => h u (List.mem_cons_of_mem _ hu)
    have hv := h v List.mem_cons_self
    refine ⟨?_, ?_⟩
    · show (PyData.canLay0 (datS v) && PyData.canLayAll0 (r.map datS)) = true
      rw [h1, Bool.and_true]
      cases v with
      | str x => exact hv
      | _ => rfl
    · show max (PyData.depth (datS v)) (PyData.depthAll (r.map datS)) = 0
      rw [h2]
      cases v <;> rfl
theorem shaped_scs {xs : List V} (h : ∀ v ∈ xs, scV v = true) : SeqAt.shaped (.list (xs.map datS)) = true := by
  show (PyData.canLayAll0 (xs.map datS) && decide (PyData.depthAll (xs.map datS) + 1 ≤ 64)) = true
  rw [(lay_scs h).1, (lay_scs h).2]
  rfl
theorem ne_nilS {a b : Addr} {xs : List V} {k : VK} (hs : ∀ v ∈ xs, scV v = true) (ha : H a = some (.lst xs)) (hb : H b = some (.lst [])) (q : k (.bl (!xs.isEmpty)) H) : G.rCmp K .NotEq (.ref a) (.ref b) H k := by
  refine .inr ⟨_, .list [], .lst (.inl (.inl ha)) (dp_scs hs), .lst (.inl (.inl hb)) .nil, shaped_scs hs, rfl, ?_⟩
  have e : PyData.eqv (.list (xs.map datS)) (.list []) = xs.isEmpty := by cases xs <;> rfl
  rw [e]
  exact q
theorem row_num {lo hi : Int} {r : Rw} (h : rowBtw lo hi r = true) : rowNum r = true := by
  cases r with
  | none => cases h
  | some xs =>
    refine List.all_eq_true.mpr fun v hv => ?_
    obtain ⟨i, rfl, _⟩ := btw_int (List.all_eq_true.mp (show (xs.all fun x => btw x lo hi) = true from h) v hv)
    rfl
theorem filt_empty {xs : List V} {p : V → Bool} : (xs.filter p).isEmpty = xs.all fun v => !p v := by
  induction xs with
  | nil => rfl
  | cons v xs ih =>
    rw [List.filter_cons, List.all_cons]
    cases p v with
    | true => rfl
    | false => exact ih
theorem ok__law_is_pane (h : sp_is_pane vs H Q E) : vs.length = 2 ∧ t__law_is_pane K cells acts T pt (Ww E) (Dd Q) (L2.start ["_law_scope_here", "_law_item", "_law_line", "_law_grain_here"] vs) H := by
  obtain ⟨st, p, h, w, lo, hi, x, t, rfl, sc, ht, hs, q⟩ := h
  refine ⟨rfl, ?_⟩
  rw [show L2.start ["_law_scope_here", "_law_item", "_law_line", "_law_grain_here"] [V.ref p, x] = [some (.ref p), some x, none, none] from rfl]
  unfold t__law_is_pane
  simp only [tSeq, tWhile, tAnd, tOr, tNot, tTest, tTru, tOp, tUn, tVar, tC, tLst, tTup, tNil, tAsg, tBM, tBM0, tCons, gSub, tIfS, tCB, gName, tRet, tRetN, tNext, tIf, tFn, tDrop, tRaise0, tAndT, tOrT, tNotT, tChain, tAug, tPar, tPar3, for_go, lc_go, iRng1, iRng2, iSeq, tSl, tPart, tNoPart, tRaiseA, tAttr, List.getElem?_cons_zero, List.getElem?_cons_succ, List.set_cons_zero, List.set_cons_succ, Option.some.injEq, exists_eq_left']
  cases t with
  | none => exact isx_notup ht ⟨_, rfl, q H (Same.refl H)⟩
  | some rs =>
    obtain ⟨a, us, rfl, ha, hr⟩ := id ht
    obtain ⟨sl, sr⟩ := hs
    refine isx_tup ha ⟨_, rfl, ?_⟩
    rw [if_neg (by simp)]
    refine len_tup ha (sc_tall sc (ne_int ⟨_, rfl, ?_⟩))
    rw [hr.1]
    by_cases c : (rs.length : Int) = h
    · rw [if_neg (by simp [c])]
      refine .inr (.inl ⟨_, rfl, a, rfl, ⟨us, .inl (.inl ha)⟩, ?_⟩)
      refine go_tup us (fun i σ H' => Same H H' ∧ (∃ o, σ = [some (.ref p), some (.ref a), o, none]) ∧ (rs.take i).all (fun r => rowLen w r && rowBtw lo hi r) = true) ⟨Same.refl H, ⟨_, rfl⟩, rfl⟩ (fun i σ H' h => .inl (.inl (h.1 _ _ ha))) ?_ ?_
      · rintro i v σ H' hv ⟨s, ⟨o, rfl⟩, hall⟩
        obtain ⟨r, hri, hra⟩ := rw_ix hr hv
        have hra' := hra.same s
        have sc' := sc.same s
        have mr : r ∈ rs := List.mem_of_getElem? hri
        have bad : (rowLen w r && rowBtw lo hi r) = false → ∀ H2, Same H' H2 → Q (.bl false) H2 := fun hb H2 s2 => by
          have e : planeB h w lo hi (some rs) = false := by
            cases z : planeB h w lo hi (some rs) with
            | false => rfl
            | true =>
              rw [planeB_some, fitsB_some] at z
              simp only [Bool.and_eq_true] at z
              rw [List.all_eq_true.mp z.1.2.1 r mr, List.all_eq_true.mp z.2 r mr] at hb
              cases hb
          rw [← e]
          exact q H2 (s.trans s2)
        simp only [tSeq, tWhile, tAnd, tOr, tNot, tTest, tTru, tOp, tUn, tVar, tC, tLst, tTup, tNil, tAsg, tBM, tBM0, tCons, gSub, tIfS, tCB, gName, tRet, tRetN, tNext, tIf, tFn, tDrop, tRaise0, tAndT, tOrT, tNotT, tChain, tAug, tPar, tPar3, for_go, lc_go, iRng1, iRng2, iSeq, tSl, tPart, tNoPart, tRaiseA, tAttr, List.getElem?_cons_zero, List.getElem?_cons_succ, List.set_cons_zero, List.set_cons_succ, Option.some.injEq, exists_eq_left']
        cases r with
        | none => exact isx_notup hra' ⟨_, rfl, bad rfl H' (Same.refl H')⟩
        | some xs =>
          obtain ⟨b, rfl, hb, hsc⟩ := hra'
          refine isx_tup hb ⟨_, rfl, ?_⟩
          rw [if_neg (by simp)]
          refine len_tup hb (sc_wide sc' (ne_int ⟨_, rfl, ?_⟩))
          by_cases c2 : (xs.length : Int) = w
          · rw [if_neg (by simp [c2])]
            refine .inr (.inl ⟨_, rfl, b, rfl, ⟨xs, .inl (.inl hb)⟩, ?_⟩)
            have lx : xs.length ≤ 100 := sr (some xs) mr
            refine lc_tfilt xs (fun v => !btw v lo hi) hb (by omega) (Nat.le_of_ble_eq_true rfl) (fun v σ' H2 k hv e3 eo s2 hk => ?_) fun D hD => ?_
            · have sc2 := sc'.same s2
              have e0 : (fun σ'' : L2.St => σ''[0]? = some (some (V.ref p))) σ' := (eo 0 (by decide)).trans rfl
              refine out_btw e3 (sc_kd (hsc v hv)) (fun Q h => ?_) (fun Q h => ?_) hk
              · simp only [tOp, tVar, tC, e0, Option.some.injEq, exists_eq_left']
                exact sc_least sc2 h
              · simp only [tOp, tVar, tC, e0, Option.some.injEq, exists_eq_left']
                exact sc_most sc2 h
            · refine ⟨small rfl, fun nl hnl => ne_nilS (fun v hv => hsc v ((List.mem_filter.mp hv).1)) (keep_new upd_same hnl) upd_same ⟨_, rfl, ?_⟩⟩
              have s3 : Same H' (upd (upd H' D (.lst (xs.filter fun v => !btw v lo hi))) nl (.lst [])) := same_newS (same_new (Same.refl H') hD) hnl
              have fe : (xs.filter fun v => !btw v lo hi).isEmpty = rowBtw lo hi (some xs) := by
                rw [filt_empty]
                show _ = xs.all fun v => btw v lo hi
                congr 1
                funext v
                rw [Bool.not_not]
              rw [fe]
              cases c3 : rowBtw lo hi (some xs) with
              | true =>
                rw [if_neg (by simp)]
                refine ⟨s.trans s3, ⟨_, rfl⟩, ?_⟩
                rw [List.take_add_one, hri, List.all_append, hall]
                show ((rowLen w (some xs) && rowBtw lo hi (some xs)) && true) = true
                rw [c3, show rowLen w (some xs) = true from decide_eq_true c2]
                rfl
              | false =>
                rw [if_pos (by simp)]
                exact bad (by rw [c3, Bool.and_false]) _ s3
          · rw [if_pos (by simp [c2])]
            exact bad (by rw [show rowLen w (some xs) = false from decide_eq_false c2]; rfl) H' (Same.refl H')
      · rintro σ H' ⟨s, _, hall⟩
        rw [hr.1, List.take_length] at hall
        have e : planeB h w lo hi (some rs) = true := by
          rw [planeB_some, fitsB_some, decide_eq_true c]
          have z := List.all_eq_true.mp hall
          have h1 : rs.all (rowLen w) = true := List.all_eq_true.mpr fun r hr => ((Bool.and_eq_true _ _).mp (z r hr)).1
          have h3 : rs.all (rowBtw lo hi) = true := List.all_eq_true.mpr fun r hr => ((Bool.and_eq_true _ _).mp (z r hr)).2
          have h2 : rs.all rowNum = true := List.all_eq_true.mpr fun r hr => row_num (((Bool.and_eq_true _ _).mp (z r hr)).2)
          rw [h1, h2, h3]
          rfl
        show Q (.bl true) H'
        rw [← e]
        exact q H' s
    · rw [if_pos (by simp [c])]
      have e : planeB h w lo hi (some rs) = false := by
        rw [planeB_some, fitsB_some, decide_eq_false c]
        rfl
      rw [← e]
      exact q H (Same.refl H)
end
end K03

set_option Elab.async false
set_option linter.all false
set_option maxRecDepth 100000
set_option maxHeartbeats 8000000
namespace K03
open PySem PySem.Spec PyProof.Rows L2 LamX G Pk
/-- rows that are made already -/
def RowsIn (H : Hp) (bs : List Addr) (g : List (List Int)) : Prop := bs.length = g.length ∧ ∀ (i : Nat) (b : Addr) (r : List Int), bs[i]? = some b → g[i]? = some r → H b = some (.tup (r.map V.int))
structure Pn (H0 : Hp) (st La Ca l1 l2 fd : Addr) (x1 x2 : List Int) (bs : List Addr) (g : List (List Int)) (t : Int) (H : Hp) : Prop where
  d : Drw st La Ca H t
  f : Dr st La H0 H
  e1 : H l1 = some (.lst (x1.map V.int))
  e2 : H l2 = some (.lst (x2.map V.int))
  e3 : H fd = some (.lst (bs.map V.ref))
  er : RowsIn H bs g
  n1 : l1 ≠ st ∧ l1 ≠ La ∧ l1 ≠ Ca
  n2 : l2 ≠ st ∧ l2 ≠ La ∧ l2 ≠ Ca
  n3 : fd ≠ st ∧ fd ≠ La ∧ fd ≠ Ca
  n4 : fd ≠ l1 ∧ fd ≠ l2
  z : H0 fd = none
section
variable {H0 H H1 : Hp} {st La Ca l1 l2 fd : Addr} {x1 x2 : List Int} {bs : List Addr} {g : List (List Int)} {t u : Int}
theorem Pn.dr (P : Pn H0 st La Ca l1 l2 fd x1 x2 bs g t H) (d : Drw st La Ca H1 u) (f : Dr st La H H1) : Pn H0 st La Ca l1 l2 fd x1 x2 bs g u H1 where
  d := d
  f := P.f.trans f
  e1 := f _ _ P.e1 P.n1.1 P.n1.2.1
  e2 := f _ _ P.e2 P.n2.1 P.n2.2.1
  e3 := f _ _ P.e3 P.n3.1 P.n3.2.1
  er := ⟨P.er.1, fun i b r h1 h2 => P.d.keepT f.n (P.er.2 i b r h1 h2)⟩
  n1 := P.n1
  n2 := P.n2
  n3 := P.n3
  n4 := P.n4
  z := P.z
theorem Pn.mono (P : Pn H0 st La Ca l1 l2 fd x1 x2 bs g t H) (h : t ≤ u) : Pn H0 st La Ca l1 l2 fd x1 x2 bs g u H := { P with d := P.d.mono h }
theorem Pn.new {q : Addr} {o : HO} (P : Pn H0 st La Ca l1 l2 fd x1 x2 bs g t H) (h : H q = none) : Pn H0 st La Ca l1 l2 fd x1 x2 bs g t (upd H q o) := P.dr (P.d.new h) ((Dr.refl _ _ _).new h)
/-- a list of one's own is written -/
theorem Pn.put {q : Addr} {ys zs : List V} (P : Pn H0 st La Ca l1 l2 fd x1 x2 bs g t H) (hq : H q = some (.lst ys)) (z : H0 q = none) (m1 : q ≠ st ∧ q ≠ La ∧ q ≠ Ca) (m2 : q ≠ l1 ∧ q ≠ l2 ∧ q ≠ fd) : Pn H0 st La Ca l1 l2 fd x1 x2 bs g t (upd H q (.lst zs)) where
  d := drw_put P.d m1.1 m1.2.1 m1.2.2
  f := dr_over P.f z
  e1 := by rw [upd_ne (Ne.symm m2.1)]; exact P.e1
  e2 := by rw [upd_ne (Ne.symm m2.2.1)]; exact P.e2
  e3 := by rw [upd_ne (Ne.symm m2.2.2)]; exact P.e3
  er := ⟨P.er.1, fun i b r h1 h2 => by
    have e := P.er.2 i b r h1 h2
    rw [upd_ne (fun z => by rw [z, hq] at e; cases e)]
    exact e⟩
  n1 := P.n1
  n2 := P.n2
  n3 := P.n3
  n4 := P.n4
  z := P.z
/-- a row more -/
theorem Pn.row {b : Addr} {r : List Int} (P : Pn H0 st La Ca l1 l2 fd x1 x2 bs g t H) (hb : H b = some (.tup (r.map V.int))) : Pn H0 st La Ca l1 l2 fd x1 x2 (bs ++ [b]) (g ++ [r]) t (upd H fd (.lst (bs.map V.ref ++ [V.ref b]))) where
  d := drw_put P.d P.n3.1 P.n3.2.1 P.n3.2.2
  f := dr_over P.f P.z
  e1 := by rw [upd_ne (Ne.symm P.n4.1)]; exact P.e1
  e2 := by rw [upd_ne (Ne.symm P.n4.2)]; exact P.e2
  e3 := by rw [upd_same, List.map_append]; rfl
  er := ⟨by rw [List.length_append, List.length_append, P.er.1]; rfl, fun i c s h1 h2 => by
    have key : ∀ c (s : List Int), H c = some (.tup (s.map V.int)) → (upd H fd (.lst (bs.map V.ref ++ [V.ref b]))) c = some (.tup (s.map V.int)) := fun c s e => by
      rw [upd_ne (fun z => by rw [z, P.e3] at e; cases e)]
      exact e
    rcases Nat.lt_or_ge i bs.length with hi | hi
    · rw [List.getElem?_append_left hi] at h1
      rw [List.getElem?_append_left (by rw [← P.er.1]; exact hi)] at h2
      exact key c s (P.er.2 i c s h1 h2)
    · rw [List.getElem?_append_right hi] at h1
      rw [List.getElem?_append_right (by rw [← P.er.1]; exact hi)] at h2
      have h0 : i - bs.length = 0 := by
        rcases Nat.eq_zero_or_pos (i - bs.length) with q | q
        · exact q
        · rw [List.getElem?_eq_none (by simp; omega)] at h1
          cases h1
      rw [h0] at h1
      rw [← P.er.1, h0] at h2
      cases h1
      cases h2
      exact key _ _ hb⟩
  n1 := P.n1
  n2 := P.n2
  n3 := P.n3
  n4 := P.n4
  z := P.z
end
section
variable {K : PySem.W.Frag} {cells : List (Str × Addr)} {acts : Acts} {T : List (Addr × Str)} {pt : Option Addr} {vs : List V} {H H1 : Hp} {Q : VK} {E : XK}
theorem app_list {p : Addr} {xs : List V} {v : V} {k : VK} (h : H p = some (.lst xs)) (hl : xs.length ≤ 1000) (q : k .non (upd H p (.lst (xs ++ [v])))) : rAppend (.ref p) [v] H k := ⟨p, xs, v, rfl, rfl, h, by rw [sizeLine_eq]; omega, q⟩
theorem clamp_in {lo hi n : Int} (h : lo ≤ hi) : lo ≤ clampZ lo hi n ∧ clampZ lo hi n ≤ hi := by
  unfold clampZ
  split <;> split <;> omega
theorem dr_z {H0 H : Hp} {st La q : Addr} (f : Dr st La H0 H) (h : H q = none) (n1 : q ≠ st) (n2 : q ≠ La) : H0 q = none := by
  cases z : H0 q with
  | none => rfl
  | some o =>
    rw [f _ _ z n1 n2] at h
    cases h
theorem ok__law_pane (h : sp_pane vs H Q E) : vs.length = 2 ∧ t__law_pane K cells acts T pt (Ww E) (Dd Q) (L2.start ["_law_state", "_law_scope_here", "_law_fashion", "_law_base", "_law_pair", "_law_slope", "_law_found", "_law_y", "_law_line", "_law_x"] vs) H := by
  obtain ⟨st, La, Ca, p, t, h, w, lo, hi, rfl, tl, d, sc, q⟩ := h
  obtain ⟨_, _, h1, h16, w1, w16, lo0, lohi, hi5⟩ := id sc
  refine ⟨rfl, ?_⟩
  rw [show L2.start ["_law_state", "_law_scope_here", "_law_fashion", "_law_base", "_law_pair", "_law_slope", "_law_found", "_law_y", "_law_line", "_law_x"] [V.ref st, V.ref p] = [some (.ref st), some (.ref p), none, none, none, none, none, none, none, none] from rfl]
  unfold t__law_pane
  refine sq_par ?_
  simp only [tWhile, tAnd, tOr, tNot, tTest, tTru, tOp, tUn, tVar, tC, tLst, tTup, tNil, tBM, tBM0, tCons, gSub, tCB, gName, tIf, tFn, tAndT, tOrT, tNotT, tChain, lc_go, iRng1, iRng2, iSeq, tSl, tPart, tNoPart, tAttr, List.getElem?_cons_zero, List.getElem?_cons_succ, List.set_cons_zero, List.set_cons_succ, Option.some.injEq, exists_eq_left']
  refine ⟨rfl, rfl, st, La, Ca, 4, t, rfl, by decide, by decide, by omega, d, fun f H1 f0 f4 d1 r1 => ?_⟩
  have sc1 := sc.keep d r1.n
  refine ⟨rfl, rfl, st, La, Ca, p, t + 1, h, w, lo, hi, rfl, by omega, d1, sc1, fun b0 H2 b0l b0h d2 r2 => ⟨_, _, rfl, ?_⟩⟩
  have sc2 := sc1.keep d1 r2.n
  refine sq_par ?_
  simp only [tWhile, tAnd, tOr, tNot, tTest, tTru, tOp, tUn, tVar, tC, tLst, tTup, tNil, tBM, tBM0, tCons, gSub, tCB, gName, tIf, tFn, tAndT, tOrT, tNotT, tChain, lc_go, iRng1, iRng2, iSeq, tSl, tPart, tNoPart, tAttr, List.getElem?_cons_zero, List.getElem?_cons_succ, List.set_cons_zero, List.set_cons_succ, Option.some.injEq, exists_eq_left']
  refine ⟨rfl, rfl, st, La, Ca, p, t + 1 + 1, h, w, lo, hi, rfl, by omega, d2, sc2, fun b1 H3 b1l b1h d3 r3 => ⟨small rfl, fun l1 hl1 => ?_⟩⟩
  have ne1 := drw_ne d3 hl1
  refine ⟨rfl, rfl, st, La, Ca, 5, _, rfl, by decide, by decide, by omega, d3.new hl1, fun s0 H5 _ _ d5 r5 => G.sub_int (K := K) ⟨rfl, rfl, st, La, Ca, 5, _, rfl, by decide, by decide, by omega, d5, fun s1 H6 _ _ d6 r6 => G.sub_int (K := K) ⟨small rfl, fun l2 hl2 => ⟨_, _, rfl, ?_⟩⟩⟩⟩
  have ne2 := drw_ne d6 hl2
  refine sq_asg ⟨small rfl, fun fd hfd => ?_⟩
  have e16 : H6 l1 = some (.lst [.int b0, .int b1]) := r6 _ _ (r5 _ _ upd_same ne1.1 ne1.2.1) ne1.1 ne1.2.1
  have ne3 := drw_ne (d6.new (o := .lst [.int (s0 - 2), .int (s1 - 2)]) hl2) hfd
  have n12 : l2 ≠ l1 := fun e => by rw [e, e16] at hl2; cases hl2
  have n31 : fd ≠ l1 := fun e => by rw [e, upd_ne (Ne.symm n12), e16] at hfd; cases hfd
  have n32 : fd ≠ l2 := fun e => by rw [e, upd_same] at hfd; cases hfd
  have fr : Dr st La H (upd H6 l2 (.lst [.int (s0 - 2), .int (s1 - 2)])) := ((((r1.trans r2).trans r3).trans ((Dr.refl st La H3).new hl1)).trans (r5.trans r6)).new hl2
  have P0 : Pn H st La Ca l1 l2 fd [b0, b1] [s0 - 2, s1 - 2] [] [] (t + 10) (upd (upd H6 l2 (.lst [.int (s0 - 2), .int (s1 - 2)])) fd (.lst [])) :=
    { d := ((d6.new hl2).new hfd).mono (by omega)
      f := fr.new hfd
      e1 := by rw [upd_ne (Ne.symm n31), upd_ne (Ne.symm n12)]; exact e16
      e2 := by rw [upd_ne (Ne.symm n32), upd_same]; rfl
      e3 := by rw [upd_same]; rfl
      er := ⟨rfl, fun i b r e => by simp at e⟩
      n1 := ne1
      n2 := ne2
      n3 := ne3
      n4 := ⟨n31, n32⟩
      z := dr_z fr hfd ne3.1 ne3.2.1 }
  refine sq_for ?_
  simp only [tWhile, tAnd, tOr, tNot, tTest, tTru, tOp, tUn, tVar, tC, tLst, tTup, tNil, tBM, tBM0, tCons, gSub, tCB, gName, tIf, tFn, tAndT, tOrT, tNotT, tChain, lc_go, iRng1, iRng2, iSeq, tSl, tPart, tNoPart, tAttr, List.getElem?_cons_zero, List.getElem?_cons_succ, List.set_cons_zero, List.set_cons_succ, Option.some.injEq, exists_eq_left']
  have sc0 : ScAt st (upd (upd H6 l2 (.lst [.int (s0 - 2), .int (s1 - 2)])) fd (.lst [])) p h w lo hi := sc.keep d (fr.new hfd).n
  refine sc_tall sc0 ⟨h, rfl, by omega, by omega, ?_⟩
  refine go_rng (fun i σ H' => ∃ bs g, bs.length = i ∧ (∀ r ∈ g, (r.length : Int) = w ∧ ∀ n ∈ r, lo ≤ n ∧ n ≤ hi) ∧ Pn H st La Ca l1 l2 fd [b0, b1] [s0 - 2, s1 - 2] bs g (t + 10 + 16 * i) H' ∧ ∃ o7 o8 o9, σ = [some (.ref st), some (.ref p), some (.int f), some (.int b0), some (.ref l1), some (.ref l2), some (.ref fd), o7, o8, o9])
    ⟨[], [], rfl, fun r hr => (nomatch hr), P0.mono (by omega), _, _, _, rfl⟩ ?_ ?_
  · rintro i σ H7 hi7 ⟨bs, g, lb, hg, P, o7, o8, o9, rfl⟩
    refine sq_asg ⟨small rfl, fun q hq => ?_⟩
    have sc7 := sc.keep d P.f.n
    have nq := drw_ne P.d hq
    have nq1 : q ≠ l1 := fun e => by rw [e, P.e1] at hq; cases hq
    have nq2 : q ≠ l2 := fun e => by rw [e, P.e2] at hq; cases hq
    have nq3 : q ≠ fd := fun e => by rw [e, P.e3] at hq; cases hq
    have zq := dr_z P.f hq nq.1 nq.2.1
    refine sq_for ?_
    simp only [tWhile, tAnd, tOr, tNot, tTest, tTru, tOp, tUn, tVar, tC, tLst, tTup, tNil, tBM, tBM0, tCons, gSub, tCB, gName, tIf, tFn, tAndT, tOrT, tNotT, tChain, lc_go, iRng1, iRng2, iSeq, tSl, tPart, tNoPart, tAttr, List.getElem?_cons_zero, List.getElem?_cons_succ, List.set_cons_zero, List.set_cons_succ, Option.some.injEq, exists_eq_left']
    refine sc_wide (sc7.new hq) ⟨w, rfl, by omega, by omega, ?_⟩
    refine go_rng (fun j σ H' => ∃ xs : List Int, xs.length = j ∧ (∀ n ∈ xs, lo ≤ n ∧ n ≤ hi) ∧ Pn H st La Ca l1 l2 fd [b0, b1] [s0 - 2, s1 - 2] bs g (t + 10 + 16 * i + j) H' ∧ H' q = some (.lst (xs.map V.int)) ∧ ∃ o9, σ = [some (.ref st), some (.ref p), some (.int f), some (.int b0), some (.ref l1), some (.ref l2), some (.ref fd), some (.int (0 + i)), some (.ref q), o9])
      ⟨[], rfl, fun n hn => (nomatch hn), (P.new hq).mono (by omega), upd_same, _, rfl⟩ ?_ ?_
    · rintro j σ H8 hj8 ⟨xs, lx, hx, P8, e8, o9, rfl⟩
      have sc8 := sc.keep d P8.f.n
      have fin : ∀ n H9, lo ≤ n → n ≤ hi → Pn H st La Ca l1 l2 fd [b0, b1] [s0 - 2, s1 - 2] bs g (t + 10 + 16 * i + j + 1) H9 → Dr st La H8 H9 → rAppend (.ref q) [.int n] H9 fun _ H' => ∃ xs : List Int, xs.length = j + 1 ∧ (∀ n ∈ xs, lo ≤ n ∧ n ≤ hi) ∧ Pn H st La Ca l1 l2 fd [b0, b1] [s0 - 2, s1 - 2] bs g (t + 10 + 16 * i + (j + 1 : Nat)) H' ∧ H' q = some (.lst (xs.map V.int)) ∧ ∃ o9, ([some (.ref st), some (.ref p), some (.int f), some (.int b0), some (.ref l1), some (.ref l2), some (.ref fd), some (.int (0 + i)), some (.ref q), some (.int (0 + j))] : L2.St) = [some (.ref st), some (.ref p), some (.int f), some (.int b0), some (.ref l1), some (.ref l2), some (.ref fd), some (.int (0 + i)), some (.ref q), o9] := fun n H9 n0 n1 P9 f9 => by
        have e9 := f9 _ _ e8 nq.1 nq.2.1
        refine app_list e9 (by rw [List.length_map]; omega) ⟨xs ++ [n], by rw [List.length_append, lx]; rfl, fun m hm => ?_, (P9.put e9 zq nq ⟨nq1, nq2, nq3⟩).mono (by omega), by rw [upd_same, List.map_append]; rfl, _, rfl⟩
        rcases List.mem_append.mp hm with h | h
        · exact hx m h
        · rw [List.mem_singleton.mp h]
          exact ⟨n0, n1⟩
      have ty8 : tyV K "list" (.ref q) H8 := .inl ⟨rfl, _, .inl (.inl e8)⟩
      have two : ∀ n ∈ [b0, b1], lo ≤ n ∧ n ≤ hi := fun n hn => by
        rcases List.mem_cons.mp hn with rfl | hn
        · exact ⟨b0l, b0h⟩
        · rw [List.mem_singleton.mp hn]
          exact ⟨b1l, b1h⟩
      simp only [tSeq, tWhile, tAnd, tOr, tNot, tTest, tTru, tOp, tUn, tVar, tC, tLst, tTup, tNil, tAsg, tBM, tBM0, tCons, gSub, tIfS, tCB, gName, tRet, tRetN, tNext, tIf, tFn, tDrop, tRaise0, tAndT, tOrT, tNotT, tChain, tAug, tPar, tPar3, for_go, lc_go, iRng1, iRng2, iSeq, tSl, tPart, tNoPart, tRaiseA, tAttr, List.getElem?_cons_zero, List.getElem?_cons_succ, List.set_cons_zero, List.set_cons_succ, Option.some.injEq, exists_eq_left']
      refine eq_int ⟨_, rfl, ?_⟩
      by_cases c0 : f = 0
      · rw [if_pos (decide_eq_true c0)]
        exact ⟨ty8, rfl, rfl, st, La, Ca, p, _, h, w, lo, hi, rfl, by omega, P8.d, sc8, fun n H9 n0 n1 d9 r9 => fin n H9 n0 n1 (P8.dr d9 r9) r9⟩
      · rw [if_neg (by simp [c0])]
        refine eq_int ⟨_, rfl, ?_⟩
        by_cases c1 : f = 1
        · rw [if_pos (decide_eq_true c1)]
          refine ⟨ty8, rfl, rfl, st, La, Ca, _, l1, _, rfl, by omega, P8.d, P8.n1.2.1, P8.e1, Nat.le_of_ble_eq_true rfl, Nat.le_of_ble_eq_true rfl, fun x H9 hx9 d9 r9 => ?_⟩
          obtain ⟨n, hn, rfl⟩ := List.mem_map.mp hx9
          obtain ⟨n0, n1⟩ := two n hn
          exact fin n H9 n0 n1 (P8.dr d9 r9) r9
        · rw [if_neg (by simp [c1])]
          refine eq_int ⟨_, rfl, ?_⟩
          by_cases c2 : f = 2
          · rw [if_pos (decide_eq_true c2)]
            refine ⟨ty8, ix_ok (.inl (.inl P8.e2)) (by decide) rfl (G.mul_int (by omega) (by omega) (G.add_int (K := K) (ix_ok (.inl (.inl P8.e2)) (by decide) rfl (G.mul_int (by omega) (by omega) (G.add_int (K := K) ?_)))))⟩
            refine ⟨rfl, rfl, st, p, h, w, lo, hi, _, rfl, sc8, ?_⟩
            exact fin _ H8 (clamp_in lohi).1 (clamp_in lohi).2 (P8.mono (by omega)) (Dr.refl _ _ _)
          · rw [if_neg (by simp [c2])]
            refine ⟨ty8, rfl, rfl, st, La, Ca, 6, _, rfl, by decide, by decide, by omega, P8.d, fun r H9 _ _ d9 r9 => eq_int ?_⟩
            have P9 := P8.dr d9 r9
            cases decide (r = 0) with
            | true => exact ix_ok (i := 1) (v := .int b1) (.inl (.inl P9.e1)) (by decide) rfl (fin b1 H9 b1l b1h P9 r9)
            | false => exact ix_ok (i := 0) (v := .int b0) (.inl (.inl P9.e1)) (by decide) rfl (fin b0 H9 b0l b0h P9 r9)
    · rintro σ H8 ⟨xs, lx, hx, P8, e8, o9, rfl⟩
      simp only [tSeq, tWhile, tAnd, tOr, tNot, tTest, tTru, tOp, tUn, tVar, tC, tLst, tTup, tNil, tAsg, tBM, tBM0, tCons, gSub, tIfS, tCB, gName, tRet, tRetN, tNext, tIf, tFn, tDrop, tRaise0, tAndT, tOrT, tNotT, tChain, tAug, tPar, tPar3, for_go, lc_go, iRng1, iRng2, iSeq, tSl, tPart, tNoPart, tRaiseA, tAttr, List.getElem?_cons_zero, List.getElem?_cons_succ, List.set_cons_zero, List.set_cons_succ, Option.some.injEq, exists_eq_left']
      refine ⟨.inl ⟨rfl, _, .inl (.inl P8.e3)⟩, ?_⟩
      refine tup_of_lst e8 fun b hb => ?_
      have P9 := P8.new (o := .tup (xs.map V.int)) hb
      have lb2 : (bs.map V.ref).length ≤ 1000 := by rw [List.length_map]; omega
      refine app_list P9.e3 lb2 ⟨bs ++ [b], g ++ [xs], by rw [List.length_append, lb]; rfl, fun r hr => ?_, (P9.row upd_same).mono (by omega), _, _, _, rfl⟩
      rcases List.mem_append.mp hr with z | z
      · exact hg r z
      · rw [List.mem_singleton.mp z]
        exact ⟨by omega, hx⟩
  · rintro σ H7 ⟨bs, g, lb, hg, P, o7, o8, o9, rfl⟩
    simp only [tSeq, tWhile, tAnd, tOr, tNot, tTest, tTru, tOp, tUn, tVar, tC, tLst, tTup, tNil, tAsg, tBM, tBM0, tCons, gSub, tIfS, tCB, gName, tRet, tRetN, tNext, tIf, tFn, tDrop, tRaise0, tAndT, tOrT, tNotT, tChain, tAug, tPar, tPar3, for_go, lc_go, iRng1, iRng2, iSeq, tSl, tPart, tNoPart, tRaiseA, tAttr, List.getElem?_cons_zero, List.getElem?_cons_succ, List.set_cons_zero, List.set_cons_succ, Option.some.injEq, exists_eq_left']
    refine tup_of_lst P.e3 fun r hr => ?_
    have P9 := P.new (o := .tup (bs.map V.ref)) hr
    refine q r g _ (dr_z P.f hr (drw_ne P.d hr).1 (drw_ne P.d hr).2.1) ⟨bs, upd_same, P9.er.1, P9.er.2⟩ ⟨by rw [← P9.er.1]; omega, fun r hr => (hg r hr).1, fun r hr => (hg r hr).2⟩ (P9.d.mono (by omega)) P9.f
end
end K03

set_option Elab.async false
set_option linter.all false
set_option maxRecDepth 100000
set_option maxHeartbeats 8000000
namespace K03
open PySem PySem.Spec PyProof.Rows L2 LamX G Pk
/-- rows of one's own in a list of one's own -/
structure Ln (H0 : Hp) (st La Ca L : Addr) (ls : List Addr) (w m : Int) (pv : V → Prop) (t : Int) (H : Hp) : Prop where
  d : Drw st La Ca H t
  f : Dr st La H0 H
  e : H L = some (.lst (ls.map V.ref))
  n : L ≠ st ∧ L ≠ La ∧ L ≠ Ca
  z : H0 L = none
  r : ∀ b ∈ ls, b ≠ L ∧ (b ≠ st ∧ b ≠ La ∧ b ≠ Ca) ∧ H0 b = none ∧ ∃ xs, H b = some (.lst xs) ∧ w ≤ xs.length ∧ xs.length ≤ m ∧ ∀ v ∈ xs, pv v
section
variable {H0 H H1 : Hp} {st La Ca L : Addr} {ls : List Addr} {w m m2 t u : Int} {pv pw : V → Prop}
theorem Ln.dr (P : Ln H0 st La Ca L ls w m pv t H) (d : Drw st La Ca H1 u) (f : Dr st La H H1) : Ln H0 st La Ca L ls w m pv u H1 where
  d := d
  f := P.f.trans f
  e := f _ _ P.e P.n.1 P.n.2.1
  n := P.n
  z := P.z
  r := fun b hb => by
    obtain ⟨h1, h2, h3, xs, h4, h5⟩ := P.r b hb
    exact ⟨h1, h2, h3, xs, f _ _ h4 h2.1 h2.2.1, h5⟩
theorem Ln.weak (P : Ln H0 st La Ca L ls w m pv t H) (h : ∀ v, pv v → pw v) (hm : m ≤ m2) : Ln H0 st La Ca L ls w m2 pw t H where
  d := P.d
  f := P.f
  e := P.e
  n := P.n
  z := P.z
  r := fun b hb => by
    obtain ⟨h1, h2, h3, xs, h4, h5, h6, h7⟩ := P.r b hb
    exact ⟨h1, h2, h3, xs, h4, h5, by omega, fun v hv => h v (h7 v hv)⟩
theorem Ln.mono (P : Ln H0 st La Ca L ls w m pv t H) (h : t ≤ u) : Ln H0 st La Ca L ls w m pv u H := { P with d := P.d.mono h }
theorem Ln.new {q : Addr} {o : HO} (P : Ln H0 st La Ca L ls w m pv t H) (h : H q = none) : Ln H0 st La Ca L ls w m pv t (upd H q o) := P.dr (P.d.new h) ((Dr.refl _ _ _).new h)
/-- a row is written -/
theorem Ln.put {b : Addr} {ys : List V} (P : Ln H0 st La Ca L ls w m pv t H) (hb : b ∈ ls) (l0 : w ≤ ys.length) (l1 : ys.length ≤ m) (hy : ∀ v ∈ ys, pv v) : Ln H0 st La Ca L ls w m pv t (upd H b (.lst ys)) := by
  obtain ⟨h1, h2, h3, _⟩ := P.r b hb
  exact {
    d := drw_put P.d h2.1 h2.2.1 h2.2.2
    f := dr_over P.f h3
    e := by rw [upd_ne (Ne.symm h1)]; exact P.e
    n := P.n
    z := P.z
    r := fun c hc => by
      obtain ⟨k1, k2, k3, xs, k4⟩ := P.r c hc
      refine ⟨k1, k2, k3, ?_⟩
      by_cases e : c = b
      · rw [e]
        exact ⟨ys, upd_same, l0, l1, hy⟩
      · rw [upd_ne e]
        exact ⟨xs, k4⟩ }
/-- other rows of these -/
theorem Ln.rows {ks : List Addr} (P : Ln H0 st La Ca L ls w m pv t H) (hk : ∀ b ∈ ks, b ∈ ls) : Ln H0 st La Ca L ks w m pv t (upd H L (.lst (ks.map V.ref))) where
  d := drw_put P.d P.n.1 P.n.2.1 P.n.2.2
  f := dr_over P.f P.z
  e := upd_same
  n := P.n
  z := P.z
  r := fun b hb => by
    obtain ⟨h1, h2, h3, xs, h4⟩ := P.r b (hk b hb)
    refine ⟨h1, h2, h3, xs, ?_, h4.2⟩
    rw [upd_ne h1]
    exact h4.1
end
/-- a row of tuples of scalars -/
def TpAt (H : Hp) (ts : List Addr) (w : Int) : Prop := ∀ b ∈ ts, ∃ xs, H b = some (.tup xs) ∧ (xs.length : Int) ≤ w + 1 ∧ ∀ v ∈ xs, scV v = true
section
variable {K : PySem.W.Frag} {cells : List (Str × Addr)} {acts : Acts} {T : List (Addr × Str)} {pt : Option Addr} {vs : List V} {H0 H H1 : Hp} {Q : VK} {E : XK} {st La Ca L : Addr} {ls : List Addr} {w m m2 t u : Int} {pv pw : V → Prop}
theorem TpAt.th {ts : List Addr} {a : Addr} (h : TpAt H ts w) (e : H a = some (.tup (ts.map V.ref))) (hl : ts.length ≤ 100) (hw : w ≤ 90) : ∃ th, ThAt H (.ref a) th ∧ ThS th := by
  obtain ⟨rs, h1, h2⟩ : ∃ rs : List Rw, RwsAt H (ts.map V.ref) rs ∧ ∀ r ∈ rs, rwS r := by
    clear e hl
    induction ts with
    | nil => exact ⟨[], ⟨rfl, fun i v r e => by simp at e⟩, fun r hr => (nomatch hr)⟩
    | cons b ts ih =>
      obtain ⟨rs, h1, h2⟩ := ih fun c hc => h c (List.mem_cons_of_mem _ hc)
      obtain ⟨xs, k1, k2, k3⟩ := h b List.mem_cons_self
      refine ⟨some xs :: rs, ⟨by rw [List.map_cons, List.length_cons, List.length_cons, h1.1], fun i v r e1 e2 => ?_⟩, fun r hr => ?_⟩
      · cases i with
        | zero =>
          cases e1
          cases e2
          exact ⟨b, rfl, k1, k3⟩
        | succ i => exact h1.2 i v r e1 e2
      · rcases List.mem_cons.mp hr with rfl | hr
        · show xs.length ≤ 100
          omega
        · exact h2 r hr
  exact ⟨some rs, ⟨a, _, rfl, e, h1⟩, by rw [← h1.1, List.length_map]; exact hl, h2⟩
/-- a tuple of each row -/
theorem lc_rows {σ : L2.St} (P : Ln H0 st La Ca L ls w (w + 1) (fun v => scV v = true) t H) (hl : ls.length ≤ 100) (hσ : 5 < σ.length) (q : ∀ D ts H', H D = none → Same H H' → H' D = some (.lst (ts.map V.ref)) → ts.length = ls.length → TpAt H' ts w → Q (.ref D) H') :
    LcGo (Itl K L) (gName 5) tYes (tCB (G.rTupOf K) (tCons (tVar 5) tNil)) [5] σ Q H := by
  refine lc_list (ls.map V.ref) (fun D i acc H' => H D = none ∧ Same H H' ∧ ∃ ts : List Addr, acc = ts.map V.ref ∧ ts.length = i ∧ TpAt H' ts w) (fun D hD => ⟨hD, same_new (Same.refl _) hD, [], rfl, rfl, fun b hb => (nomatch hb)⟩) (fun D i acc H' h => .inl (.inl (h.2.1 _ _ P.e))) ?_ ?_
  · rintro D i acc H' x hx hA hz ⟨hD, sD, ts, rfl, lts, hts⟩
    rw [List.getElem?_map] at hx
    obtain ⟨b, hb, rfl⟩ := Option.map_eq_some_iff.mp hx
    have mb : b ∈ ls := List.mem_of_getElem? hb
    obtain ⟨_, _, _, xs, e, l0, l1, hs⟩ := P.r b mb
    have hi : i < ls.length := (List.getElem?_eq_some_iff.mp hb).1
    refine ⟨V.ref b, ?_, ?_⟩
    · show ((σ.set 5 none).set 5 (some (V.ref b)))[5]? = _
      rw [List.getElem?_set_self (by rw [List.length_set]; exact hσ)]
    simp only [tNil]
    refine tup_of_lst (sD _ _ e) fun p hp => ?_
    have npD : p ≠ D := fun e => by rw [e, hA] at hp; cases hp
    refine Lp.put (keep_new hA hp) hz (by omega) ⟨hD, same_put (sD.trans (same_new (Same.refl _) hp)) hD, ts ++ [p], by rw [List.map_append]; rfl, by rw [List.length_append, lts]; rfl, fun c hc => ?_⟩
    rcases List.mem_append.mp hc with hc | hc
    · obtain ⟨ys, z1, z2⟩ := hts c hc
      refine ⟨ys, ?_, z2⟩
      rw [upd_ne (fun e => by rw [e, hA] at z1; cases z1)]
      exact keep_new z1 hp
    · rw [List.mem_singleton.mp hc]
      refine ⟨xs, ?_, l1, hs⟩
      rw [upd_ne npD, upd_same]
  · rintro D acc H' hl2 hA ⟨hD, sD, ts, rfl, lts, hts⟩
    rw [List.length_map] at lts
    exact q D ts H' hD sD hA lts hts
/-- a list of each row of a plane -/
theorem lc_lists {σ : L2.St} {q0 : Addr} {g : List (List Int)} (d : Drw st La Ca H t) (hp : PlAt H q0 g) (hg : ∀ r ∈ g, (r.length : Int) = w) (hl : g.length ≤ 100) (hσ : 5 < σ.length) (q : ∀ D ls H', ls.length = g.length → Ln H st La Ca D ls w w (fun v => ∃ i, v = .int i) t H' → Q (.ref D) H') :
    LcGo (Itt K q0) (gName 5) tYes (tCB (G.rListOf K) (tCons (tVar 5) tNil)) [5] σ Q H := by
  obtain ⟨bs, ep, lb, hrows⟩ := hp
  refine lc_tup (bs.map V.ref) (fun D i acc H' => H D = none ∧ Same H H' ∧ ∃ ls : List Addr, acc = ls.map V.ref ∧ ls.length = i ∧ ∀ b ∈ ls, b ≠ D ∧ (b ≠ st ∧ b ≠ La ∧ b ≠ Ca) ∧ H b = none ∧ ∃ xs, H' b = some (.lst xs) ∧ w ≤ xs.length ∧ xs.length ≤ w ∧ ∀ v ∈ xs, ∃ i, v = V.int i)
    (fun D hD => ⟨hD, same_new (Same.refl _) hD, [], rfl, rfl, fun b hb => (nomatch hb)⟩) (fun D i acc H' h => .inl (.inl (h.2.1 _ _ ep))) ?_ ?_
  · rintro D i acc H' x hx hA hz ⟨hD, sD, ls, rfl, lts, hts⟩
    rw [List.getElem?_map] at hx
    obtain ⟨b, hb, rfl⟩ := Option.map_eq_some_iff.mp hx
    have hi : i < bs.length := (List.getElem?_eq_some_iff.mp hb).1
    have hr := hrows i b g[i] hb (List.getElem?_eq_getElem (by omega))
    have wr := hg g[i] (List.getElem_mem (by omega))
    refine ⟨V.ref b, ?_, b, (g[i].map V.int), rfl, .inr (.inl (.inl (sD _ _ hr))), fun p hp => ?_⟩
    · show ((σ.set 5 none).set 5 (some (V.ref b)))[5]? = _
      rw [List.getElem?_set_self (by rw [List.length_set]; exact hσ)]
    have npD : p ≠ D := fun e => by rw [e, hA] at hp; cases hp
    refine Lp.put (keep_new hA hp) hz (by omega) ⟨hD, same_put (sD.trans (same_new (Same.refl _) hp)) hD, ls ++ [p], by rw [List.map_append]; rfl, by rw [List.length_append, lts]; rfl, fun c hc => ?_⟩
    rcases List.mem_append.mp hc with hc | hc
    · obtain ⟨z0, z1, z2, ys, z3, z4⟩ := hts c hc
      refine ⟨z0, z1, z2, ys, ?_, z4⟩
      rw [upd_ne z0]
      exact keep_new z3 hp
    · rw [List.mem_singleton.mp hc]
      have d2 := drw_same d sD
      refine ⟨npD, drw_ne d2 hp, fresh_of sD hp, g[i].map V.int, ?_, by rw [List.length_map]; omega, by rw [List.length_map]; omega, fun v hv => ?_⟩
      · rw [upd_ne npD, upd_same]
      · obtain ⟨z, _, rfl⟩ := List.mem_map.mp hv
        exact ⟨z, rfl⟩
  · rintro D acc H' hl2 hA ⟨hD, sD, ls, rfl, lts, hts⟩
    rw [List.length_map] at lts
    exact q D ls H' (by omega) { d := drw_same d sD, f := same_dr sD, e := hA, n := drw_ne d hD, z := hD, r := hts }
/-- if x == m: .. else .. -/
theorem ifs_eq {i : Nat} {n m : Int} {a b : TS} {D : Ends} {σ : L2.St} (e : σ[i]? = some (some (.int n))) (h1 : n = m → a D σ H) (h2 : n ≠ m → b D σ H) : tIfS (tTest (tOp (G.rCmp K .Eq) (tVar i) (tC (.int m)))) a b D σ H := by
  simp only [tIfS, tTest, tOp, tVar, tC, e, Option.some.injEq, exists_eq_left']
  refine eq_int ⟨_, rfl, ?_⟩
  by_cases c : n = m
  · rw [if_pos (decide_eq_true c)]
    exact h1 c
  · rw [if_neg (by simp [c])]
    exact h2 c
theorem ok__law_bent (h : sp_bent vs H Q E) : vs.length = 3 ∧ t__law_bent K cells acts T pt (Ww E) (Dd Q) (L2.start ["_law_state", "_law_scope_here", "_law_pane_here", "_law_lines", "_law_fashion", "_law_line", "_law_spot", "_law_dot"] vs) H := by
  obtain ⟨st, La, Ca, p, q0, t, h, w, lo, hi, g, rfl, tl, d, sc, pl, pg, q⟩ := h
  obtain ⟨_, _, h1, h16, w1, w16, lo0, lohi, hi5⟩ := id sc
  refine ⟨rfl, ?_⟩
  rw [show L2.start ["_law_state", "_law_scope_here", "_law_pane_here", "_law_lines", "_law_fashion", "_law_line", "_law_spot", "_law_dot"] [V.ref st, V.ref p, V.ref q0] = [some (.ref st), some (.ref p), some (.ref q0), none, none, none, none, none] from rfl]
  unfold t__law_bent
  generalize hR : (tRet (tCB (G.rTupOf K) (tCons (tLc (iSeq K (tVar 3)) (gName 5) tYes (tCB (G.rTupOf K) (tCons (tVar 5) tNil)) [5]) tNil))) = R
  refine sq_par ?_
  simp only [tWhile, tAnd, tOr, tNot, tTest, tTru, tOp, tUn, tVar, tC, tLst, tTup, tNil, tBM, tBM0, tCons, gSub, tCB, gName, tIf, tFn, tAndT, tOrT, tNotT, tChain, lc_go, iRng1, iRng2, iSeq, tSl, tPart, tNoPart, tAttr, List.getElem?_cons_zero, List.getElem?_cons_succ, List.set_cons_zero, List.set_cons_succ, Option.some.injEq, exists_eq_left']
  obtain ⟨bs, ep, _⟩ := id pl
  have lg := pg.h
  refine .inr (.inl ⟨_, rfl, q0, rfl, ⟨_, .inl (.inl ep)⟩, ?_⟩)
  refine lc_lists d pl pg.w (by omega) (Nat.le_of_ble_eq_true rfl) fun L ls H1 lls P1 => ?_
  refine ⟨rfl, rfl, st, La, Ca, 8, t, rfl, by decide, by decide, by omega, P1.d, fun f H2 f0 f8 d2 r2 => ⟨_, _, rfl, ?_⟩⟩
  have P2 := P1.dr d2 r2
  refine sq_par ?_
  simp only [tWhile, tAnd, tOr, tNot, tTest, tTru, tOp, tUn, tVar, tC, tLst, tTup, tNil, tBM, tBM0, tCons, gSub, tCB, gName, tIf, tFn, tAndT, tOrT, tNotT, tChain, lc_go, iRng1, iRng2, iSeq, tSl, tPart, tNoPart, tAttr, List.getElem?_cons_zero, List.getElem?_cons_succ, List.set_cons_zero, List.set_cons_succ, Option.some.injEq, exists_eq_left']
  have l0 : 0 < ls.length := by omega
  refine .inl ⟨_, _, rfl, .inl ⟨_, .inl (.inl P2.e), rfl⟩, ?_⟩
  rw [List.length_map]
  refine ⟨rfl, rfl, st, La, Ca, _, _, rfl, by omega, by omega, by omega, P2.d, fun sp H3 sp0 spl d3 r3 => ?_⟩
  have P3 := P2.dr d3 r3
  have sc3 := sc.keep d P3.f.n
  refine sc_wide sc3 ⟨rfl, rfl, st, La, Ca, _, _, rfl, by omega, by omega, by omega, d3, fun dt H4 dt0 dtl d4 r4 => ⟨_, _, rfl, ?_⟩⟩
  have P4 := (P3.dr d4 r4).mono (u := t + 5) (by omega)
  have sc4 := sc.keep d P4.f.n
  -- the last row of the def
  have fin : ∀ (ks : List Addr) (u : Int) (H5 : Hp), u ≤ t + 10 → ks.length ≤ 17 → Ln H st La Ca L ks w (w + 1) (fun v => scV v = true) u H5 →
      R (Dd Q) [some (.ref st), some (.ref p), some (.ref q0), some (.ref L), some (.int f), none, some (.int sp), some (.int dt)] H5 := by
    rw [← hR]
    intro ks u H5 hu lks P5
    simp only [tWhile, tAnd, tOr, tNot, tTest, tTru, tOp, tUn, tVar, tC, tLst, tTup, tNil, tBM, tBM0, tCons, gSub, tCB, gName, tIf, tFn, tAndT, tOrT, tNotT, tChain, lc_go, iRng1, iRng2, iSeq, tSl, tPart, tNoPart, tAttr, List.getElem?_cons_zero, List.getElem?_cons_succ, List.set_cons_zero, List.set_cons_succ, Option.some.injEq, exists_eq_left', tRet]
    refine .inl ⟨_, rfl, L, rfl, ⟨_, .inl (.inl P5.e)⟩, ?_⟩
    refine lc_rows P5 (by omega) (Nat.le_of_ble_eq_true rfl) fun D ts H6 hD s6 e6 lts h6 => ?_
    refine tup_of_lst e6 fun a ha => ?_
    obtain ⟨th, k1, k2⟩ := TpAt.th (H := upd H6 a (.tup (ts.map V.ref))) (ts := ts) (a := a) (w := w) (fun b hb => by
      obtain ⟨xs, z1, z2⟩ := h6 b hb
      exact ⟨xs, keep_new z1 ha, z2⟩) upd_same (by omega) (by omega)
    have s7 : Same H5 (upd H6 a (.tup (ts.map V.ref))) := s6.trans (same_new (Same.refl _) ha)
    exact q _ th _ k1 k2 ((drw_same P5.d s7).mono (by omega)) (P5.f.trans (same_dr s7))
  have ty4 : tyV K "list" (.ref L) H4 := .inl ⟨rfl, _, .inl (.inl P4.e)⟩
  have lsp : sp.toNat < ls.length := by omega
  have S4 := P4.weak (pw := fun v => scV v = true) (m2 := w + 1) (fun v ⟨i, e⟩ => by rw [e]; rfl) (by omega)
  have m4 : ls[sp.toNat] ∈ ls := List.getElem_mem lsp
  obtain ⟨_, nb, _, xs, eb, xl0, xl1, hxs⟩ := P4.r _ m4
  have eL : (ls.map V.ref)[sp.toNat]? = some (.ref ls[sp.toNat]) := by rw [List.getElem?_map, List.getElem?_eq_getElem lsp]; rfl
  have dtx : dt.toNat < xs.length := by omega
  have ixd : ixN xs.length dt = some dt.toNat := by
    unfold ixN
    rw [if_pos dt0, if_pos (by omega)]
  -- a row is put
  have put : ∀ (v : V) (u : Int) (H5 : Hp) , u ≤ t + 10 → scV v = true → Ln H st La Ca L ls w (w + 1) (fun v => scV v = true) u H5 → H5 ls[sp.toNat] = some (.lst xs) →
      G.rSub2 K (.ref L) (.int sp) H5 fun o H6 => G.rPut o (.int dt) v H6 fun H7 => R (Dd Q) [some (.ref st), some (.ref p), some (.ref q0), some (.ref L), some (.int f), none, some (.int sp), some (.int dt)] H7 := by
    intro v u H5 hu hv P5 e5
    refine ix_ok (.inl (.inl P5.e)) sp0 eL (.inl ⟨_, xs, dt, dt.toNat, rfl, rfl, e5, ixd, ?_⟩)
    refine fin ls u _ hu (by omega) (P5.put m4 (by rw [List.length_set]; exact xl0) (by rw [List.length_set]; omega) fun y hy => ?_)
    rcases List.mem_or_eq_of_mem_set hy with hy | rfl
    · obtain ⟨i, rfl⟩ := hxs y hy
      rfl
    · exact hv
  refine sq_st (ifs_eq rfl (fun _ => ?_) fun _ => ifs_eq rfl (fun _ => ?_) fun _ => ifs_eq rfl (fun _ => ?_) fun _ => ifs_eq rfl (fun _ => ?_) fun _ => ifs_eq rfl (fun _ => ?_) fun _ => ifs_eq rfl (fun _ => ?_) fun _ => ?_)
  · simp only [tSeq, tWhile, tAnd, tOr, tNot, tTest, tTru, tOp, tUn, tVar, tC, tLst, tTup, tNil, tAsg, tBM, tBM0, tCons, gSub, tIfS, tCB, gName, tRet, tRetN, tNext, tIf, tFn, tDrop, tRaise0, tAndT, tOrT, tNotT, tChain, tAug, tPar, tPar3, for_go, lc_go, iRng1, iRng2, iSeq, tSl, tPart, tNoPart, tRaiseA, tAttr, List.getElem?_cons_zero, List.getElem?_cons_succ, List.set_cons_zero, List.set_cons_succ, Option.some.injEq, exists_eq_left']
    refine sc_most sc4 (G.add_int (K := K) (sc_least sc4 (G.sub_int (K := K) ⟨small rfl, fun nl hnl => ⟨rfl, rfl, pick_new P4.d (by omega) hnl (Nat.le_of_ble_eq_true rfl) (Nat.le_of_ble_eq_true rfl) fun x H5 hx d5 r5 => ?_⟩⟩)))
    have sx : scV x = true := by
      simp only [List.mem_cons, List.not_mem_nil, or_false] at hx
      rcases hx with rfl | rfl | rfl | rfl
      · rfl
      · rfl
      · rfl
      · kernel_rfl
    exact put x _ H5 (by omega) sx (S4.dr d5 r5) (r5 _ _ eb nb.1 nb.2.1)
  · simp only [tSeq, tWhile, tAnd, tOr, tNot, tTest, tTru, tOp, tUn, tVar, tC, tLst, tTup, tNil, tAsg, tBM, tBM0, tCons, gSub, tIfS, tCB, gName, tRet, tRetN, tNext, tIf, tFn, tDrop, tRaise0, tAndT, tOrT, tNotT, tChain, tAug, tPar, tPar3, for_go, lc_go, iRng1, iRng2, iSeq, tSl, tPart, tNoPart, tRaiseA, tAttr, List.getElem?_cons_zero, List.getElem?_cons_succ, List.set_cons_zero, List.set_cons_succ, Option.some.injEq, exists_eq_left']
    obtain ⟨n, hn⟩ := hxs xs[dt.toNat] (List.getElem_mem dtx)
    have ed : xs[dt.toNat]? = some (.int n) := by rw [List.getElem?_eq_getElem dtx, hn]
    refine ix_ok (.inl (.inl P4.e)) sp0 eL (ix_ok (.inl (.inl eb)) dt0 ed (eq_int ?_))
    exact put _ _ H4 (by omega) rfl S4 eb
  · simp only [tSeq, tWhile, tAnd, tOr, tNot, tTest, tTru, tOp, tUn, tVar, tC, tLst, tTup, tNil, tAsg, tBM, tBM0, tCons, gSub, tIfS, tCB, gName, tRet, tRetN, tNext, tIf, tFn, tDrop, tRaise0, tAndT, tOrT, tNotT, tChain, tAug, tPar, tPar3, for_go, lc_go, iRng1, iRng2, iSeq, tSl, tPart, tNoPart, tRaiseA, tAttr, List.getElem?_cons_zero, List.getElem?_cons_succ, List.set_cons_zero, List.set_cons_succ, Option.some.injEq, exists_eq_left']
    refine ⟨ty4, ix_ok (v := .ref ls[0]) (.inl (.inl P4.e)) (by decide) (by show (ls.map V.ref)[0]? = _; rw [List.getElem?_map, List.getElem?_eq_getElem l0]; rfl) (app_list P4.e (by rw [List.length_map]; omega) ?_)⟩
    have e2 : ls.map V.ref ++ [V.ref ls[0]] = (ls ++ [ls[0]]).map V.ref := by rw [List.map_append]; rfl
    rw [e2]
    refine fin (ls ++ [ls[0]]) _ _ (by omega) (by rw [List.length_append, List.length_singleton]; omega) (S4.rows fun b hb => ?_)
    rcases List.mem_append.mp hb with hb | hb
    · exact hb
    · rw [List.mem_singleton.mp hb]
      exact List.getElem_mem l0
  · simp only [tSeq, tWhile, tAnd, tOr, tNot, tTest, tTru, tOp, tUn, tVar, tC, tLst, tTup, tNil, tAsg, tBM, tBM0, tCons, gSub, tIfS, tCB, gName, tRet, tRetN, tNext, tIf, tFn, tDrop, tRaise0, tAndT, tOrT, tNotT, tChain, tAug, tPar, tPar3, for_go, lc_go, iRng1, iRng2, iSeq, tSl, tPart, tNoPart, tRaiseA, tAttr, List.getElem?_cons_zero, List.getElem?_cons_succ, List.set_cons_zero, List.set_cons_succ, Option.some.injEq, exists_eq_left']
    refine ix_ok (.inl (.inl P4.e)) sp0 eL ⟨.inl ⟨rfl, _, .inl (.inl eb)⟩, sc_least sc4 (app_list eb (by omega) ?_)⟩
    refine fin ls _ _ (by omega) (by omega) (S4.put m4 (by rw [List.length_append, List.length_singleton]; omega) (by rw [List.length_append, List.length_singleton]; omega) fun y hy => ?_)
    rcases List.mem_append.mp hy with hy | hy
    · obtain ⟨i, rfl⟩ := hxs y hy
      rfl
    · rw [List.mem_singleton.mp hy]
      rfl
  · simp only [tSeq, tWhile, tAnd, tOr, tNot, tTest, tTru, tOp, tUn, tVar, tC, tLst, tTup, tNil, tAsg, tBM, tBM0, tCons, gSub, tIfS, tCB, gName, tRet, tRetN, tNext, tIf, tFn, tDrop, tRaise0, tAndT, tOrT, tNotT, tChain, tAug, tPar, tPar3, for_go, lc_go, iRng1, iRng2, iSeq, tSl, tPart, tNoPart, tRaiseA, tAttr, List.getElem?_cons_zero, List.getElem?_cons_succ, List.set_cons_zero, List.set_cons_succ, Option.some.injEq, exists_eq_left']
    refine tup_of_lst P4.e fun p1 hp1 => ?_
    have P5 := S4.new (o := .tup (ls.map V.ref)) hp1
    refine .inl ⟨_, rfl, L, rfl, ⟨_, .inl (.inl P5.e)⟩, ?_⟩
    refine lc_rows P5 (by omega) (Nat.le_of_ble_eq_true rfl) fun D ts H6 hD s6 e6 lts h6 => ?_
    have P6 := P5.dr (drw_same P5.d s6) (same_dr s6)
    refine ⟨small rfl, fun p2 hp2 => fun p3 hp3 => ⟨small rfl, fun nl hnl => ⟨rfl, rfl, ?_⟩⟩⟩
    have P7 := P6.new (o := .tup []) hp2
    have P8 := P7.new (o := .dK []) hp3
    refine pick_new P8.d (by omega) hnl (Nat.le_of_ble_eq_true rfl) (Nat.le_of_ble_eq_true rfl) fun x H9 hx d9 r9 => ?_
    have P9 := P8.dr d9 r9
    have at8 : ∀ {a : Addr} {o : HO}, H6 a = some o → (upd (upd H6 p2 (.tup [])) p3 (.dK [])) a = some o := fun e => keep_new (keep_new e hp2) hp3
    have q9 : ∀ th, ThAt H9 x th → ThS th → Q x H9 := fun th k1 k2 => q x th H9 k1 k2 (P9.d.mono (by omega)) P9.f
    have k9 : ∀ {a : Addr} {xs : List V}, H6 a = some (.tup xs) → H9 a = some (.tup xs) := fun e => P8.d.keepT r9.n (at8 e)
    have mD : D ≠ st ∧ D ≠ La ∧ D ≠ Ca := drw_ne P5.d hD
    have m1 : p1 ≠ st ∧ p1 ≠ La ∧ p1 ≠ Ca := drw_ne P4.d hp1
    have m3 : p3 ≠ st ∧ p3 ≠ La ∧ p3 ≠ Ca := drw_ne P7.d hp3
    simp only [List.mem_cons, List.not_mem_nil, or_false] at hx
    rcases hx with rfl | rfl | rfl | rfl | rfl | rfl | rfl
    · exact q9 none (.inr ⟨L, rfl, .inl ⟨_, P9.e⟩⟩) trivial
    · have e1 : H9 p1 = some (.tup (ls.map V.ref)) := k9 (s6 _ _ upd_same)
      refine q9 (some (ls.map fun _ => none)) ⟨p1, _, rfl, e1, by rw [List.length_map, List.length_map], fun i v r h1 h2 => ?_⟩ ⟨by rw [List.length_map]; omega, fun r hr => ?_⟩
      · rw [List.getElem?_map] at h1 h2
        obtain ⟨b, hb, rfl⟩ := Option.map_eq_some_iff.mp h1
        obtain ⟨c, hc, rfl⟩ := Option.map_eq_some_iff.mp h2
        obtain ⟨_, _, _, ys, ey, _⟩ := P9.r b (List.mem_of_getElem? hb)
        exact .inr ⟨b, rfl, .inl ⟨ys, ey⟩⟩
      · obtain ⟨b, _, rfl⟩ := List.mem_map.mp hr
        trivial
    · exact q9 none (.inr ⟨D, rfl, .inl ⟨_, r9 _ _ (at8 e6) mD.1 mD.2.1⟩⟩) trivial
    · exact q9 none (.inl rfl) trivial
    · exact q9 (some []) ⟨p2, [], rfl, P8.d.keepT r9.n (keep_new upd_same hp3), rfl, fun i v r e => by simp at e⟩ ⟨Nat.zero_le _, fun r hr => (nomatch hr)⟩
    · exact q9 none (.inl (by kernel_rfl)) trivial
    · exact q9 none (.inr ⟨p3, rfl, .inr ⟨_, r9 _ _ upd_same m3.1 m3.2.1⟩⟩) trivial
  · simp only [tSeq, tWhile, tAnd, tOr, tNot, tTest, tTru, tOp, tUn, tVar, tC, tLst, tTup, tNil, tAsg, tBM, tBM0, tCons, gSub, tIfS, tCB, gName, tRet, tRetN, tNext, tIf, tFn, tDrop, tRaise0, tAndT, tOrT, tNotT, tChain, tAug, tPar, tPar3, for_go, lc_go, iRng1, iRng2, iSeq, tSl, tPart, tNoPart, tRaiseA, tAttr, List.getElem?_cons_zero, List.getElem?_cons_succ, List.set_cons_zero, List.set_cons_succ, Option.some.injEq, exists_eq_left']
    refine ⟨ty4, L, _, .ref (ls[ls.length - 1]'(by omega)), rfl, rfl, P4.e, ?_, ?_⟩
    · rw [List.length_map, List.getElem?_map, List.getElem?_eq_getElem (by omega)]
      rfl
    · rw [← List.map_dropLast]
      exact fin ls.dropLast _ _ (by omega) (by rw [List.length_dropLast]; omega) (S4.rows fun b hb => (List.dropLast_sublist _).subset hb)
  · simp only [tSeq, tWhile, tAnd, tOr, tNot, tTest, tTru, tOp, tUn, tVar, tC, tLst, tTup, tNil, tAsg, tBM, tBM0, tCons, gSub, tIfS, tCB, gName, tRet, tRetN, tNext, tIf, tFn, tDrop, tRaise0, tAndT, tOrT, tNotT, tChain, tAug, tPar, tPar3, for_go, lc_go, iRng1, iRng2, iSeq, tSl, tPart, tNoPart, tRaiseA, tAttr, List.getElem?_cons_zero, List.getElem?_cons_succ, List.set_cons_zero, List.set_cons_succ, Option.some.injEq, exists_eq_left']
    refine ⟨rfl, rfl, st, La, Ca, p, _, h, w, lo, hi, rfl, by omega, P4.d, sc4, fun n H5 n0 n1 d5 r5 => ?_⟩
    exact put (.int n) _ H5 (by omega) rfl (S4.dr d5 r5) (r5 _ _ eb nb.1 nb.2.1)
end
end K03

set_option Elab.async false
set_option linter.all false
set_option maxRecDepth 100000
set_option maxHeartbeats 8000000
namespace K03
open PySem PySem.Spec PyProof.Rows L2 LamX G Pk
section
variable {K : PySem.W.Frag} {cells : List (Str × Addr)} {acts : Acts} {T : List (Addr × Str)} {pt : Option Addr} {vs : List V} {H H1 : Hp} {Q : VK} {E : XK} {h w lo hi : Int}
/-- a plane is turned -/
theorem turned_go {E : XK} {p : Addr} {g : List (List Int)} {v : V} (hp : PlAt H p g) (hg : PlIn g h w lo hi) (h1 : 1 ≤ h) (h16 : h ≤ 16) (w1 : 1 ≤ w) (w16 : w ≤ 16) (l0 : -512 ≤ lo) (l1 : hi ≤ 511) (hv : wayB v = true) (sv : scV v = true)
    (q : ∀ r H', H r = none → Same H H' → PlAt H' r (turnG v g) → Q (.ref r) H') : sp_turned K [.ref p, v] H Q E := by
  have ha := any_in hg h1 h16 w1 w16 l0 l1
  refine ⟨.ref p, v, thOf g, rfl, hp.th, ths_in hg h16 w16, sv, fun c => ?_, fun _ c => ?_, fun p2 g2 e1 e2 hp2 _ => ?_⟩
  · rw [ha] at c
    cases c
  · rw [hv] at c
    cases c
  · cases e1
    have e3 : g = g2 := by
      unfold thOf at e2
      exact (List.map_inj_right (fun a b hab => (List.map_inj_right (fun i j hij => by cases hij; rfl)).mp (Option.some.inj hab))).mp (Option.some.inj e2)
    rw [← e3]
    exact q
theorem way_up : wayB (.str "upside") = true := by decide
theorem way_side : wayB (.str "sideways") = true := by decide
theorem way_corner : wayB (.str "corner") = true := by decide
theorem sc_up : scV (.str "upside") = true := by kernel_rfl
theorem sc_side : scV (.str "sideways") = true := by kernel_rfl
theorem sc_corner : scV (.str "corner") = true := by kernel_rfl
theorem ok__law_turned_right (h : sp_turned_right vs H Q E) : vs.length = 3 ∧ t__law_turned_right K cells acts T pt (Ww E) (Dd Q) (L2.start ["_law_state", "_law_scope_here", "_law_pane_here", "_law_tall", "_law_wide", "_law_ups", "_law_x", "_law_y", "_law_sides", "_law_corners", "_law_told", "_law_fashion"] vs) H := by
  obtain ⟨st, p, q0, h, w, lo, hi, g, rfl, sc, pl, pg, q⟩ := h
  obtain ⟨_, _, h1, h16, w1, w16, lo0, lohi, hi5⟩ := id sc
  refine ⟨rfl, ?_⟩
  rw [show L2.start ["_law_state", "_law_scope_here", "_law_pane_here", "_law_tall", "_law_wide", "_law_ups", "_law_x", "_law_y", "_law_sides", "_law_corners", "_law_told", "_law_fashion"] [V.ref st, V.ref p, V.ref q0] = [some (.ref st), some (.ref p), some (.ref q0), none, none, none, none, none, none, none, none, none] from rfl]
  unfold t__law_turned_right
  obtain ⟨n, m, f, rfl, rfl, eg, hf⟩ := grid_of pg (by omega) (by omega)
  subst eg
  have tg : ∀ {n m : Nat} {f : Nat → Nat → Int} {E : XK} {p : Addr} {v : V} {H : Hp} {Q : VK}, PlAt H p (gridZ n m f) → (∀ i j, i < n → j < m → lo ≤ f i j ∧ f i j ≤ hi) → (1 : Int) ≤ n → (n : Int) ≤ 16 → (1 : Int) ≤ m → (m : Int) ≤ 16 → wayB v = true → scV v = true → (∀ r H', H r = none → Same H H' → PlAt H' r (turnG v (gridZ n m f)) → Q (.ref r) H') → sp_turned K [.ref p, v] H Q E :=
    fun hp hf a1 a2 a3 a4 hv sv q => turned_go hp (grid_in hf) a1 a2 a3 a4 lo0 hi5 hv sv q
  refine sq_asgG ?_
  simp only [tWhile, tAnd, tOr, tNot, tTest, tTru, tOp, tUn, tVar, tC, tLst, tTup, tNil, tBM, tBM0, tCons, gSub, tCB, gName, tIf, tFn, tAndT, tOrT, tNotT, tChain, lc_go, iRng1, iRng2, iSeq, tSl, tPart, tNoPart, tAttr, List.getElem?_cons_zero, List.getElem?_cons_succ, List.set_cons_zero, List.set_cons_succ, Option.some.injEq, exists_eq_left']
  refine sc_tall sc (sc_wide sc ⟨small rfl, fun a ha => ?_⟩)
  refine .inl ⟨a, _, rfl, .inl (.inl upd_same), rfl, _, _, rfl, _, _, rfl, rfl, ?_⟩
  have s1 : Same H (upd H a (.tup [.int n, .int m])) := same_new (Same.refl _) ha
  revert s1
  generalize upd H a (.tup [.int n, .int m]) = H1
  intro s1
  have pl1 := pl.same s1
  have rowP : ∀ {i : Nat} {H : Hp}, i < n → PlAt H q0 (gridZ n m f) → ∃ b bs, H q0 = some (.tup bs) ∧ bs[i]? = some (V.ref b) ∧ H b = some (.tup (((List.range m).map (f i)).map V.int)) := fun {i H} hi hp => by
    obtain ⟨bs, e1, e2, e3⟩ := hp
    rw [grid_len] at e2
    refine ⟨bs[i]'(by omega), _, e1, ?_, e3 i _ _ (List.getElem?_eq_getElem (by omega)) (grid_at hi)⟩
    rw [List.getElem?_map, List.getElem?_eq_getElem (by omega)]
    rfl
  have rowI : ∀ {i j : Nat}, j < m → (((List.range m).map (f i)).map V.int)[j]? = some (V.int (f i j)) := fun {i j} hj => by
    rw [List.getElem?_map, row_at hj]
    rfl
  refine sq_asg ?_
  rw [lc_go]
  refine ⟨.int n, rfl, n, rfl, by omega, by omega, ?_⟩
  refine lc_grid (n := n) (m := m) (fun i j => f (n - 1 - i) j) (by omega) (by omega) (Nat.le_of_ble_eq_true rfl) (Nat.le_of_ble_eq_true rfl) (by decide) rfl (fun i j σ' H' k hi hj e7 e6 eo s2 hk => ?_) (by decide) fun D1 H2 hD1 s2 g1 => ?_
  · have e2 : σ'[2]? = some (some (.ref q0)) := (eo 2 (by decide) (by decide)).trans rfl
    have e3 : σ'[3]? = some (some (.int n)) := (eo 3 (by decide) (by decide)).trans rfl
    simp only [tOp, tVar, tC, e2, e3, e6, e7, Option.some.injEq, exists_eq_left']
    obtain ⟨b, bs, z1, z2, z3⟩ := rowP (i := n - 1 - i) (by omega) (pl1.same s2)
    refine G.sub_int (K := K) (G.sub_int (K := K) (ix_tup z1 (by omega) ?_ (ix_tup z3 (by omega) ?_ hk)))
    · rw [show ((n : Int) - 1 - (0 + i)).toNat = n - 1 - i by omega]
      exact z2
    · rw [show ((0 : Int) + j).toNat = j by omega]
      exact rowI hj
  have pl2 := pl1.same s2
  refine sq_asg ?_
  rw [lc_go]
  refine ⟨.int n, rfl, n, rfl, by omega, by omega, ?_⟩
  refine lc_grid (n := n) (m := m) (fun i j => f i (m - 1 - j)) (by omega) (by omega) (Nat.le_of_ble_eq_true rfl) (Nat.le_of_ble_eq_true rfl) (by decide) rfl (fun i j σ' H' k hi hj e7 e6 eo s3 hk => ?_) (by decide) fun D2 H3 hD2 s3 g2 => ?_
  · have e2 : σ'[2]? = some (some (.ref q0)) := (eo 2 (by decide) (by decide)).trans rfl
    have e3 : σ'[4]? = some (some (.int m)) := (eo 4 (by decide) (by decide)).trans rfl
    simp only [tOp, tVar, tC, e2, e3, e6, e7, Option.some.injEq, exists_eq_left']
    obtain ⟨b, bs, z1, z2, z3⟩ := rowP (i := i) (by omega) (pl2.same s3)
    refine ix_tup z1 (by omega) ?_ (G.sub_int (K := K) (G.sub_int (K := K) (ix_tup z3 (by omega) ?_ hk)))
    · rw [show ((0 : Int) + i).toNat = i by omega]
      exact z2
    · rw [show ((m : Int) - 1 - (0 + j)).toNat = m - 1 - j by omega]
      exact rowI (by omega)
  have pl3 := pl2.same s3
  refine sq_asg ?_
  rw [lc_go]
  refine ⟨.int m, rfl, m, rfl, by omega, by omega, ?_⟩
  refine lc_grid (n := m) (m := n) (fun i j => f j i) (by omega) (by omega) (Nat.le_of_ble_eq_true rfl) (Nat.le_of_ble_eq_true rfl) (by decide) rfl (fun i j σ' H' k hi hj e7 e6 eo s4 hk => ?_) (by decide) fun D3 H4 hD3 s4 g3 => ?_
  · have e2 : σ'[2]? = some (some (.ref q0)) := (eo 2 (by decide) (by decide)).trans rfl
    simp only [tOp, tVar, tC, e2, e6, e7, Option.some.injEq, exists_eq_left']
    obtain ⟨b, bs, z1, z2, z3⟩ := rowP (i := j) (by omega) (pl3.same s4)
    refine ix_tup z1 (by omega) ?_ (ix_tup z3 (by omega) ?_ hk)
    · rw [show ((0 : Int) + j).toNat = j by omega]
      exact z2
    · rw [show ((0 : Int) + i).toNat = i by omega]
      exact rowI (by omega)
  have pl4 := pl3.same s4
  have g24 := g2.same s4
  have g14 := (g1.same s3).same s4
  have fu : ∀ i j, i < n → j < m → lo ≤ f (n - 1 - i) j ∧ f (n - 1 - i) j ≤ hi := fun i j a b => hf _ _ (by omega) b
  have fs : ∀ i j, i < n → j < m → lo ≤ f i (m - 1 - j) ∧ f i (m - 1 - j) ≤ hi := fun i j a b => hf _ _ a (by omega)
  have fc : ∀ i j, i < m → j < n → lo ≤ f j i ∧ f j i ≤ hi := fun i j a b => hf _ _ b a
  refine sq_asg ?_
  simp only [tWhile, tAnd, tOr, tNot, tTest, tTru, tOp, tUn, tVar, tC, tLst, tTup, tNil, tBM, tBM0, tCons, gSub, tCB, gName, tIf, tFn, tAndT, tOrT, tNotT, tChain, lc_go, iRng1, iRng2, iSeq, tSl, tPart, tNoPart, tAttr, List.getElem?_cons_zero, List.getElem?_cons_succ, List.set_cons_zero, List.set_cons_succ, Option.some.injEq, exists_eq_left']
  refine ⟨rfl, rfl, tg pl4 hf h1 h16 w1 w16 way_up sc_up fun t1 H5 n5 s5 p5 => ⟨rfl, rfl, tg (pl4.same s5) hf h1 h16 w1 w16 way_side sc_side fun t2 H6 n6 s6 p6 => ⟨rfl, rfl, tg ((pl4.same s5).same s6) hf h1 h16 w1 w16 way_corner sc_corner fun t3 H7 n7 s7 p7 => ⟨small rfl, fun l hl => ?_⟩⟩⟩⟩
  rw [grid_up] at p5
  rw [grid_side] at p6
  rw [grid_corner (by omega)] at p7
  refine sq_if ?_
  simp only [tWhile, tAnd, tOr, tNot, tTest, tTru, tOp, tUn, tVar, tC, tLst, tTup, tNil, tBM, tBM0, tCons, gSub, tCB, gName, tIf, tFn, tAndT, tOrT, tNotT, tChain, lc_go, iRng1, iRng2, iSeq, tSl, tPart, tNoPart, tAttr, List.getElem?_cons_zero, List.getElem?_cons_succ, List.set_cons_zero, List.set_cons_succ, Option.some.injEq, exists_eq_left']
  have s47 := (s5.trans s6).trans s7
  have s48 : Same H4 (upd H7 l (.lst [.ref t1, .ref t2, .ref t3])) := s47.trans (same_new (Same.refl _) hl)
  have nU := nice_in (grid_in fu) h16 w16 lo0 hi5
  have nS := nice_in (grid_in fs) h16 w16 lo0 hi5
  have nC := nice_in (grid_in fc) w16 h16 lo0 hi5
  have nn := nice_lst (NiceA.cons nU (NiceA.cons nS (NiceA.cons nC nice_nil)))
  have dl : ∀ {H : Hp} {l a b c : Addr}, H l = some (.lst [.ref a, .ref b, .ref c]) → PlAt H a (gridZ n m fun i j => f (n - 1 - i) j) → PlAt H b (gridZ n m fun i j => f i (m - 1 - j)) → PlAt H c (gridZ m n fun i j => f j i) → Dp K H (.ref l) (.list [plD (gridZ n m fun i j => f (n - 1 - i) j), plD (gridZ n m fun i j => f i (m - 1 - j)), plD (gridZ m n fun i j => f j i)]) :=
    fun e a b c => .lst (.inl (.inl e)) (.cons (dp_pl a) (.cons (dp_pl b) (.cons (dp_pl c) .nil)))
  refine repr_nice (dl upd_same (((p5.same s6).same s7).new hl) ((p6.same s7).new hl) (p7.new hl)) nn (by decide) (by decide) ?_
  refine tup_gr (g14.same s48) fun u1 H9 n9 s9 v1 => tup_gr ((g24.same s48).same s9) fun u2 H10 n10 s10 v2 => tup_gr (((g3.same s48).same s9).same s10) fun u3 H11 n11 s11 v3 => ⟨small rfl, fun l2 hl2 => ?_⟩
  refine repr_nice (dl upd_same (((v1.same s10).same s11).new hl2) ((v2.same s11).new hl2) (v3.new hl2)) nn (by decide) (by decide) (ne_str ⟨_, rfl, ?_⟩)
  rw [if_neg (by simp)]
  have pl12 := ((((pl4.same s48).same s9).same s10).same s11).new (o := .lst [.ref u1, .ref u2, .ref u3]) hl2
  have s12 : Same H (upd H11 l2 (.lst [.ref u1, .ref u2, .ref u3])) := ((((((((s1.trans s2).trans s3).trans s4).trans s48).trans s9).trans s10).trans s11).trans (same_new (Same.refl _) hl2))
  revert pl12 s12
  generalize upd H11 l2 (.lst [.ref u1, .ref u2, .ref u3]) = H12
  intro pl12 s12
  have tw : ∀ v ∈ [V.str "upside", .str "sideways", .str "corner"], ∀ {H' : Hp} {Q : VK} {E1 E2 : XK}, Same H H' → (∀ p H'', Same H' H'' → PlAt H'' p (gridZ n m f) → Q (.ref p) H'') → sp_turned K [.ref q0, v] H' (fun r H2 => [r, v].length = 2 ∧ ([] : List V).length = 0 ∧ sp_turned K [r, v] H2 Q E1) E2 := by
    intro v hv H' Q E1 E2 s' q'
    have pl' := pl.same s'
    simp only [List.mem_cons, List.not_mem_nil, or_false] at hv
    rcases hv with rfl | rfl | rfl
    · refine tg pl' hf h1 h16 w1 w16 way_up sc_up fun r H2 _ s2 p2 => ?_
      rw [grid_up] at p2
      refine ⟨rfl, rfl, tg p2 fu h1 h16 w1 w16 way_up sc_up fun r H3 _ s3 p3 => q' r H3 (s2.trans s3) ?_⟩
      rw [grid_up] at p3
      rw [grid_congr (f := f) (f2 := fun i j => f (n - 1 - (n - 1 - i)) j) fun i j hi hj => by rw [show n - 1 - (n - 1 - i) = i by omega]]
      exact p3
    · refine tg pl' hf h1 h16 w1 w16 way_side sc_side fun r H2 _ s2 p2 => ?_
      rw [grid_side] at p2
      refine ⟨rfl, rfl, tg p2 fs h1 h16 w1 w16 way_side sc_side fun r H3 _ s3 p3 => q' r H3 (s2.trans s3) ?_⟩
      rw [grid_side] at p3
      rw [grid_congr (f := f) (f2 := fun i j => f i (m - 1 - (m - 1 - j))) fun i j hi hj => by rw [show m - 1 - (m - 1 - j) = j by omega]]
      exact p3
    · refine tg pl' hf h1 h16 w1 w16 way_corner sc_corner fun r H2 _ s2 p2 => ?_
      rw [grid_corner (by omega)] at p2
      refine ⟨rfl, rfl, tg p2 fc w1 w16 h1 h16 way_corner sc_corner fun r H3 _ s3 p3 => q' r H3 (s2.trans s3) ?_⟩
      rw [grid_corner (by omega)] at p3
      exact p3
  refine sq_for (.inl ?_)
  simp only [tWhile, tAnd, tOr, tNot, tTest, tTru, tOp, tUn, tVar, tC, tLst, tTup, tNil, tBM, tBM0, tCons, gSub, tCB, gName, tIf, tFn, tAndT, tOrT, tNotT, tChain, lc_go, iRng1, iRng2, iSeq, tSl, tPart, tNoPart, tAttr, List.getElem?_cons_zero, List.getElem?_cons_succ, List.set_cons_zero, List.set_cons_succ, Option.some.injEq, exists_eq_left']
  refine ⟨small rfl, fun l3 hl3 => ⟨l3, rfl, ⟨_, .inl (.inl upd_same)⟩, ?_⟩⟩
  have s13 : Same H (upd H12 l3 (.lst [.str "upside", .str "sideways", .str "corner"])) := s12.trans (same_new (Same.refl _) hl3)
  have el3 : (upd H12 l3 (.lst [.str "upside", .str "sideways", .str "corner"])) l3 = some (.lst [.str "upside", .str "sideways", .str "corner"]) := upd_same
  revert s13 el3
  generalize upd H12 l3 (.lst [.str "upside", .str "sideways", .str "corner"]) = H13
  intro s13 el3
  refine go_lst [.str "upside", .str "sideways", .str "corner"] (fun i σ H' => Same H13 H' ∧ ∃ o, σ = [some (.ref p), some (.ref p), some (.ref q0), some (.int n), some (.int m), some (.ref D1), none, none, some (.ref D2), some (.ref D3), some (.ref l), o].set 0 (some (.ref st))) ⟨Same.refl _, _, rfl⟩ (fun i σ H' h => .inl (.inl (h.1 _ _ el3))) ?_ ?_
  · rintro i v σ H' hv ⟨s', o, rfl⟩
    simp only [tIfS, tWhile, tAnd, tOr, tNot, tTest, tTru, tOp, tUn, tVar, tC, tLst, tTup, tNil, tBM, tBM0, tCons, gSub, tCB, gName, tIf, tFn, tAndT, tOrT, tNotT, tChain, lc_go, iRng1, iRng2, iSeq, tSl, tPart, tNoPart, tAttr, List.getElem?_cons_zero, List.getElem?_cons_succ, List.set_cons_zero, List.set_cons_succ, Option.some.injEq, exists_eq_left', List.set_cons_zero]
    have mv : v ∈ [V.str "upside", .str "sideways", .str "corner"] := List.mem_of_getElem? hv
    refine ⟨rfl, rfl, tw v mv (s13.trans s') fun r H2 s2 p2 => ne_pl p2 (((pl.same s13).same s').same s2) ⟨_, rfl, ?_⟩⟩
    rw [if_neg (by simp)]
    exact ⟨s'.trans s2, _, rfl⟩
  · rintro σ H' ⟨s', o, rfl⟩
    simp only [tRet, tWhile, tAnd, tOr, tNot, tTest, tTru, tOp, tUn, tVar, tC, tLst, tTup, tNil, tBM, tBM0, tCons, gSub, tCB, gName, tIf, tFn, tAndT, tOrT, tNotT, tChain, lc_go, iRng1, iRng2, iSeq, tSl, tPart, tNoPart, tAttr, List.getElem?_cons_zero, List.getElem?_cons_succ, List.set_cons_zero, List.set_cons_succ, Option.some.injEq, exists_eq_left', List.set_cons_zero]
    have pl' := (pl.same s13).same s'
    refine ⟨rfl, rfl, tg pl' hf h1 h16 w1 w16 way_corner sc_corner fun r1 H2 _ s2 p2 => ?_⟩
    rw [grid_corner (by omega)] at p2
    refine ⟨rfl, rfl, tg p2 fc w1 w16 h1 h16 way_side sc_side fun r2 H3 _ s3 p3 => ?_⟩
    rw [grid_side] at p3
    refine ⟨rfl, rfl, tg p3 (fun i j a b => hf _ _ (by omega) a) w1 w16 h1 h16 way_corner sc_corner fun r3 H4 _ s4 p4 => ?_⟩
    rw [grid_corner (by omega)] at p4
    refine ⟨rfl, rfl, tg (((pl'.same s2).same s3).same s4) hf h1 h16 w1 w16 way_up sc_up fun r4 H5 _ s5 p5 => ?_⟩
    rw [grid_up] at p5
    exact eq_pl (p4.same s5) p5 (q _ ((((s13.trans s').trans s2).trans s3).trans (s4.trans s5)))
end
end K03

set_option Elab.async false
set_option linter.all false
set_option maxRecDepth 100000
set_option maxHeartbeats 8000000
namespace K03
open PySem PySem.Spec PyProof.Rows L2 LamX G Pk
/-- the law's own facts -/
structure Fc (K : PySem.W.Frag) : Prop where
  sh : ShC K
  cn : Ck K "BadNumber"
  cp : Ck K "BadPlane"
  cw : Ck K "BadWay"
  ne : NeC K (shC K)
  nt : PySem.W.notFirst K (shC K) (.type "tuple") = true
  nn : PySem.W.notFirst K (shC K) (.type "NoneType") = true
abbrev GM (K : PySem.W.Frag) (cells : List (Str × Addr)) (acts : Acts) : Gam := gm_law K cells acts (TT K) (some (tT K))
section
variable {K : PySem.W.Frag} {cells : List (Str × Addr)} {acts : Acts} {st La Ca a q0 f l4 p : Addr} {H0 H H1 : Hp} {t u h w lo hi : Int} {g : List (List Int)} {W : WX} {D : Ends}
theorem partF (F : Fc K) {o2 o3 o4 o5 o6 o7 o8 o9 o10 o11 o13 o14 o15 o16 o17 : Option V} (R : Rf (TT K) st La Ca H0 H t) (tl : t ≤ 2 ^ 39) (pl : PlAt H q0 g) (pg : PlIn g h w lo hi) (h1 : 1 ≤ h) (h16 : h ≤ 16) (w1 : 1 ≤ w) (w16 : w ≤ 16) (l0 : -512 ≤ lo) (l1 : hi ≤ 511)
    (nx : ∀ H' o9 o17, Rf (TT K) st La Ca H0 H' (t + 4) → D.nx [some (.ref a), some (.ref st), o2, o3, o4, o5, o6, o7, o8, o9, o10, o11, some (.ref q0), o13, o14, o15, o16, o17] H') :
    (tSeq (tAsg (tLst (tCons (tC .non) (tCons (tTup tNil) (tCons (tTup (tCons (tTup tNil) tNil)) (tCons (tLst (tCons (tVar 12) tNil)) (tCons (tTup (tCons (tTup (tCons (tC (.int 512)) tNil)) tNil)) (tCons (tTup (tCons (tTup (tCons (tC (.int 0)) (tCons (tC (.int 1)) tNil))) (tCons (tTup (tCons (tC (.int 0)) tNil)) tNil))) (tCons (tTup (tCons (tTup (tCons (tC (.bl true)) tNil)) tNil)) (tCons (tTup (tCons (tOp (G.rBin K .Mult) (tTup (tCons (tC (.int 0)) tNil)) (tC (.int 17))) tNil)) (tCons (tOp (G.rBin K .Mult) (tTup (tCons (tTup (tCons (tC (.int 0)) tNil)) tNil)) (tC (.int 17))) (tCons (tTup (tCons (tTup (tCons (tUn (rU fun i => .int (-i)) (tC (.int 513))) tNil)) tNil)) tNil))))))))))) (gName 9))
  (tSeq (tAsg (tFn (S__law_pick K) (ac_law K cells acts (TT K) (some (tT K)) 37) W (tCons (tVar 1) (tCons (tVar 9) tNil)) tNil 2 0) (gName 17))
  (tSeq (tIfS (tNot (tTru K (tCB (G.rIsX K) (tCons (tCaught K (ac_law K cells acts (TT K) (some (tT K)) 34) W (tLamV (("law" ++ ".<locals>." : Str)) cells (TT K) (lamB (defBody st_law) 4) (lamC (defBody st_law) 4))) (tCons (tC (.ref (He.ga K "BadPlane"))) tNil)))))
  (tRet (tC (.bl false)))
  tNext)
  (tIfS (tNot (tTru K (tCB (G.rIsX K) (tCons (tCaught K (ac_law K cells acts (TT K) (some (tT K)) 34) W (tLamV (("law" ++ ".<locals>." : Str)) cells (TT K) (lamB (defBody st_law) 5) (lamC (defBody st_law) 5))) (tCons (tC (.ref (He.ga K "BadWay"))) tNil)))))
  (tRet (tC (.bl false)))
  tNext)))) D [some (.ref a), some (.ref st), o2, o3, o4, o5, o6, o7, o8, o9, o10, o11, some (.ref q0), o13, o14, o15, o16, o17] H := by
  refine sq_asg ?_
  refine tl_go ?_
  simp only [tCons, tNil, tC, tVar, tOp, tUn, List.getElem?_cons_zero, List.getElem?_cons_succ, Option.some.injEq, exists_eq_left']
  refine tt_go (nwT (Nat.le_of_ble_eq_true rfl) fun p1 I1 n1 s1 e1 => tt_go (tt_go (nwT (Nat.le_of_ble_eq_true rfl) fun p2 I2 n2 s2 e2 => nwT (Nat.le_of_ble_eq_true rfl) fun p3 I3 n3 s3 e3 => tl_go ⟨_, rfl, nwL (Nat.le_of_ble_eq_true rfl) fun p4 I4 n4 s4 e4 => tt_go (tt_go (nwT (Nat.le_of_ble_eq_true rfl) fun p5 I5 n5 s5 e5 => nwT (Nat.le_of_ble_eq_true rfl) fun p6 I6 n6 s6 e6 =>
    tt_go (tt_go (nwT (Nat.le_of_ble_eq_true rfl) fun p7 I7 n7 s7 e7 => tt_go (nwT (Nat.le_of_ble_eq_true rfl) fun p8 I8 n8 s8 e8 => nwT (Nat.le_of_ble_eq_true rfl) fun p9 I9 n9 s9 e9 => tt_go (tt_go (nwT (Nat.le_of_ble_eq_true rfl) fun p10 J1 m1 t1 d1 => nwT (Nat.le_of_ble_eq_true rfl) fun p11 J2 m2 t2 d2 =>
    tt_go (cons_op (tt_go (nwT (Nat.le_of_ble_eq_true rfl) fun p12 J3 m3 t3 d3 => mul_one d3 (by decide) (by decide) fun p13 J4 m4 t4 d4 => nwT (Nat.le_of_ble_eq_true rfl) fun p14 J5 m5 t5 d5 => tt_go (tt_go (nwT (Nat.le_of_ble_eq_true rfl) fun p15 J6 m6 t6 d6 => nwT (Nat.le_of_ble_eq_true rfl) fun p16 J7 m7 t7 d7 => mul_one d7 (by decide) (by decide) fun p17 J8 m8 t8 d8 =>
    tt_go (tt_go ⟨513, rfl, nwT (Nat.le_of_ble_eq_true rfl) fun p18 J9 m9 t9 d9 => nwT (Nat.le_of_ble_eq_true rfl) fun p19 G1 k1 r1 c1 => nwL (Nat.le_of_ble_eq_true rfl) fun l G2 k2 r2 c2 => ?_⟩)))))))))))))⟩)))
  have vG1 : Same G1 G2 := r2
  have vJ9 : Same J9 G2 := r1.trans vG1
  have vJ8 : Same J8 G2 := t9.trans vJ9
  have vJ7 : Same J7 G2 := t8.trans vJ8
  have vJ6 : Same J6 G2 := t7.trans vJ7
  have vJ5 : Same J5 G2 := t6.trans vJ6
  have vJ4 : Same J4 G2 := t5.trans vJ5
  have vJ3 : Same J3 G2 := t4.trans vJ4
  have vJ2 : Same J2 G2 := t3.trans vJ3
  have vJ1 : Same J1 G2 := t2.trans vJ2
  have vI9 : Same I9 G2 := t1.trans vJ1
  have vI8 : Same I8 G2 := s9.trans vI9
  have vI7 : Same I7 G2 := s8.trans vI8
  have vI6 : Same I6 G2 := s7.trans vI7
  have vI5 : Same I5 G2 := s6.trans vI6
  have vI4 : Same I4 G2 := s5.trans vI5
  have vI3 : Same I3 G2 := s4.trans vI4
  have vI2 : Same I2 G2 := s3.trans vI3
  have vI1 : Same I1 G2 := s2.trans vI2
  have vH : Same H G2 := s1.trans vI1
  have RG := R.same vH
  have nl : l ≠ st ∧ l ≠ La ∧ l ≠ Ca := drw_ne (drw_same R.d (s1.trans (s2.trans (s3.trans (s4.trans (s5.trans (s6.trans (s7.trans (s8.trans (s9.trans (t1.trans (t2.trans (t3.trans (t4.trans (t5.trans (t6.trans (t7.trans (t8.trans (t9.trans r1))))))))))))))))))) k2
  have n4' : p4 ≠ st ∧ p4 ≠ La ∧ p4 ≠ Ca := drw_ne (drw_same R.d (s1.trans (s2.trans s3))) n4
  have pG := pl.same vH
  refine sq_asg ?_
  simp only [tWhile, tAnd, tOr, tNot, tTest, tTru, tOp, tUn, tVar, tC, tLst, tTup, tNil, tBM, tBM0, tCons, gSub, tCB, gName, tIf, tFn, tAndT, tOrT, tNotT, tChain, lc_go, iRng1, iRng2, iSeq, tSl, tPart, tNoPart, tAttr, List.getElem?_cons_zero, List.getElem?_cons_succ, List.set_cons_zero, List.set_cons_succ, Option.some.injEq, exists_eq_left']
  refine ⟨rfl, rfl, pick_go RG (by omega) c2 nl (Nat.le_of_ble_eq_true rfl) (Nat.le_of_ble_eq_true rfl) fun x G3 hx R3 => ?_⟩
  have RG3 := RG.trans R3
  have pG3 := pG.keep RG.d R3.n
  have kT : ∀ {p : Addr} {xs : List V}, G2 p = some (.tup xs) → ∀ H', DrN st La G3 H' → H' p = some (.tup xs) := fun e H' n' => RG.d.keepT (R3.n.trans n') e
  have one : ∀ {b c : Addr} {xs : List V}, G2 b = some (.tup [.ref c]) → G2 c = some (.tup xs) → (∀ v ∈ xs, scV v = true) → ThN st La G3 (.ref b) (some [some xs]) := fun e1 e2 h H' n' => th_rep (n := 1) h (kT e1 H' n') (kT e2 H' n')
  have key : ∃ th, ThN st La G3 x th ∧ ThS th ∧ anyB th = false := by
    simp only [List.mem_cons, List.not_mem_nil, or_false] at hx
    have m1 : ∀ {v w : V}, scV w = true → v ∈ [w] → scV v = true := fun h hv => by rw [List.mem_singleton.mp hv]; exact h
    rcases hx with rfl | rfl | rfl | rfl | rfl | rfl | rfl | rfl | rfl | rfl
    · exact ⟨none, fun H' n' => .inl rfl, trivial, rfl⟩
    · exact ⟨some [], fun H' n' => ⟨p1, [], rfl, kT (vI1 _ _ e1) H' n', rfl, fun i v r e => by simp at e⟩, ⟨Nat.zero_le _, fun r hr => (nomatch hr)⟩, rfl⟩
    · exact ⟨_, one (vI3 _ _ e3) (vI2 _ _ e2) (fun v hv => (nomatch hv)), ⟨by decide, fun r hr => by rw [List.mem_singleton.mp hr]; exact Nat.zero_le _⟩, rfl⟩
    · exact ⟨none, fun H' n' => .inr ⟨p4, rfl, .inl ⟨_, (R3.n.trans n') _ _ (vI4 _ _ e4) n4'.1 n4'.2.1 (fun _ z => nomatch z)⟩⟩, trivial, rfl⟩
    · exact ⟨_, one (vI6 _ _ e6) (vI5 _ _ e5) (fun v hv => m1 rfl hv), ⟨by decide, fun r hr => by rw [List.mem_singleton.mp hr]; exact Nat.le_of_ble_eq_true rfl⟩, rfl⟩
    · refine ⟨some [some [.int 0, .int 1], some [.int 0]], fun H' n' => ⟨p9, _, rfl, kT (vI9 _ _ e9) H' n', rfl, fun i v r h1 h2 => ?_⟩, ⟨by decide, fun r hr => ?_⟩, rfl⟩
      · rcases i with _ | _ | i
        · cases h1
          cases h2
          refine ⟨p7, rfl, kT (vI7 _ _ e7) H' n', fun v hv => ?_⟩
          simp only [List.mem_cons, List.not_mem_nil, or_false] at hv
          rcases hv with rfl | rfl <;> rfl
        · cases h1
          cases h2
          exact ⟨p8, rfl, kT (vI8 _ _ e8) H' n', fun v hv => m1 rfl hv⟩
        · simp at h1
      · simp only [List.mem_cons, List.not_mem_nil, or_false] at hr
        rcases hr with rfl | rfl <;> exact Nat.le_of_ble_eq_true rfl
    · exact ⟨_, one (vJ2 _ _ d2) (vJ1 _ _ d1) (fun v hv => m1 rfl hv), ⟨by decide, fun r hr => by rw [List.mem_singleton.mp hr]; exact Nat.le_of_ble_eq_true rfl⟩, rfl⟩
    · exact ⟨_, one (vJ5 _ _ d5) (vJ4 _ _ d4) (fun v hv => by rw [List.eq_of_mem_replicate hv]; rfl), ⟨by decide, fun r hr => by rw [List.mem_singleton.mp hr]; exact Nat.le_of_ble_eq_true rfl⟩, rfl⟩
    · exact ⟨some (List.replicate 17 (some [.int 0])), fun H' n' => th_rep (n := 17) (fun v hv => m1 rfl hv) (kT (vJ8 _ _ d8) H' n') (kT (vJ6 _ _ d6) H' n'), ⟨by decide, fun r hr => by rw [List.eq_of_mem_replicate hr]; exact Nat.le_of_ble_eq_true rfl⟩, rfl⟩
    · exact ⟨_, one (vG1 _ _ c1) (vJ9 _ _ d9) (fun v hv => m1 rfl hv), ⟨by decide, fun r hr => by rw [List.mem_singleton.mp hr]; exact Nat.le_of_ble_eq_true rfl⟩, rfl⟩
  obtain ⟨th, at3, ts, na⟩ := key
  refine sq_if (not_tru ?_)
  simp only [tWhile, tAnd, tOr, tNot, tTest, tTru, tOp, tUn, tVar, tC, tLst, tTup, tNil, tBM, tBM0, tCons, gSub, tCB, gName, tIf, tFn, tAndT, tOrT, tNotT, tChain, lc_go, iRng1, iRng2, iSeq, tSl, tPart, tNoPart, tAttr, List.getElem?_cons_zero, List.getElem?_cons_succ, List.set_cons_zero, List.set_cons_succ, Option.some.injEq, exists_eq_left']
  refine caught_lam (Γ := GM K cells acts) (n := 34) rfl (by kernel_rfl) (fun W' => lq_law_4_34 K cells acts (TT K) (tT K) W') RG3.T fun H4 hE hT => ?_
  have R4 := RG3.fresh.lam hE hT
  unfold lm_law_4
  simp only [tWhile, tAnd, tOr, tNot, tTest, tTru, tOp, tUn, tVar, tC, tLst, tTup, tNil, tBM, tBM0, tCons, gSub, tCB, gName, tIf, tFn, tAndT, tOrT, tNotT, tChain, lc_go, iRng1, iRng2, iSeq, tSl, tPart, tNoPart, tAttr, List.getElem?_cons_zero, List.getElem?_cons_succ, List.set_cons_zero, List.set_cons_succ, Option.some.injEq, exists_eq_left']
  refine ⟨rfl, rfl, x, .str "up", th, rfl, at3 H4 R4.n, ts, by kernel_rfl, fun _ H5 s5 => ?_, fun c => (by rw [na] at c; cases c), fun _ _ _ _ _ c => absurd c (by decide)⟩
  refine err_go F.cp (Rf.same R4 s5) fun a6 H6 R6 n6 x6 => isx_err F.cp x6 F.cp.one ⟨_, rfl, ?_⟩
  rw [if_neg (by simp)]
  have RG6 := RG3.trans R6
  have pG6 := pG3.keep RG3.d R6.n
  refine if_go (not_tru ?_)
  simp only [tWhile, tAnd, tOr, tNot, tTest, tTru, tOp, tUn, tVar, tC, tLst, tTup, tNil, tBM, tBM0, tCons, gSub, tCB, gName, tIf, tFn, tAndT, tOrT, tNotT, tChain, lc_go, iRng1, iRng2, iSeq, tSl, tPart, tNoPart, tAttr, List.getElem?_cons_zero, List.getElem?_cons_succ, List.set_cons_zero, List.set_cons_succ, Option.some.injEq, exists_eq_left']
  refine caught_lam (Γ := GM K cells acts) (n := 34) rfl (by kernel_rfl) (fun W' => lq_law_5_34 K cells acts (TT K) (tT K) W') RG6.T fun H7 hE hT => ?_
  have R7 := RG6.fresh.lam hE hT
  unfold lm_law_5
  simp only [tFn, tCons, tNil, tVar, tC, List.getElem?_cons_zero, List.getElem?_cons_succ, Option.some.injEq, exists_eq_left']
  refine tl_go (nwL (Nat.le_of_ble_eq_true rfl) fun l8 H8 k8 s8 e8 => ?_)
  have R8 := Rf.same R7 s8
  refine ⟨rfl, rfl, pick_go R8 (by omega) e8 (drw_ne R7.d k8) (Nat.le_of_ble_eq_true rfl) (Nat.le_of_ble_eq_true rfl) fun y H9 hy R9 => ?_⟩
  have R9' := R8.trans R9
  have py : scV y = true ∧ wayB y = false := by
    simp only [List.mem_cons, List.not_mem_nil, or_false] at hy
    rcases hy with rfl | rfl | rfl | rfl | rfl
    · exact ⟨by kernel_rfl, by decide⟩
    · exact ⟨rfl, rfl⟩
    · exact ⟨rfl, rfl⟩
    · exact ⟨by kernel_rfl, by decide⟩
    · exact ⟨by kernel_rfl, by decide⟩
  have an := any_in pg h1 h16 w1 w16 l0 l1
  refine ⟨rfl, rfl, .ref q0, y, thOf g, rfl, (pG6.keep RG6.d R9'.n).th, ths_in pg h16 w16, py.1, fun c => (by rw [an] at c; cases c), fun _ _ H10 s10 => ?_, fun _ _ _ _ _ c => (by rw [py.2] at c; cases c)⟩
  refine err_go F.cw (Rf.same R9' s10) fun a11 H11 R11 n11 x11 => isx_err F.cw x11 F.cw.one ⟨_, rfl, ?_⟩
  rw [if_neg (by simp)]
  exact nx H11 _ _ ((RG6.trans R11).mono (by omega))
end
end K03

set_option Elab.async false
set_option linter.all false
set_option maxRecDepth 100000
set_option maxHeartbeats 8000000
namespace K03
open PySem PySem.Spec PyProof.Rows L2 LamX G Pk
/-- a round's own things -/
structure Wd (K : PySem.W.Frag) (st La Ca p l4 f : Addr) (h w lo hi : Int) (H0 : Hp) (t : Int) (H : Hp) : Prop where
  R : Rf (TT K) st La Ca H0 H t
  sc : ScAt st H p h w lo hi
  sf : ShAt K H f h w lo hi
  e4 : H l4 = some (.lst [.int h, .int w, .int lo, .int hi])
  n4 : l4 ≠ st ∧ l4 ≠ La ∧ l4 ≠ Ca
section
variable {K : PySem.W.Frag} {cells : List (Str × Addr)} {acts : Acts} {st La Ca a q0 f l4 p : Addr} {H0 H H1 : Hp} {t u h w lo hi : Int} {g : List (List Int)} {W : WX} {D : Ends}
theorem Wd.go (P : Wd K st La Ca p l4 f h w lo hi H0 t H) (r : Rf (TT K) st La Ca H H1 u) : Wd K st La Ca p l4 f h w lo hi H0 u H1 := ⟨P.R.trans r, P.sc.keep P.R.d r.n, P.sf.keep P.R.d r.n, drn_lst r.n P.n4.1 P.n4.2.1 P.e4, P.n4⟩
theorem Wd.same (P : Wd K st La Ca p l4 f h w lo hi H0 t H) (s : Same H H1) : Wd K st La Ca p l4 f h w lo hi H0 t H1 := P.go (Rf.same P.R.fresh s)
theorem Wd.mono (P : Wd K st La Ca p l4 f h w lo hi H0 t H) (e : t ≤ u) : Wd K st La Ca p l4 f h w lo hi H0 u H := { P with R := P.R.mono e }
theorem four0 {Q : VK} (P : Wd K st La Ca p l4 f h w lo hi H0 t H) (q : Q (.int h) H) : G.rSub2 K (.ref l4) (.int 0) H Q := ix_ok (.inl (.inl P.e4)) (by decide) rfl q
theorem four1 {Q : VK} (P : Wd K st La Ca p l4 f h w lo hi H0 t H) (q : Q (.int w) H) : G.rSub2 K (.ref l4) (.int 1) H Q := ix_ok (.inl (.inl P.e4)) (by decide) rfl q
theorem four2 {Q : VK} (P : Wd K st La Ca p l4 f h w lo hi H0 t H) (q : Q (.int lo) H) : G.rSub2 K (.ref l4) (.int 2) H Q := ix_ok (.inl (.inl P.e4)) (by decide) rfl q
theorem four3 {Q : VK} (P : Wd K st La Ca p l4 f h w lo hi H0 t H) (q : Q (.int hi) H) : G.rSub2 K (.ref l4) (.int 3) H Q := ix_ok (.inl (.inl P.e4)) (by decide) rfl q
theorem isnotM {M : MtT} {x : V} {Q : VK} (q : Q (.bl (!decide (x = .non))) H) : rCmpM K M .IsNot x .non H Q := isnot_non (K := K) q
theorem isM {M : MtT} {x : V} {Q : VK} (q : Q (.bl (decide (x = .non))) H) : rCmpM K M .Is x .non H Q := by
  show rIsN false x .non H Q
  cases x <;> exact q
theorem eqM {M : MtT} {x y : V} {Q : VK} (q : G.rCmp K .Eq x y H Q) : rCmpM K M .Eq x y H Q := .inl q
theorem neM {M : MtT} {x y : V} {Q : VK} (q : G.rCmp K .NotEq x y H Q) : rCmpM K M .NotEq x y H Q := .inl q
theorem btw_hi {i lo hi : Int} (h : hi < i) : btw (.int i) lo hi = false := by
  show (decide (lo ≤ i) && decide (i ≤ hi)) = false
  rw [decide_eq_false (by omega : ¬ i ≤ hi), Bool.and_false]
theorem btw_lo {i lo hi : Int} (h : i < lo) : btw (.int i) lo hi = false := by
  show (decide (lo ≤ i) && decide (i ≤ hi)) = false
  rw [decide_eq_false (by omega : ¬ lo ≤ i), Bool.false_and]
theorem partE (F : Fc K) {b : Int} {o2 o6 o7 o8 o9 o10 o11 o13 o15 o16 o17 : Option V} (P : Wd K st La Ca p l4 f h w lo hi H0 t H) (tl : t ≤ 2 ^ 38) (pl : PlAt H q0 g) (pg : PlIn g h w lo hi)
    (nx : ∀ H' o9 o11 o15 o16 o17, Rf (TT K) st La Ca H0 H' (t + 5) → D.nx [some (.ref a), some (.ref st), o2, some (.ref p), some (.ref l4), some (.ref f), o6, o7, o8, o9, o10, o11, some (.ref q0), o13, some (.int b), o15, o16, o17] H') :
    (tSeq (tAsg (tFn (S__law_pick K) (ac_law K cells acts (TT K) (some (tT K)) 37) W (tCons (tVar 1) (tCons (tLst (tCons (tOp (G.rBin K .Add) (tOp (G.rSub2 K) (tVar 4) (tC (.int 3))) (tC (.int 1))) (tCons (tOp (G.rBin K .Sub) (tOp (G.rSub2 K) (tVar 4) (tC (.int 2))) (tC (.int 1))) (tCons (tC .non) (tCons (tC (.str "0")) (tCons (tTup (tCons (tVar 14) tNil)) (tCons (tC (.bl true)) (tCons (tC (.bl false)) tNil)))))))) tNil)) tNil 2 0) (gName 15))
  (tSeq (tIfS (tNot (tTru K (tCB (G.rIsX K) (tCons (tCaught K (ac_law K cells acts (TT K) (some (tT K)) 34) W (tLamV (("law" ++ ".<locals>." : Str)) cells (TT K) (lamB (defBody st_law) 1) (lamC (defBody st_law) 1))) (tCons (tC (.ref (He.ga K "BadNumber"))) tNil)))))
  (tRet (tC (.bl false)))
  tNext)
  (tSeq (tFor (iSeq K (tLst (tCons (tLamV (("law" ++ ".<locals>." : Str)) cells (TT K) (lamB (defBody st_law) 2) (lamC (defBody st_law) 2)) (tCons (tLamV (("law" ++ ".<locals>." : Str)) cells (TT K) (lamB (defBody st_law) 3) (lamC (defBody st_law) 3)) tNil)))) (gName 16)
  (tSeq (tAsg (tFn (S__law_caught K) (ac_law K cells acts (TT K) (some (tT K)) 36) W (tCons (tVar 16) tNil) tNil 1 0) (gName 11))
  (tIfS (tOr (tNot (tTru K (tCB (G.rIsX K) (tCons (tVar 11) (tCons (tC (.ref (He.ga K "BadShape"))) tNil))))) (tTest (tOp (rCmpM K (mtLook (fl_law K) "__eq__") .IsNot) (tAttr K "part" (tVar 11)) (tC .non))))
  (tRet (tC (.bl false)))
  tNext)))
  (tSeq (tAsg (tLst (tCons (tC .non) (tCons (tTup tNil) (tCons (tTup (tCons (tTup tNil) tNil)) (tCons (tLst (tCons (tVar 12) tNil)) (tCons (tTup (tCons (tTup (tCons (tC (.int 512)) tNil)) tNil)) (tCons (tTup (tCons (tTup (tCons (tC (.int 0)) (tCons (tC (.int 1)) tNil))) (tCons (tTup (tCons (tC (.int 0)) tNil)) tNil))) (tCons (tTup (tCons (tTup (tCons (tC (.bl true)) tNil)) tNil)) (tCons (tTup (tCons (tOp (G.rBin K .Mult) (tTup (tCons (tC (.int 0)) tNil)) (tC (.int 17))) tNil)) (tCons (tOp (G.rBin K .Mult) (tTup (tCons (tTup (tCons (tC (.int 0)) tNil)) tNil)) (tC (.int 17))) (tCons (tTup (tCons (tTup (tCons (tUn (rU fun i => .int (-i)) (tC (.int 513))) tNil)) tNil)) tNil))))))))))) (gName 9))
  (tSeq (tAsg (tFn (S__law_pick K) (ac_law K cells acts (TT K) (some (tT K)) 37) W (tCons (tVar 1) (tCons (tVar 9) tNil)) tNil 2 0) (gName 17))
  (tSeq (tIfS (tNot (tTru K (tCB (G.rIsX K) (tCons (tCaught K (ac_law K cells acts (TT K) (some (tT K)) 34) W (tLamV (("law" ++ ".<locals>." : Str)) cells (TT K) (lamB (defBody st_law) 4) (lamC (defBody st_law) 4))) (tCons (tC (.ref (He.ga K "BadPlane"))) tNil)))))
  (tRet (tC (.bl false)))
  tNext)
  (tIfS (tNot (tTru K (tCB (G.rIsX K) (tCons (tCaught K (ac_law K cells acts (TT K) (some (tT K)) 34) W (tLamV (("law" ++ ".<locals>." : Str)) cells (TT K) (lamB (defBody st_law) 5) (lamC (defBody st_law) 5))) (tCons (tC (.ref (He.ga K "BadWay"))) tNil)))))
  (tRet (tC (.bl false)))
  tNext))))))) D [some (.ref a), some (.ref st), o2, some (.ref p), some (.ref l4), some (.ref f), o6, o7, o8, o9, o10, o11, some (.ref q0), o13, some (.int b), o15, o16, o17] H := by
  obtain ⟨_, h1, h16, w1, w16, lo0, lohi, hi1⟩ := P.sc.2
  refine sq_asg ?_
  simp only [tFn, tCons, tNil, tVar, tC, List.getElem?_cons_zero, List.getElem?_cons_succ, Option.some.injEq, exists_eq_left']
  refine tl_go ?_
  simp only [tCons, tNil, tOp, tVar, tC, List.getElem?_cons_zero, List.getElem?_cons_succ, Option.some.injEq, exists_eq_left']
  refine four3 P (G.add_int (K := K) (four2 P (G.sub_int (K := K) (tt_go ⟨_, rfl, nwT (Nat.le_of_ble_eq_true rfl) fun p1 H1 n1 s1 e1 => nwL (Nat.le_of_ble_eq_true rfl) fun l H2 n2 s2 e2 => ?_⟩))))
  have P2 := (P.same s1).same s2
  refine ⟨rfl, rfl, pick_go P2.R (by omega) e2 (drw_ne (P.same s1).R.d n2) (Nat.le_of_ble_eq_true rfl) (Nat.le_of_ble_eq_true rfl) fun x H3 hx R3 => ?_⟩
  have P3 := P2.go R3
  have pl3 := (pl.same (s1.trans s2)).keep P2.R.d R3.n
  have ox : (∀ H', DrN st La H3 H' → Kd H' x) ∧ btw x lo hi = false := by
    simp only [List.mem_cons, List.not_mem_nil, or_false] at hx
    rcases hx with rfl | rfl | rfl | rfl | rfl | rfl | rfl
    · exact ⟨fun _ _ => trivial, btw_hi (by omega)⟩
    · exact ⟨fun _ _ => trivial, btw_lo (by omega)⟩
    · exact ⟨fun _ _ => trivial, rfl⟩
    · exact ⟨fun _ _ => trivial, rfl⟩
    · exact ⟨fun H' n' => .inr (.inl ⟨_, P2.R.d.keepT (R3.n.trans n') (s2 _ _ e1)⟩), rfl⟩
    · exact ⟨fun _ _ => trivial, rfl⟩
    · exact ⟨fun _ _ => trivial, rfl⟩
  obtain ⟨kx, bx⟩ := ox
  refine sq_if (not_tru ?_)
  simp only [tWhile, tAnd, tOr, tNot, tTest, tTru, tOp, tUn, tVar, tC, tLst, tTup, tNil, tBM, tBM0, tCons, gSub, tCB, gName, tIf, tFn, tAndT, tOrT, tNotT, tChain, lc_go, iRng1, iRng2, iSeq, tSl, tPart, tNoPart, tAttr, List.getElem?_cons_zero, List.getElem?_cons_succ, List.set_cons_zero, List.set_cons_succ, Option.some.injEq, exists_eq_left']
  refine caught_lam (Γ := GM K cells acts) (n := 34) rfl (by kernel_rfl) (fun W' => lq_law_1_34 K cells acts (TT K) (tT K) W') P3.R.T fun H4 hE hT => ?_
  have R4 := P3.R.fresh.lam hE hT
  unfold lm_law_1
  simp only [tWhile, tAnd, tOr, tNot, tTest, tTru, tOp, tUn, tVar, tC, tLst, tTup, tNil, tBM, tBM0, tCons, gSub, tCB, gName, tIf, tFn, tAndT, tOrT, tNotT, tChain, lc_go, iRng1, iRng2, iSeq, tSl, tPart, tNoPart, tAttr, List.getElem?_cons_zero, List.getElem?_cons_succ, List.set_cons_zero, List.set_cons_succ, Option.some.injEq, exists_eq_left']
  refine ⟨rfl, rfl, .ref f, x, rfl, kx _ R4.n, .inr ⟨f, h, w, lo, hi, rfl, (P3.go R4).sf, fun _ => ?_, fun n e n0 n1 => by rw [e, btw_of n0 n1] at bx; cases bx⟩⟩
  refine err_go F.cn R4 fun a6 H6 R6 n6 x6 => isx_err F.cn x6 F.cn.one ⟨_, rfl, ?_⟩
  rw [if_neg (by simp)]
  have P6 := P3.go R6
  have pl6 := pl3.keep P3.R.d R6.n
  have kx6 : ∀ H', DrN st La H6 H' → Kd H' x := fun H' n' => kx H' (R6.n.trans n')
  refine sq_for (.inl ?_)
  simp only [iList]
  refine tl_go ?_
  simp only [tCons, tNil]
  refine lam_new (Γ := GM K cells acts) P6.R.fresh fun f0 H7 R7 m7 l0 => lam_new (Γ := GM K cells acts) R7 fun f1 H8 R8 m8 l1 => nwL (Nat.le_of_ble_eq_true rfl) fun l9 H9 hl s9 e9 => ⟨l9, rfl, ⟨_, .inl (.inl e9)⟩, ?_⟩
  have R9 := Rf.same R8 s9
  have l0' := l0.keep R7.d (m8.trans (same_dr s9).n)
  have l1' := l1.keep R8.d (same_dr s9).n
  have P9 := P6.go R9
  have pl9 := pl6.keep P6.R.d R9.n
  have kx9 : ∀ H', DrN st La H9 H' → Kd H' x := fun H' n' => kx6 H' (R9.n.trans n')
  obtain ⟨v1, v2, v3⟩ := drw_ne R8.d hl
  refine go_lst [V.ref f0, .ref f1] (fun i σ H' => Rf (TT K) st La Ca H9 H' (t + 1) ∧ ∃ o11 o16, σ = [some (.ref a), some (.ref st), o2, some (.ref p), some (.ref l4), some (.ref f), o6, o7, o8, o9, o10, o11, some (.ref q0), o13, some (.int b), some x, o16, o17]) ⟨P9.R.fresh, _, _, rfl⟩ (fun i σ H' h => .inl (.inl (drn_lst h.1.n v1 v2 e9))) ?_ ?_
  · rintro i v σ H' hv ⟨R, o11, o16, rfl⟩
    have each : ∀ (D2 : Ends) (a3 d3 : Addr) (H3 : Hp), H3 a3 = some (ExT (bad K "BadShape") (some d3) a3) → H3 d3 = some (.xd [("part", .non)]) → D2.nx [some (.ref a), some (.ref st), o2, some (.ref p), some (.ref l4), some (.ref f), o6, o7, o8, o9, o10, some (.ref a3), some (.ref q0), o13, some (.int b), some x, some v, o17] H3 → (tIfS (tOr (tNot (tTru K (tCB (G.rIsX K) (tCons (tVar 11) (tCons (tC (.ref (He.ga K "BadShape"))) tNil))))) (tTest (tOp (rCmpM K (mtLook (fl_law K) "__eq__") .IsNot) (tAttr K "part" (tVar 11)) (tC .non))))
  (tRet (tC (.bl false)))
  tNext) D2 [some (.ref a), some (.ref st), o2, some (.ref p), some (.ref l4), some (.ref f), o6, o7, o8, o9, o10, some (.ref a3), some (.ref q0), o13, some (.int b), some x, some v, o17] H3 := by
      intro D2 a3 d3 H3 ea ed hn
      simp only [tIfS, tNext, tWhile, tAnd, tOr, tNot, tTest, tTru, tOp, tUn, tVar, tC, tLst, tTup, tNil, tBM, tBM0, tCons, gSub, tCB, gName, tIf, tFn, tAndT, tOrT, tNotT, tChain, lc_go, iRng1, iRng2, iSeq, tSl, tPart, tNoPart, tAttr, List.getElem?_cons_zero, List.getElem?_cons_succ, List.set_cons_zero, List.set_cons_succ, Option.some.injEq, exists_eq_left']
      refine isx_errd F.sh.ce ea ed F.sh.ce.one ⟨_, rfl, ?_⟩
      rw [if_neg (by simp)]
      refine .inr ⟨a3, _, d3, _, .non, rfl, ea, ed, rfl, F.sh.xf, F.sh.nf, isnotM ⟨_, rfl, ?_⟩⟩
      rw [if_neg (by simp)]
      exact hn
    have two : v = .ref f0 ∨ v = .ref f1 := by
      have hm := List.mem_of_getElem? hv
      simpa using hm
    rcases two with rfl | rfl
    · refine sq_asg (caught_var (Γ := GM K cells acts) (n := 36) rfl (by kernel_rfl) (fun W' => lq_law_2_36 K cells acts (TT K) (tT K) W') rfl (l0'.keep P9.R.d R.n) ?_)
      unfold lm_law_2
      simp only [tWhile, tAnd, tOr, tNot, tTest, tTru, tOp, tUn, tVar, tC, tLst, tTup, tNil, tBM, tBM0, tCons, gSub, tCB, gName, tIf, tFn, tAndT, tOrT, tNotT, tChain, lc_go, iRng1, iRng2, iSeq, tSl, tPart, tNoPart, tAttr, List.getElem?_cons_zero, List.getElem?_cons_succ, List.set_cons_zero, List.set_cons_succ, Option.some.injEq, exists_eq_left']
      exact ⟨rfl, rfl, x, .ref q0, rfl, .inl ⟨kx9 _ R.n, fun d3 hd3 => err_god F.sh.ce R hd3 fun a3 H3 R3 n3 ea ed => each _ a3 d3 H3 ea ed ⟨R3, _, _, rfl⟩⟩⟩
    · refine sq_asg (caught_var (Γ := GM K cells acts) (n := 36) rfl (by kernel_rfl) (fun W' => lq_law_3_36 K cells acts (TT K) (tT K) W') rfl (l1'.keep P9.R.d R.n) ?_)
      unfold lm_law_3
      simp only [tWhile, tAnd, tOr, tNot, tTest, tTru, tOp, tUn, tVar, tC, tLst, tTup, tNil, tBM, tBM0, tCons, gSub, tCB, gName, tIf, tFn, tAndT, tOrT, tNotT, tChain, lc_go, iRng1, iRng2, iSeq, tSl, tPart, tNoPart, tAttr, List.getElem?_cons_zero, List.getElem?_cons_succ, List.set_cons_zero, List.set_cons_succ, Option.some.injEq, exists_eq_left']
      exact ⟨rfl, rfl, .non, x, rfl, kx9 _ R.n, .inl ⟨trivial, fun d3 hd3 => err_god F.sh.ce R hd3 fun a3 H3 R3 n3 ea ed => each _ a3 d3 H3 ea ed ⟨R3, _, _, rfl⟩⟩⟩
  · rintro σ H10 ⟨R10, o11, o16, rfl⟩
    have P10 := P9.go R10
    exact partF F P10.R (by omega) (pl9.keep P9.R.d R10.n) pg h1 h16 w1 w16 lo0 hi1 fun H' o9 o17 R' => nx H' _ _ _ _ _ (R'.mono (by omega))
end
end K03

set_option Elab.async false
set_option linter.all false
set_option maxRecDepth 100000
set_option maxHeartbeats 8000000
namespace K03
open PySem PySem.Spec PyProof.Rows L2 LamX G Pk
section
variable {K : PySem.W.Frag} {cells : List (Str × Addr)} {acts : Acts} {st La Ca a q0 f l4 p : Addr} {H0 H H1 : Hp} {t u h w lo hi : Int} {g : List (List Int)} {W : WX} {D : Ends}
theorem flat_at {q2 q4 : Addr} {n : Int} (e4 : H q4 = some (.tup (List.replicate h.toNat (.ref q2)))) (e2 : H q2 = some (.tup (List.replicate w.toNat (.int n)))) : PlAt H q4 (flatG h w n) := by
  refine ⟨List.replicate h.toNat q2, by rw [e4, List.map_replicate], by rw [List.length_replicate]; unfold flatG; rw [List.length_replicate], fun i b g e1 e3 => ?_⟩
  rw [List.eq_of_mem_replicate (List.mem_of_getElem? e1), List.eq_of_mem_replicate (List.mem_of_getElem? (show (List.replicate h.toNat (List.replicate w.toNat n))[i]? = some g from e3)), List.map_replicate]
  exact e2
theorem flat_in {n : Int} (h0 : 0 ≤ h) (w0 : 0 ≤ w) (n0 : lo ≤ n) (n1 : n ≤ hi) : PlIn (flatG h w n) h w lo hi := by
  unfold flatG
  refine ⟨by rw [List.length_replicate]; omega, fun r hr => ?_, fun r hr m hm => ?_⟩
  · rw [List.eq_of_mem_replicate hr, List.length_replicate]
    omega
  · rw [List.eq_of_mem_replicate hr] at hm
    rw [List.eq_of_mem_replicate hm]
    exact ⟨n0, n1⟩
theorem partD (F : Fc K) {o2 o6 o7 o8 o9 o10 o11 o13 o14 o15 o16 o17 : Option V} (P : Wd K st La Ca p l4 f h w lo hi H0 t H) (tl : t ≤ 2 ^ 37) (pl : PlAt H q0 g) (pg : PlIn g h w lo hi)
    (nx : ∀ H' o9 o11 o14 o15 o16 o17, Rf (TT K) st La Ca H0 H' (t + 10) → D.nx [some (.ref a), some (.ref st), o2, some (.ref p), some (.ref l4), some (.ref f), o6, o7, o8, o9, o10, o11, some (.ref q0), o13, o14, o15, o16, o17] H') :
    (tSeq (tAsg (tFn (S__law_grain K) (ac_law K cells acts (TT K) (some (tT K)) 37) W (tCons (tVar 1) (tCons (tVar 3) tNil)) tNil 2 0) (gName 14))
  (tSeq (tIfS (tTest (tOp (rCmpM K (mtLook (fl_law K) "__eq__") .NotEq) (tCB (G.rRepr K) (tCons (tFn (S_flat_plane K) (ac_law K cells acts (TT K) (some (tT K)) 35) W (tCons (tVar 5) (tCons (tVar 14) tNil)) tNil 2 0) tNil)) (tCB (G.rRepr K) (tCons (tOp (G.rBin K .Mult) (tTup (tCons (tOp (G.rBin K .Mult) (tTup (tCons (tVar 14) tNil)) (tOp (G.rSub2 K) (tVar 4) (tC (.int 1)))) tNil)) (tOp (G.rSub2 K) (tVar 4) (tC (.int 0)))) tNil))))
  (tRet (tC (.bl false)))
  tNext)
  (tSeq (tIfS (tNot (tTru K (tFn (S__law_turned_right K) (ac_law K cells acts (TT K) (some (tT K)) 35) W (tCons (tVar 1) (tCons (tVar 3) (tCons (tVar 12) tNil))) tNil 3 0)))
  (tRet (tC (.bl false)))
  tNext)
  (tSeq (tAsg (tFn (S__law_pick K) (ac_law K cells acts (TT K) (some (tT K)) 37) W (tCons (tVar 1) (tCons (tLst (tCons (tOp (G.rBin K .Add) (tOp (G.rSub2 K) (tVar 4) (tC (.int 3))) (tC (.int 1))) (tCons (tOp (G.rBin K .Sub) (tOp (G.rSub2 K) (tVar 4) (tC (.int 2))) (tC (.int 1))) (tCons (tC .non) (tCons (tC (.str "0")) (tCons (tTup (tCons (tVar 14) tNil)) (tCons (tC (.bl true)) (tCons (tC (.bl false)) tNil)))))))) tNil)) tNil 2 0) (gName 15))
  (tSeq (tIfS (tNot (tTru K (tCB (G.rIsX K) (tCons (tCaught K (ac_law K cells acts (TT K) (some (tT K)) 34) W (tLamV (("law" ++ ".<locals>." : Str)) cells (TT K) (lamB (defBody st_law) 1) (lamC (defBody st_law) 1))) (tCons (tC (.ref (He.ga K "BadNumber"))) tNil)))))
  (tRet (tC (.bl false)))
  tNext)
  (tSeq (tFor (iSeq K (tLst (tCons (tLamV (("law" ++ ".<locals>." : Str)) cells (TT K) (lamB (defBody st_law) 2) (lamC (defBody st_law) 2)) (tCons (tLamV (("law" ++ ".<locals>." : Str)) cells (TT K) (lamB (defBody st_law) 3) (lamC (defBody st_law) 3)) tNil)))) (gName 16)
  (tSeq (tAsg (tFn (S__law_caught K) (ac_law K cells acts (TT K) (some (tT K)) 36) W (tCons (tVar 16) tNil) tNil 1 0) (gName 11))
  (tIfS (tOr (tNot (tTru K (tCB (G.rIsX K) (tCons (tVar 11) (tCons (tC (.ref (He.ga K "BadShape"))) tNil))))) (tTest (tOp (rCmpM K (mtLook (fl_law K) "__eq__") .IsNot) (tAttr K "part" (tVar 11)) (tC .non))))
  (tRet (tC (.bl false)))
  tNext)))
  (tSeq (tAsg (tLst (tCons (tC .non) (tCons (tTup tNil) (tCons (tTup (tCons (tTup tNil) tNil)) (tCons (tLst (tCons (tVar 12) tNil)) (tCons (tTup (tCons (tTup (tCons (tC (.int 512)) tNil)) tNil)) (tCons (tTup (tCons (tTup (tCons (tC (.int 0)) (tCons (tC (.int 1)) tNil))) (tCons (tTup (tCons (tC (.int 0)) tNil)) tNil))) (tCons (tTup (tCons (tTup (tCons (tC (.bl true)) tNil)) tNil)) (tCons (tTup (tCons (tOp (G.rBin K .Mult) (tTup (tCons (tC (.int 0)) tNil)) (tC (.int 17))) tNil)) (tCons (tOp (G.rBin K .Mult) (tTup (tCons (tTup (tCons (tC (.int 0)) tNil)) tNil)) (tC (.int 17))) (tCons (tTup (tCons (tTup (tCons (tUn (rU fun i => .int (-i)) (tC (.int 513))) tNil)) tNil)) tNil))))))))))) (gName 9))
  (tSeq (tAsg (tFn (S__law_pick K) (ac_law K cells acts (TT K) (some (tT K)) 37) W (tCons (tVar 1) (tCons (tVar 9) tNil)) tNil 2 0) (gName 17))
  (tSeq (tIfS (tNot (tTru K (tCB (G.rIsX K) (tCons (tCaught K (ac_law K cells acts (TT K) (some (tT K)) 34) W (tLamV (("law" ++ ".<locals>." : Str)) cells (TT K) (lamB (defBody st_law) 4) (lamC (defBody st_law) 4))) (tCons (tC (.ref (He.ga K "BadPlane"))) tNil)))))
  (tRet (tC (.bl false)))
  tNext)
  (tIfS (tNot (tTru K (tCB (G.rIsX K) (tCons (tCaught K (ac_law K cells acts (TT K) (some (tT K)) 34) W (tLamV (("law" ++ ".<locals>." : Str)) cells (TT K) (lamB (defBody st_law) 5) (lamC (defBody st_law) 5))) (tCons (tC (.ref (He.ga K "BadWay"))) tNil)))))
  (tRet (tC (.bl false)))
  tNext)))))))))) D [some (.ref a), some (.ref st), o2, some (.ref p), some (.ref l4), some (.ref f), o6, o7, o8, o9, o10, o11, some (.ref q0), o13, o14, o15, o16, o17] H := by
  obtain ⟨_, h1, h16, w1, w16, lo0, lohi, hi1⟩ := P.sc.2
  refine sq_asg ?_
  simp only [tWhile, tAnd, tOr, tNot, tTest, tTru, tOp, tUn, tVar, tC, tLst, tTup, tNil, tBM, tBM0, tCons, gSub, tCB, gName, tIf, tFn, tAndT, tOrT, tNotT, tChain, lc_go, iRng1, iRng2, iSeq, tSl, tPart, tNoPart, tAttr, List.getElem?_cons_zero, List.getElem?_cons_succ, List.set_cons_zero, List.set_cons_succ, Option.some.injEq, exists_eq_left']
  refine ⟨rfl, rfl, st, La, Ca, p, _, h, w, lo, hi, rfl, by omega, P.R.d, P.sc, fun b H1 b0 b1 d1 f1 => ?_⟩
  have R1 : Rf (TT K) st La Ca H H1 (t + 1) := P.R.fresh.dr d1 f1
  have P1 := P.go R1
  have pl1 := pl.keep P.R.d R1.n
  refine sq_if ?_
  simp only [tTest, tOp, tCB, tFn, tCons, tNil, tVar, tC, List.getElem?_cons_zero, List.getElem?_cons_succ, List.set_cons_zero, List.set_cons_succ, Option.some.injEq, exists_eq_left']
  refine ⟨rfl, rfl, .ref f, .int b, rfl, trivial, .inr ⟨f, h, w, lo, hi, rfl, P1.sf, fun c => (by rw [btw_of b0 b1] at c; cases c), fun n e n0 n1 p2 H2 np2 s2 pf => ?_⟩⟩
  cases e
  have nf := nice_in (flat_in (by omega) (by omega) b0 b1 : PlIn (flatG h w b) h w lo hi) h16 w16 lo0 hi1
  refine repr_nice (dp_pl pf) nf (by decide) (by decide) ?_
  refine tt_go (cons_op (tt_go ⟨_, rfl, nwT (Nat.le_of_ble_eq_true rfl) fun q1 H3 n3 s3 e3 => ?_⟩))
  have P3 := (P1.same s2).same s3
  refine ⟨_, rfl, four1 P3 (mul_one e3 w1 (by omega) fun q2 H4 hq s4 e4 => nwT (Nat.le_of_ble_eq_true rfl) fun q3 H5 n5 s5 e5 => ?_)⟩
  have P5 := (P3.same s4).same s5
  refine four0 P5 (mul_one e5 h1 (by omega) fun q4 H6 hq6 s6 e6 => ?_)
  have pf6 := flat_at e6 (s6 _ _ (s5 _ _ e4))
  have P6 := P5.same s6
  have pl6 := ((((pl1.same s2).same s3).same s4).same s5).same s6
  refine repr_nice (dp_pl pf6) nf (by decide) (by decide) (neM (ne_str ⟨_, rfl, ?_⟩))
  rw [decide_eq_true rfl, if_neg (by simp)]
  refine sq_if (not_tru ?_)
  simp only [tWhile, tAnd, tOr, tNot, tTest, tTru, tOp, tUn, tVar, tC, tLst, tTup, tNil, tBM, tBM0, tCons, gSub, tCB, gName, tIf, tFn, tAndT, tOrT, tNotT, tChain, lc_go, iRng1, iRng2, iSeq, tSl, tPart, tNoPart, tAttr, List.getElem?_cons_zero, List.getElem?_cons_succ, List.set_cons_zero, List.set_cons_succ, Option.some.injEq, exists_eq_left']
  refine ⟨rfl, rfl, st, p, q0, h, w, lo, hi, g, rfl, P6.sc, pl6, pg, fun H7 s7 => ⟨true, rfl, ?_⟩⟩
  rw [if_neg (by simp)]
  exact partE F (P6.same s7) (by omega) (pl6.same s7) pg fun H' o9 o11 o15 o16 o17 R' => nx H' _ _ _ _ _ _ (R'.mono (by omega))
end
end K03

set_option Elab.async false
set_option linter.all false
set_option maxRecDepth 100000
set_option maxHeartbeats 8000000
namespace K03
open PySem PySem.Spec PyProof.Rows L2 LamX G Pk
section
variable {K : PySem.W.Frag} {cells : List (Str × Addr)} {acts : Acts} {st La Ca a q0 f l4 p : Addr} {H0 H H1 : Hp} {t u h w lo hi : Int} {g : List (List Int)} {W : WX} {D : Ends}
theorem bool_pl {b : Bool} : ∀ d ∈ [PyData.bool b, .bool b], PlD d := by
  intro d hd
  simp only [List.mem_cons, List.not_mem_nil, or_false] at hd
  rcases hd with rfl | rfl <;> exact .inr (.inr (.inr ⟨b, rfl⟩))
theorem partC1 {x : V} {th : Th} {o2 o6 o7 o8 o9 o10 o11 o14 o15 o16 o17 : Option V} (sc : ScAt st H p h w lo hi) (sf : ShAt K H f h w lo hi) (ht : ThAt H x th) (hs : ThS th)
    (nx : ∀ H' o10, Same H H' → D.nx [some (.ref a), some (.ref st), o2, some (.ref p), some (.ref l4), some (.ref f), o6, o7, o8, o9, o10, o11, some (.ref q0), some x, o14, o15, o16, o17] H') :
    (tSeq (tAsg (tFn (S__law_is_pane K) (ac_law K cells acts (TT K) (some (tT K)) 36) W (tCons (tVar 3) (tCons (tVar 13) tNil)) tNil 2 0) (gName 10))
  (tIfS (tTest (tOp (rCmpM K (mtLook (fl_law K) "__eq__") .NotEq) (tCB (G.rRepr K) (tCons (tLst (tCons (tFn (S_is_plane K) (ac_law K cells acts (TT K) (some (tT K)) 33) W (tCons (tVar 5) (tCons (tVar 13) tNil)) tNil 2 0) (tCons (tFn (S_is_plane_k0_thing_shape K) (ac_law K cells acts (TT K) (some (tT K)) 33) W tNil (tCons (tVar 13) (tCons (tVar 5) tNil)) 0 2) tNil))) tNil)) (tCB (G.rRepr K) (tCons (tLst (tCons (tVar 10) (tCons (tVar 10) tNil))) tNil))))
  (tRet (tC (.bl false)))
  tNext)) D [some (.ref a), some (.ref st), o2, some (.ref p), some (.ref l4), some (.ref f), o6, o7, o8, o9, o10, o11, some (.ref q0), some x, o14, o15, o16, o17] H := by
  refine sq_asg ?_
  simp only [tWhile, tAnd, tOr, tNot, tTest, tTru, tOp, tUn, tVar, tC, tLst, tTup, tNil, tBM, tBM0, tCons, gSub, tCB, gName, tIf, tFn, tAndT, tOrT, tNotT, tChain, lc_go, iRng1, iRng2, iSeq, tSl, tPart, tNoPart, tAttr, List.getElem?_cons_zero, List.getElem?_cons_succ, List.set_cons_zero, List.set_cons_succ, Option.some.injEq, exists_eq_left']
  refine ⟨rfl, rfl, st, p, h, w, lo, hi, x, th, rfl, sc, ht, hs, fun H1 s1 => ?_⟩
  refine if_go ?_
  simp only [tTest, tOp, tCB, tFn, tCons, tNil, tVar, tC, List.getElem?_cons_zero, List.getElem?_cons_succ, List.set_cons_zero, List.set_cons_succ, Option.some.injEq, exists_eq_left']
  refine tl_go ?_
  simp only [tFn, tCons, tNil, tVar, List.getElem?_cons_zero, List.getElem?_cons_succ, Option.some.injEq, exists_eq_left']
  refine ⟨rfl, rfl, .ref f, x, rfl, .inr ⟨f, h, w, lo, hi, th, rfl, sf.same s1, ht.same s1, hs, fun H2 s2 => ?_⟩⟩
  refine ⟨rfl, rfl, .ref f, x, rfl, .inr ⟨f, h, w, lo, hi, th, rfl, (sf.same s1).same s2, (ht.same s1).same s2, hs, fun H3 s3 => nwL (Nat.le_of_ble_eq_true rfl) fun l5 H4 n4 s4 e4 => ?_⟩⟩
  refine repr_lst [.bool (planeB h w lo hi th), .bool (planeB h w lo hi th)] (.inl (.inl e4)) bool_pl (Nat.le_of_ble_eq_true rfl) ?_
  refine tl_go ?_
  simp only [tCons, tNil, tVar, List.getElem?_cons_zero, List.getElem?_cons_succ, Option.some.injEq, exists_eq_left']
  refine nwL (Nat.le_of_ble_eq_true rfl) fun l6 H5 n5 s5 e5 => repr_lst [.bool (planeB h w lo hi th), .bool (planeB h w lo hi th)] (.inl (.inl e5)) bool_pl (Nat.le_of_ble_eq_true rfl) (neM (ne_str ⟨_, rfl, ?_⟩))
  rw [decide_eq_true rfl, if_neg (by simp)]
  exact nx H5 _ ((((s1.trans s2).trans s3).trans s4).trans s5)
theorem partC (F : Fc K) {o2 o6 o7 o8 o9 o10 o11 o12 o13 o14 o15 o16 o17 : Option V} (P : Wd K st La Ca p l4 f h w lo hi H0 t H) (tl : t ≤ 2 ^ 36)
    (nx : ∀ H' o8 o9 o10 o11 o12 o13 o14 o15 o16 o17, Rf (TT K) st La Ca H0 H' (t + 1100) → D.nx [some (.ref a), some (.ref st), o2, some (.ref p), some (.ref l4), some (.ref f), o6, o7, o8, o9, o10, o11, o12, o13, o14, o15, o16, o17] H') :
    (tSeq (tAsg (tFn (S__law_pane K) (ac_law K cells acts (TT K) (some (tT K)) 37) W (tCons (tVar 1) (tCons (tVar 3) tNil)) tNil 2 0) (gName 12))
  (tSeq (tFor (iRng1 (tCons (tC (.int 4)) tNil)) (gName 8)
  (tSeq (tAsg (tIf (tTest (tOp (rCmpM K (mtLook (fl_law K) "__eq__") .Eq) (tVar 8) (tC (.int 0)))) (tVar 12) (tFn (S__law_bent K) (ac_law K cells acts (TT K) (some (tT K)) 35) W (tCons (tVar 1) (tCons (tVar 3) (tCons (tVar 12) tNil))) tNil 3 0)) (gName 13))
  (tSeq (tAsg (tFn (S__law_is_pane K) (ac_law K cells acts (TT K) (some (tT K)) 36) W (tCons (tVar 3) (tCons (tVar 13) tNil)) tNil 2 0) (gName 10))
  (tIfS (tTest (tOp (rCmpM K (mtLook (fl_law K) "__eq__") .NotEq) (tCB (G.rRepr K) (tCons (tLst (tCons (tFn (S_is_plane K) (ac_law K cells acts (TT K) (some (tT K)) 33) W (tCons (tVar 5) (tCons (tVar 13) tNil)) tNil 2 0) (tCons (tFn (S_is_plane_k0_thing_shape K) (ac_law K cells acts (TT K) (some (tT K)) 33) W tNil (tCons (tVar 13) (tCons (tVar 5) tNil)) 0 2) tNil))) tNil)) (tCB (G.rRepr K) (tCons (tLst (tCons (tVar 10) (tCons (tVar 10) tNil))) tNil))))
  (tRet (tC (.bl false)))
  tNext))))
  (tSeq (tAsg (tFn (S__law_grain K) (ac_law K cells acts (TT K) (some (tT K)) 37) W (tCons (tVar 1) (tCons (tVar 3) tNil)) tNil 2 0) (gName 14))
  (tSeq (tIfS (tTest (tOp (rCmpM K (mtLook (fl_law K) "__eq__") .NotEq) (tCB (G.rRepr K) (tCons (tFn (S_flat_plane K) (ac_law K cells acts (TT K) (some (tT K)) 35) W (tCons (tVar 5) (tCons (tVar 14) tNil)) tNil 2 0) tNil)) (tCB (G.rRepr K) (tCons (tOp (G.rBin K .Mult) (tTup (tCons (tOp (G.rBin K .Mult) (tTup (tCons (tVar 14) tNil)) (tOp (G.rSub2 K) (tVar 4) (tC (.int 1)))) tNil)) (tOp (G.rSub2 K) (tVar 4) (tC (.int 0)))) tNil))))
  (tRet (tC (.bl false)))
  tNext)
  (tSeq (tIfS (tNot (tTru K (tFn (S__law_turned_right K) (ac_law K cells acts (TT K) (some (tT K)) 35) W (tCons (tVar 1) (tCons (tVar 3) (tCons (tVar 12) tNil))) tNil 3 0)))
  (tRet (tC (.bl false)))
  tNext)
  (tSeq (tAsg (tFn (S__law_pick K) (ac_law K cells acts (TT K) (some (tT K)) 37) W (tCons (tVar 1) (tCons (tLst (tCons (tOp (G.rBin K .Add) (tOp (G.rSub2 K) (tVar 4) (tC (.int 3))) (tC (.int 1))) (tCons (tOp (G.rBin K .Sub) (tOp (G.rSub2 K) (tVar 4) (tC (.int 2))) (tC (.int 1))) (tCons (tC .non) (tCons (tC (.str "0")) (tCons (tTup (tCons (tVar 14) tNil)) (tCons (tC (.bl true)) (tCons (tC (.bl false)) tNil)))))))) tNil)) tNil 2 0) (gName 15))
  (tSeq (tIfS (tNot (tTru K (tCB (G.rIsX K) (tCons (tCaught K (ac_law K cells acts (TT K) (some (tT K)) 34) W (tLamV (("law" ++ ".<locals>." : Str)) cells (TT K) (lamB (defBody st_law) 1) (lamC (defBody st_law) 1))) (tCons (tC (.ref (He.ga K "BadNumber"))) tNil)))))
  (tRet (tC (.bl false)))
  tNext)
  (tSeq (tFor (iSeq K (tLst (tCons (tLamV (("law" ++ ".<locals>." : Str)) cells (TT K) (lamB (defBody st_law) 2) (lamC (defBody st_law) 2)) (tCons (tLamV (("law" ++ ".<locals>." : Str)) cells (TT K) (lamB (defBody st_law) 3) (lamC (defBody st_law) 3)) tNil)))) (gName 16)
  (tSeq (tAsg (tFn (S__law_caught K) (ac_law K cells acts (TT K) (some (tT K)) 36) W (tCons (tVar 16) tNil) tNil 1 0) (gName 11))
  (tIfS (tOr (tNot (tTru K (tCB (G.rIsX K) (tCons (tVar 11) (tCons (tC (.ref (He.ga K "BadShape"))) tNil))))) (tTest (tOp (rCmpM K (mtLook (fl_law K) "__eq__") .IsNot) (tAttr K "part" (tVar 11)) (tC .non))))
  (tRet (tC (.bl false)))
  tNext)))
  (tSeq (tAsg (tLst (tCons (tC .non) (tCons (tTup tNil) (tCons (tTup (tCons (tTup tNil) tNil)) (tCons (tLst (tCons (tVar 12) tNil)) (tCons (tTup (tCons (tTup (tCons (tC (.int 512)) tNil)) tNil)) (tCons (tTup (tCons (tTup (tCons (tC (.int 0)) (tCons (tC (.int 1)) tNil))) (tCons (tTup (tCons (tC (.int 0)) tNil)) tNil))) (tCons (tTup (tCons (tTup (tCons (tC (.bl true)) tNil)) tNil)) (tCons (tTup (tCons (tOp (G.rBin K .Mult) (tTup (tCons (tC (.int 0)) tNil)) (tC (.int 17))) tNil)) (tCons (tOp (G.rBin K .Mult) (tTup (tCons (tTup (tCons (tC (.int 0)) tNil)) tNil)) (tC (.int 17))) (tCons (tTup (tCons (tTup (tCons (tUn (rU fun i => .int (-i)) (tC (.int 513))) tNil)) tNil)) tNil))))))))))) (gName 9))
  (tSeq (tAsg (tFn (S__law_pick K) (ac_law K cells acts (TT K) (some (tT K)) 37) W (tCons (tVar 1) (tCons (tVar 9) tNil)) tNil 2 0) (gName 17))
  (tSeq (tIfS (tNot (tTru K (tCB (G.rIsX K) (tCons (tCaught K (ac_law K cells acts (TT K) (some (tT K)) 34) W (tLamV (("law" ++ ".<locals>." : Str)) cells (TT K) (lamB (defBody st_law) 4) (lamC (defBody st_law) 4))) (tCons (tC (.ref (He.ga K "BadPlane"))) tNil)))))
  (tRet (tC (.bl false)))
  tNext)
  (tIfS (tNot (tTru K (tCB (G.rIsX K) (tCons (tCaught K (ac_law K cells acts (TT K) (some (tT K)) 34) W (tLamV (("law" ++ ".<locals>." : Str)) cells (TT K) (lamB (defBody st_law) 5) (lamC (defBody st_law) 5))) (tCons (tC (.ref (He.ga K "BadWay"))) tNil)))))
  (tRet (tC (.bl false)))
  tNext)))))))))))) D [some (.ref a), some (.ref st), o2, some (.ref p), some (.ref l4), some (.ref f), o6, o7, o8, o9, o10, o11, o12, o13, o14, o15, o16, o17] H := by
  refine sq_asg ?_
  simp only [tWhile, tAnd, tOr, tNot, tTest, tTru, tOp, tUn, tVar, tC, tLst, tTup, tNil, tBM, tBM0, tCons, gSub, tCB, gName, tIf, tFn, tAndT, tOrT, tNotT, tChain, lc_go, iRng1, iRng2, iSeq, tSl, tPart, tNoPart, tAttr, List.getElem?_cons_zero, List.getElem?_cons_succ, List.set_cons_zero, List.set_cons_succ, Option.some.injEq, exists_eq_left']
  refine ⟨rfl, rfl, st, La, Ca, p, t, h, w, lo, hi, rfl, by omega, P.R.d, P.sc, fun q0 g H1 nq pl pg d1 f1 => ?_⟩
  have R1 : Rf (TT K) st La Ca H H1 (t + 1000) := P.R.fresh.dr d1 f1
  have P1 := P.go R1
  refine sq_for ?_
  simp only [tWhile, tAnd, tOr, tNot, tTest, tTru, tOp, tUn, tVar, tC, tLst, tTup, tNil, tBM, tBM0, tCons, gSub, tCB, gName, tIf, tFn, tAndT, tOrT, tNotT, tChain, lc_go, iRng1, iRng2, iSeq, tSl, tPart, tNoPart, tAttr, List.getElem?_cons_zero, List.getElem?_cons_succ, List.set_cons_zero, List.set_cons_succ, Option.some.injEq, exists_eq_left']
  refine ⟨4, rfl, by decide, by decide, ?_⟩
  refine go_rng (fun i σ H' => Rf (TT K) st La Ca H1 H' (t + 1000 + 10 * i) ∧ ∃ o8 o10 o13, σ = [some (.ref a), some (.ref st), o2, some (.ref p), some (.ref l4), some (.ref f), o6, o7, o8, o9, o10, o11, some (.ref q0), o13, o14, o15, o16, o17]) ⟨P1.R.fresh.mono (by omega), _, _, _, rfl⟩ ?_ ?_
  · rintro i σ H2 hi2 ⟨R2, o8, o10, o13, rfl⟩
    have hi4 : i < 4 := hi2
    have P2 := P1.go R2
    have pl2 := pl.keep P1.R.d R2.n
    refine sq_asg ?_
    simp only [tIf, tWhile, tAnd, tOr, tNot, tTest, tTru, tOp, tUn, tVar, tC, tLst, tTup, tNil, tBM, tBM0, tCons, gSub, tCB, gName, tIf, tFn, tAndT, tOrT, tNotT, tChain, lc_go, iRng1, iRng2, iSeq, tSl, tPart, tNoPart, tAttr, List.getElem?_cons_zero, List.getElem?_cons_succ, List.set_cons_zero, List.set_cons_succ, Option.some.injEq, exists_eq_left']
    refine eqM (eq_int ⟨_, rfl, ?_⟩)
    by_cases c : (0 : Int) + i = 0
    · rw [if_pos (decide_eq_true c)]
      exact partC1 P2.sc P2.sf pl2.th (ths_in pg P2.sc.2.2.2.1 P2.sc.2.2.2.2.2.1) fun H' o10 s' => ⟨(Rf.same R2 s').mono (by omega), _, _, _, rfl⟩
    · rw [if_neg (by simp only [decide_eq_true_eq]; exact c)]
      refine ⟨rfl, rfl, st, La, Ca, p, q0, _, h, w, lo, hi, g, rfl, by omega, P2.R.d, P2.sc, pl2, pg, fun x th H3 ht hs d3 f3 => ?_⟩
      have R3 : Rf (TT K) st La Ca H2 H3 (t + 1000 + 10 * i + 10) := P2.R.fresh.dr d3 f3
      have P3 := P2.go R3
      exact partC1 P3.sc P3.sf ht hs fun H' o10 s' => ⟨(Rf.same (R2.trans R3) s').mono (by omega), _, _, _, rfl⟩
  · rintro σ H2 ⟨R2, o8, o10, o13, rfl⟩
    exact partD F (P1.go R2) (by omega) (pl.keep P1.R.d R2.n) pg fun H' o9 o11 o14 o15 o16 o17 R' => nx H' _ _ _ _ _ _ _ _ _ _ (R'.mono (by omega))
end
end K03

set_option Elab.async false
set_option linter.all false
set_option maxRecDepth 100000
set_option maxHeartbeats 8000000
namespace K03
open PySem PySem.Spec PyProof.Rows L2 LamX G Pk
section
variable {K : PySem.W.Frag} {cells : List (Str × Addr)} {acts : Acts} {st La Ca a q0 f l4 p : Addr} {H0 H H1 : Hp} {t u h w lo hi : Int} {g : List (List Int)} {W : WX} {D : Ends} {x y z v : V} {Q : VK} {E : XK}
/-- a shape is made, or the first part that is wrong is told -/
theorem init_go {i dx : Addr} (hi : H i = none) (hdx : H dx = none) (nx : dx ≠ i) (kx : Kd H x) (ky : Kd H y) (kz : Kd H z) (kv : Kd H v)
    (err : ∀ s H', dueV x y z v = .str s → Same H H' → ErrP K "BadShape" "part" (.str s) H' E)
    (ok : ∀ h w lo hi, x = .int h → y = .int w → z = .int lo → v = .int hi → dueV x y z v = .non → ∀ H', Same H H' → ShAt K H' i h w lo hi → Q (.ref i) H') :
    sp_shape_init K [.ref i, x, y, z, v] (upd (upd H dx (.own i)) i (.ins (shC K) dx [])) (fun r H2 => r = .non ∧ Q (.ref i) H2) E := by
  have s1 : Same H (upd (upd H dx (.own i)) i (.ins (shC K) dx [])) := same_newS (same_new (Same.refl _) hdx) (by rw [upd_ne (Ne.symm nx)]; exact hi)
  have kS : ∀ {v : V}, Kd H v → Kd (upd (upd H dx (.own i)) i (.ins (shC K) dx [])) v := fun {v} k => by
    cases v with
    | ref a =>
      rcases k with ⟨xs, e⟩ | ⟨xs, e⟩ | ⟨xs, e⟩
      · exact .inl ⟨xs, s1 _ _ e⟩
      · exact .inr (.inl ⟨xs, s1 _ _ e⟩)
      · exact .inr (.inr ⟨xs, s1 _ _ e⟩)
    | _ => exact k
  unfold dueV at err ok
  refine ⟨i, dx, x, y, z, v, rfl, upd_same, kS kx, kS ky, kS kz, kS kv, fun c => err _ _ (by rw [if_pos c]) s1, fun c1 c2 => err _ _ (by rw [c1, if_neg (by simp), if_pos c2]) s1, fun c1 c2 c3 => err _ _ (by rw [c1, if_neg (by simp), c2, if_neg (by simp), if_pos c3]) s1, fun lo c1 c2 e l0 l1 => ?_⟩
  subst e
  have c3 : btw (.int lo) (-512) 511 = true := btw_of l0 l1
  refine ⟨fun c4 => err _ _ (by rw [c1, if_neg (by simp), c2, if_neg (by simp), c3, if_neg (by simp)]; show (if btw v lo 511 = true then V.non else V.str "high") = _; rw [c4]; rfl) s1, fun h w hi2 e1 e2 e3 b1 b2 => ⟨rfl, ?_⟩⟩
  subst e1 e2 e3
  obtain ⟨h', eh, h1, h16⟩ := btw_int c1
  obtain ⟨w', ew, w1, w16⟩ := btw_int c2
  cases eh
  cases ew
  refine ok h w lo hi2 rfl rfl rfl rfl (by rw [c1, if_neg (by simp), c2, if_neg (by simp), c3, if_neg (by simp)]; show (if btw (.int hi2) lo 511 = true then V.non else V.str "high") = _; rw [btw_of b1 b2]; rfl) _ (fun b o e => ?_) ⟨⟨dx, .non, upd_same⟩, h1, h16, w1, w16, l0, b1, b2⟩
  rw [upd_upd, upd_ne (ne_of_none e hi), upd_ne (ne_of_none e hdx)]
  exact e
theorem shape_go {ac : Acts} (kx : Kd H x) (ky : Kd H y) (kz : Kd H z) (kv : Kd H v)
    (err : ∀ s H', dueV x y z v = .str s → Same H H' → ErrP K "BadShape" "part" (.str s) H' E)
    (ok : ∀ h w lo hi, x = .int h → y = .int w → z = .int lo → v = .int hi → dueV x y z v = .non → ∀ i H', Same H H' → ShAt K H' i h w lo hi → Q (.ref i) H') : S_Shape K ac [x, y, z, v] [] H Q E :=
  fun i dx hi hdx nx => init_go hi hdx nx kx ky kz kv err fun h w lo hi2 e1 e2 e3 e4 e5 H' s' sa => ok h w lo hi2 e1 e2 e3 e4 e5 i H' s' sa
theorem shape_int {ac : Acts} (h1 : 1 ≤ h) (h16 : h ≤ 16) (w1 : 1 ≤ w) (w16 : w ≤ 16) (l0 : -512 ≤ lo) (lh : lo ≤ hi) (l1 : hi ≤ 511)
    (ok : ∀ i H', Same H H' → ShAt K H' i h w lo hi → Q (.ref i) H') : S_Shape K ac [.int h, .int w, .int lo, .int hi] [] H Q E := by
  have du : dueV (.int h) (.int w) (.int lo) (.int hi) = .non := by
    unfold dueV
    rw [btw_of h1 h16, if_neg (by simp), btw_of w1 w16, if_neg (by simp), btw_of l0 (by omega : lo ≤ 511), if_neg (by simp)]
    show (if btw (.int hi) lo 511 = true then V.non else V.str "high") = _
    rw [btw_of lh l1]
    rfl
  refine shape_go trivial trivial trivial trivial (fun s H' e => by rw [du] at e; cases e) fun h' w' lo' hi' e1 e2 e3 e4 _ i H' s' sa => ?_
  cases e1
  cases e2
  cases e3
  cases e4
  exact ok i H' s' sa
theorem shapeK_int {ac : Acts} (h1 : 1 ≤ h) (h16 : h ≤ 16) (w1 : 1 ≤ w) (w16 : w ≤ 16) (l0 : -512 ≤ lo) (lh : lo ≤ hi) (l1 : hi ≤ 511)
    (ok : ∀ i H', Same H H' → ShAt K H' i h w lo hi → Q (.ref i) H') : S_Shape_k0_high_low_width_height K ac [] [.int hi, .int lo, .int w, .int h] H Q E :=
  shape_int (ac := ac) h1 h16 w1 w16 l0 lh l1 ok
theorem mt_eq : mtLook (fl_law K) "__eq__" (shC K) 1 = some (4, S_Shape___eq__ K) := by
  simp [mtLook]
/-- two shapes compared -/
theorem sh_eq {b : Addr} {h2 w2 lo2 hi2 : Int} (sa : ShAt K H a h w lo hi) (sb : ShAt K H b h2 w2 lo2 hi2) (q : ∀ H', Same H H' → Q (.bl (decide (h = h2 ∧ w = w2 ∧ lo = lo2 ∧ hi = hi2))) H') : rCmpM K (mtLook (fl_law K) "__eq__") .Eq (.ref a) (.ref b) H Q := by
  obtain ⟨⟨dx, oc, ea⟩, _⟩ := id sa
  obtain ⟨⟨dy, oc2, eb⟩, _⟩ := id sb
  exact .inr ⟨a, _, dx, _, _, rfl, ea, mt_eq, .inl ⟨b, dy, _, rfl, eb⟩, fun c => (nomatch c), a, h, w, lo, hi, .ref b, rfl, sa, .inr ⟨b, h2, w2, lo2, hi2, rfl, sb, fun H' s => ⟨_, rfl, q H' s⟩⟩⟩
theorem sh_ne (F : Fc K) {b : Addr} {h2 w2 lo2 hi2 : Int} (sa : ShAt K H a h w lo hi) (sb : ShAt K H b h2 w2 lo2 hi2) (q : ∀ H', Same H H' → Q (.bl (!decide (h = h2 ∧ w = w2 ∧ lo = lo2 ∧ hi = hi2))) H') : rCmpM K (mtLook (fl_law K) "__eq__") .NotEq (.ref a) (.ref b) H Q := by
  obtain ⟨⟨dx, oc, ea⟩, _⟩ := id sa
  obtain ⟨⟨dy, oc2, eb⟩, _⟩ := id sb
  exact .inr ⟨a, _, dx, _, _, rfl, ea, mt_eq, .inl ⟨b, dy, _, rfl, eb⟩, fun _ => F.ne, a, h, w, lo, hi, .ref b, rfl, sa, .inr ⟨b, h2, w2, lo2, hi2, rfl, sb, fun H' s => ⟨_, rfl, q H' s⟩⟩⟩
theorem sh_tup (F : Fc K) {b : Addr} {xs : List V} (sa : ShAt K H a h w lo hi) (e : H b = some (.tup xs)) (q : Q (.bl false) H) : rCmpM K (mtLook (fl_law K) "__eq__") .Eq (.ref a) (.ref b) H Q := by
  obtain ⟨⟨dx, oc, ea⟩, _⟩ := id sa
  exact .inr ⟨a, _, dx, _, _, rfl, ea, mt_eq, .inr (.inr ⟨b, xs, rfl, .inl (.inl e), F.nt⟩), fun c => (nomatch c), a, h, w, lo, hi, .ref b, rfl, sa, .inl ⟨.inr (.inl ⟨xs, e⟩), _, rfl, q⟩⟩
theorem sh_non (F : Fc K) (sa : ShAt K H a h w lo hi) (q : Q (.bl false) H) : rCmpM K (mtLook (fl_law K) "__eq__") .Eq (.ref a) .non H Q := by
  obtain ⟨⟨dx, oc, ea⟩, _⟩ := id sa
  exact .inr ⟨a, _, dx, _, _, rfl, ea, mt_eq, .inr (.inl ⟨rfl, F.nn⟩), fun c => (nomatch c), a, h, w, lo, hi, .non, rfl, sa, .inl ⟨trivial, _, rfl, q⟩⟩
end
end K03

set_option Elab.async false
set_option linter.all false
set_option maxRecDepth 100000
set_option maxHeartbeats 8000000
namespace K03
open PySem PySem.Spec PyProof.Rows L2 LamX G Pk
section
variable {K : PySem.W.Frag} {cells : List (Str × Addr)} {acts : Acts} {st La Ca a q0 f l4 l7 p : Addr} {H0 H H1 : Hp} {t u h w lo hi : Int} {g : List (List Int)} {W : WX} {D : Ends}
/-- the shape was refused -/
theorem partB1 (F : Fc K) {s : Str} {a3 d3 : Addr} {o2 o6 o7 o8 o9 o12 o13 o14 o15 o16 o17 : Option V} (P : Wd K st La Ca p l4 f h w lo hi H0 t H) (tl : t ≤ 2 ^ 36) (ea : H a3 = some (ExT (bad K "BadShape") (some d3) a3)) (ed : H d3 = some (.xd [("part", .str s)]))
    (nx : ∀ H' o8 o9 o10 o11 o12 o13 o14 o15 o16 o17, Rf (TT K) st La Ca H0 H' (t + 1100) → D.nx [some (.ref a), some (.ref st), o2, some (.ref p), some (.ref l4), some (.ref f), o6, o7, o8, o9, o10, o11, o12, o13, o14, o15, o16, o17] H') :
    (tSeq (tIfS (tAnd (tTest (tOp (rCmpM K (mtLook (fl_law K) "__eq__") .Is) (tVar 10) (tC .non))) (tTest (tOp (rCmpM K (mtLook (fl_law K) "__eq__") .IsNot) (tVar 11) (tC .non))))
  (tRet (tC (.bl false)))
  tNext)
  (tSeq (tIfS (tAnd (tTest (tOp (rCmpM K (mtLook (fl_law K) "__eq__") .Is) (tVar 10) (tC .non))) (tTest (tOp (rCmpM K (mtLook (fl_law K) "__eq__") .NotEq) (tOp (rCmpM K (mtLook (fl_law K) "__eq__") .Eq) (tFn (S_Shape K) (ac_law K cells acts (TT K) (some (tT K)) 34) W (tCons (tOp (G.rSub2 K) (tVar 7) (tC (.int 0))) (tCons (tOp (G.rSub2 K) (tVar 7) (tC (.int 1))) (tCons (tOp (G.rSub2 K) (tVar 7) (tC (.int 2))) (tCons (tOp (G.rSub2 K) (tVar 7) (tC (.int 3))) tNil)))) tNil 4 0) (tVar 5)) (tOp (rCmpM K (mtLook (fl_law K) "__eq__") .Eq) (tVar 7) (tVar 4)))))
  (tRet (tC (.bl false)))
  tNext)
  (tSeq (tIfS (tAnd (tTest (tOp (rCmpM K (mtLook (fl_law K) "__eq__") .IsNot) (tVar 10) (tC .non))) (tOr (tNot (tTru K (tCB (G.rIsX K) (tCons (tVar 11) (tCons (tC (.ref (He.ga K "BadShape"))) tNil))))) (tTest (tOp (rCmpM K (mtLook (fl_law K) "__eq__") .NotEq) (tAttr K "part" (tVar 11)) (tVar 10)))))
  (tRet (tC (.bl false)))
  tNext)
  (tSeq (tAsg (tFn (S__law_pane K) (ac_law K cells acts (TT K) (some (tT K)) 37) W (tCons (tVar 1) (tCons (tVar 3) tNil)) tNil 2 0) (gName 12))
  (tSeq (tFor (iRng1 (tCons (tC (.int 4)) tNil)) (gName 8)
  (tSeq (tAsg (tIf (tTest (tOp (rCmpM K (mtLook (fl_law K) "__eq__") .Eq) (tVar 8) (tC (.int 0)))) (tVar 12) (tFn (S__law_bent K) (ac_law K cells acts (TT K) (some (tT K)) 35) W (tCons (tVar 1) (tCons (tVar 3) (tCons (tVar 12) tNil))) tNil 3 0)) (gName 13))
  (tSeq (tAsg (tFn (S__law_is_pane K) (ac_law K cells acts (TT K) (some (tT K)) 36) W (tCons (tVar 3) (tCons (tVar 13) tNil)) tNil 2 0) (gName 10))
  (tIfS (tTest (tOp (rCmpM K (mtLook (fl_law K) "__eq__") .NotEq) (tCB (G.rRepr K) (tCons (tLst (tCons (tFn (S_is_plane K) (ac_law K cells acts (TT K) (some (tT K)) 33) W (tCons (tVar 5) (tCons (tVar 13) tNil)) tNil 2 0) (tCons (tFn (S_is_plane_k0_thing_shape K) (ac_law K cells acts (TT K) (some (tT K)) 33) W tNil (tCons (tVar 13) (tCons (tVar 5) tNil)) 0 2) tNil))) tNil)) (tCB (G.rRepr K) (tCons (tLst (tCons (tVar 10) (tCons (tVar 10) tNil))) tNil))))
  (tRet (tC (.bl false)))
  tNext))))
  (tSeq (tAsg (tFn (S__law_grain K) (ac_law K cells acts (TT K) (some (tT K)) 37) W (tCons (tVar 1) (tCons (tVar 3) tNil)) tNil 2 0) (gName 14))
  (tSeq (tIfS (tTest (tOp (rCmpM K (mtLook (fl_law K) "__eq__") .NotEq) (tCB (G.rRepr K) (tCons (tFn (S_flat_plane K) (ac_law K cells acts (TT K) (some (tT K)) 35) W (tCons (tVar 5) (tCons (tVar 14) tNil)) tNil 2 0) tNil)) (tCB (G.rRepr K) (tCons (tOp (G.rBin K .Mult) (tTup (tCons (tOp (G.rBin K .Mult) (tTup (tCons (tVar 14) tNil)) (tOp (G.rSub2 K) (tVar 4) (tC (.int 1)))) tNil)) (tOp (G.rSub2 K) (tVar 4) (tC (.int 0)))) tNil))))
  (tRet (tC (.bl false)))
  tNext)
  (tSeq (tIfS (tNot (tTru K (tFn (S__law_turned_right K) (ac_law K cells acts (TT K) (some (tT K)) 35) W (tCons (tVar 1) (tCons (tVar 3) (tCons (tVar 12) tNil))) tNil 3 0)))
  (tRet (tC (.bl false)))
  tNext)
  (tSeq (tAsg (tFn (S__law_pick K) (ac_law K cells acts (TT K) (some (tT K)) 37) W (tCons (tVar 1) (tCons (tLst (tCons (tOp (G.rBin K .Add) (tOp (G.rSub2 K) (tVar 4) (tC (.int 3))) (tC (.int 1))) (tCons (tOp (G.rBin K .Sub) (tOp (G.rSub2 K) (tVar 4) (tC (.int 2))) (tC (.int 1))) (tCons (tC .non) (tCons (tC (.str "0")) (tCons (tTup (tCons (tVar 14) tNil)) (tCons (tC (.bl true)) (tCons (tC (.bl false)) tNil)))))))) tNil)) tNil 2 0) (gName 15))
  (tSeq (tIfS (tNot (tTru K (tCB (G.rIsX K) (tCons (tCaught K (ac_law K cells acts (TT K) (some (tT K)) 34) W (tLamV (("law" ++ ".<locals>." : Str)) cells (TT K) (lamB (defBody st_law) 1) (lamC (defBody st_law) 1))) (tCons (tC (.ref (He.ga K "BadNumber"))) tNil)))))
  (tRet (tC (.bl false)))
  tNext)
  (tSeq (tFor (iSeq K (tLst (tCons (tLamV (("law" ++ ".<locals>." : Str)) cells (TT K) (lamB (defBody st_law) 2) (lamC (defBody st_law) 2)) (tCons (tLamV (("law" ++ ".<locals>." : Str)) cells (TT K) (lamB (defBody st_law) 3) (lamC (defBody st_law) 3)) tNil)))) (gName 16)
  (tSeq (tAsg (tFn (S__law_caught K) (ac_law K cells acts (TT K) (some (tT K)) 36) W (tCons (tVar 16) tNil) tNil 1 0) (gName 11))
  (tIfS (tOr (tNot (tTru K (tCB (G.rIsX K) (tCons (tVar 11) (tCons (tC (.ref (He.ga K "BadShape"))) tNil))))) (tTest (tOp (rCmpM K (mtLook (fl_law K) "__eq__") .IsNot) (tAttr K "part" (tVar 11)) (tC .non))))
  (tRet (tC (.bl false)))
  tNext)))
  (tSeq (tAsg (tLst (tCons (tC .non) (tCons (tTup tNil) (tCons (tTup (tCons (tTup tNil) tNil)) (tCons (tLst (tCons (tVar 12) tNil)) (tCons (tTup (tCons (tTup (tCons (tC (.int 512)) tNil)) tNil)) (tCons (tTup (tCons (tTup (tCons (tC (.int 0)) (tCons (tC (.int 1)) tNil))) (tCons (tTup (tCons (tC (.int 0)) tNil)) tNil))) (tCons (tTup (tCons (tTup (tCons (tC (.bl true)) tNil)) tNil)) (tCons (tTup (tCons (tOp (G.rBin K .Mult) (tTup (tCons (tC (.int 0)) tNil)) (tC (.int 17))) tNil)) (tCons (tOp (G.rBin K .Mult) (tTup (tCons (tTup (tCons (tC (.int 0)) tNil)) tNil)) (tC (.int 17))) (tCons (tTup (tCons (tTup (tCons (tUn (rU fun i => .int (-i)) (tC (.int 513))) tNil)) tNil)) tNil))))))))))) (gName 9))
  (tSeq (tAsg (tFn (S__law_pick K) (ac_law K cells acts (TT K) (some (tT K)) 37) W (tCons (tVar 1) (tCons (tVar 9) tNil)) tNil 2 0) (gName 17))
  (tSeq (tIfS (tNot (tTru K (tCB (G.rIsX K) (tCons (tCaught K (ac_law K cells acts (TT K) (some (tT K)) 34) W (tLamV (("law" ++ ".<locals>." : Str)) cells (TT K) (lamB (defBody st_law) 4) (lamC (defBody st_law) 4))) (tCons (tC (.ref (He.ga K "BadPlane"))) tNil)))))
  (tRet (tC (.bl false)))
  tNext)
  (tIfS (tNot (tTru K (tCB (G.rIsX K) (tCons (tCaught K (ac_law K cells acts (TT K) (some (tT K)) 34) W (tLamV (("law" ++ ".<locals>." : Str)) cells (TT K) (lamB (defBody st_law) 5) (lamC (defBody st_law) 5))) (tCons (tC (.ref (He.ga K "BadWay"))) tNil)))))
  (tRet (tC (.bl false)))
  tNext))))))))))))))) D [some (.ref a), some (.ref st), o2, some (.ref p), some (.ref l4), some (.ref f), o6, o7, o8, o9, some (.str s), some (.ref a3), o12, o13, o14, o15, o16, o17] H := by
  refine sq_if ?_
  simp only [tWhile, tAnd, tOr, tNot, tTest, tTru, tOp, tUn, tVar, tC, tLst, tTup, tNil, tBM, tBM0, tCons, gSub, tCB, gName, tIf, tFn, tAndT, tOrT, tNotT, tChain, lc_go, iRng1, iRng2, iSeq, tSl, tPart, tNoPart, tAttr, List.getElem?_cons_zero, List.getElem?_cons_succ, List.set_cons_zero, List.set_cons_succ, Option.some.injEq, exists_eq_left']
  refine isM ⟨_, rfl, ?_⟩
  rw [if_neg (by simp), if_neg (by simp)]
  refine sq_if ?_
  simp only [tWhile, tAnd, tOr, tNot, tTest, tTru, tOp, tUn, tVar, tC, tLst, tTup, tNil, tBM, tBM0, tCons, gSub, tCB, gName, tIf, tFn, tAndT, tOrT, tNotT, tChain, lc_go, iRng1, iRng2, iSeq, tSl, tPart, tNoPart, tAttr, List.getElem?_cons_zero, List.getElem?_cons_succ, List.set_cons_zero, List.set_cons_succ, Option.some.injEq, exists_eq_left']
  refine isM ⟨_, rfl, ?_⟩
  rw [if_neg (by simp), if_neg (by simp)]
  refine sq_if ?_
  simp only [tWhile, tAnd, tOr, tNot, tTest, tTru, tOp, tUn, tVar, tC, tLst, tTup, tNil, tBM, tBM0, tCons, gSub, tCB, gName, tIf, tFn, tAndT, tOrT, tNotT, tChain, lc_go, iRng1, iRng2, iSeq, tSl, tPart, tNoPart, tAttr, List.getElem?_cons_zero, List.getElem?_cons_succ, List.set_cons_zero, List.set_cons_succ, Option.some.injEq, exists_eq_left']
  refine isnotM ⟨_, rfl, ?_⟩
  rw [if_pos (by simp)]
  refine isx_errd F.sh.ce ea ed F.sh.ce.one ⟨_, rfl, ?_⟩
  rw [if_neg (by simp)]
  refine .inr ⟨a3, _, d3, _, .str s, rfl, ea, ed, rfl, F.sh.xf, F.sh.nf, neM (ne_str ⟨_, rfl, ?_⟩)⟩
  rw [decide_eq_true rfl, if_neg (by simp)]
  exact partC F P tl nx
/-- the shape was made -/
theorem partB2 (F : Fc K) {h2 w2 lo2 hi2 : Int} {o2 o6 o8 o9 o12 o13 o14 o15 o16 o17 : Option V} (P : Wd K st La Ca p l4 f h w lo hi H0 t H) (tl : t ≤ 2 ^ 36) (e7 : H l7 = some (.lst [.int h2, .int w2, .int lo2, .int hi2])) (du : dueV (.int h2) (.int w2) (.int lo2) (.int hi2) = .non)
    (nx : ∀ H' o8 o9 o10 o11 o12 o13 o14 o15 o16 o17, Rf (TT K) st La Ca H0 H' (t + 1100) → D.nx [some (.ref a), some (.ref st), o2, some (.ref p), some (.ref l4), some (.ref f), o6, some (.ref l7), o8, o9, o10, o11, o12, o13, o14, o15, o16, o17] H') :
    (tSeq (tIfS (tAnd (tTest (tOp (rCmpM K (mtLook (fl_law K) "__eq__") .Is) (tVar 10) (tC .non))) (tTest (tOp (rCmpM K (mtLook (fl_law K) "__eq__") .IsNot) (tVar 11) (tC .non))))
  (tRet (tC (.bl false)))
  tNext)
  (tSeq (tIfS (tAnd (tTest (tOp (rCmpM K (mtLook (fl_law K) "__eq__") .Is) (tVar 10) (tC .non))) (tTest (tOp (rCmpM K (mtLook (fl_law K) "__eq__") .NotEq) (tOp (rCmpM K (mtLook (fl_law K) "__eq__") .Eq) (tFn (S_Shape K) (ac_law K cells acts (TT K) (some (tT K)) 34) W (tCons (tOp (G.rSub2 K) (tVar 7) (tC (.int 0))) (tCons (tOp (G.rSub2 K) (tVar 7) (tC (.int 1))) (tCons (tOp (G.rSub2 K) (tVar 7) (tC (.int 2))) (tCons (tOp (G.rSub2 K) (tVar 7) (tC (.int 3))) tNil)))) tNil 4 0) (tVar 5)) (tOp (rCmpM K (mtLook (fl_law K) "__eq__") .Eq) (tVar 7) (tVar 4)))))
  (tRet (tC (.bl false)))
  tNext)
  (tSeq (tIfS (tAnd (tTest (tOp (rCmpM K (mtLook (fl_law K) "__eq__") .IsNot) (tVar 10) (tC .non))) (tOr (tNot (tTru K (tCB (G.rIsX K) (tCons (tVar 11) (tCons (tC (.ref (He.ga K "BadShape"))) tNil))))) (tTest (tOp (rCmpM K (mtLook (fl_law K) "__eq__") .NotEq) (tAttr K "part" (tVar 11)) (tVar 10)))))
  (tRet (tC (.bl false)))
  tNext)
  (tSeq (tAsg (tFn (S__law_pane K) (ac_law K cells acts (TT K) (some (tT K)) 37) W (tCons (tVar 1) (tCons (tVar 3) tNil)) tNil 2 0) (gName 12))
  (tSeq (tFor (iRng1 (tCons (tC (.int 4)) tNil)) (gName 8)
  (tSeq (tAsg (tIf (tTest (tOp (rCmpM K (mtLook (fl_law K) "__eq__") .Eq) (tVar 8) (tC (.int 0)))) (tVar 12) (tFn (S__law_bent K) (ac_law K cells acts (TT K) (some (tT K)) 35) W (tCons (tVar 1) (tCons (tVar 3) (tCons (tVar 12) tNil))) tNil 3 0)) (gName 13))
  (tSeq (tAsg (tFn (S__law_is_pane K) (ac_law K cells acts (TT K) (some (tT K)) 36) W (tCons (tVar 3) (tCons (tVar 13) tNil)) tNil 2 0) (gName 10))
  (tIfS (tTest (tOp (rCmpM K (mtLook (fl_law K) "__eq__") .NotEq) (tCB (G.rRepr K) (tCons (tLst (tCons (tFn (S_is_plane K) (ac_law K cells acts (TT K) (some (tT K)) 33) W (tCons (tVar 5) (tCons (tVar 13) tNil)) tNil 2 0) (tCons (tFn (S_is_plane_k0_thing_shape K) (ac_law K cells acts (TT K) (some (tT K)) 33) W tNil (tCons (tVar 13) (tCons (tVar 5) tNil)) 0 2) tNil))) tNil)) (tCB (G.rRepr K) (tCons (tLst (tCons (tVar 10) (tCons (tVar 10) tNil))) tNil))))
  (tRet (tC (.bl false)))
  tNext))))
  (tSeq (tAsg (tFn (S__law_grain K) (ac_law K cells acts (TT K) (some (tT K)) 37) W (tCons (tVar 1) (tCons (tVar 3) tNil)) tNil 2 0) (gName 14))
  (tSeq (tIfS (tTest (tOp (rCmpM K (mtLook (fl_law K) "__eq__") .NotEq) (tCB (G.rRepr K) (tCons (tFn (S_flat_plane K) (ac_law K cells acts (TT K) (some (tT K)) 35) W (tCons (tVar 5) (tCons (tVar 14) tNil)) tNil 2 0) tNil)) (tCB (G.rRepr K) (tCons (tOp (G.rBin K .Mult) (tTup (tCons (tOp (G.rBin K .Mult) (tTup (tCons (tVar 14) tNil)) (tOp (G.rSub2 K) (tVar 4) (tC (.int 1)))) tNil)) (tOp (G.rSub2 K) (tVar 4) (tC (.int 0)))) tNil))))
  (tRet (tC (.bl false)))
  tNext)
  (tSeq (tIfS (tNot (tTru K (tFn (S__law_turned_right K) (ac_law K cells acts (TT K) (some (tT K)) 35) W (tCons (tVar 1) (tCons (tVar 3) (tCons (tVar 12) tNil))) tNil 3 0)))
  (tRet (tC (.bl false)))
  tNext)
  (tSeq (tAsg (tFn (S__law_pick K) (ac_law K cells acts (TT K) (some (tT K)) 37) W (tCons (tVar 1) (tCons (tLst (tCons (tOp (G.rBin K .Add) (tOp (G.rSub2 K) (tVar 4) (tC (.int 3))) (tC (.int 1))) (tCons (tOp (G.rBin K .Sub) (tOp (G.rSub2 K) (tVar 4) (tC (.int 2))) (tC (.int 1))) (tCons (tC .non) (tCons (tC (.str "0")) (tCons (tTup (tCons (tVar 14) tNil)) (tCons (tC (.bl true)) (tCons (tC (.bl false)) tNil)))))))) tNil)) tNil 2 0) (gName 15))
  (tSeq (tIfS (tNot (tTru K (tCB (G.rIsX K) (tCons (tCaught K (ac_law K cells acts (TT K) (some (tT K)) 34) W (tLamV (("law" ++ ".<locals>." : Str)) cells (TT K) (lamB (defBody st_law) 1) (lamC (defBody st_law) 1))) (tCons (tC (.ref (He.ga K "BadNumber"))) tNil)))))
  (tRet (tC (.bl false)))
  tNext)
  (tSeq (tFor (iSeq K (tLst (tCons (tLamV (("law" ++ ".<locals>." : Str)) cells (TT K) (lamB (defBody st_law) 2) (lamC (defBody st_law) 2)) (tCons (tLamV (("law" ++ ".<locals>." : Str)) cells (TT K) (lamB (defBody st_law) 3) (lamC (defBody st_law) 3)) tNil)))) (gName 16)
  (tSeq (tAsg (tFn (S__law_caught K) (ac_law K cells acts (TT K) (some (tT K)) 36) W (tCons (tVar 16) tNil) tNil 1 0) (gName 11))
  (tIfS (tOr (tNot (tTru K (tCB (G.rIsX K) (tCons (tVar 11) (tCons (tC (.ref (He.ga K "BadShape"))) tNil))))) (tTest (tOp (rCmpM K (mtLook (fl_law K) "__eq__") .IsNot) (tAttr K "part" (tVar 11)) (tC .non))))
  (tRet (tC (.bl false)))
  tNext)))
  (tSeq (tAsg (tLst (tCons (tC .non) (tCons (tTup tNil) (tCons (tTup (tCons (tTup tNil) tNil)) (tCons (tLst (tCons (tVar 12) tNil)) (tCons (tTup (tCons (tTup (tCons (tC (.int 512)) tNil)) tNil)) (tCons (tTup (tCons (tTup (tCons (tC (.int 0)) (tCons (tC (.int 1)) tNil))) (tCons (tTup (tCons (tC (.int 0)) tNil)) tNil))) (tCons (tTup (tCons (tTup (tCons (tC (.bl true)) tNil)) tNil)) (tCons (tTup (tCons (tOp (G.rBin K .Mult) (tTup (tCons (tC (.int 0)) tNil)) (tC (.int 17))) tNil)) (tCons (tOp (G.rBin K .Mult) (tTup (tCons (tTup (tCons (tC (.int 0)) tNil)) tNil)) (tC (.int 17))) (tCons (tTup (tCons (tTup (tCons (tUn (rU fun i => .int (-i)) (tC (.int 513))) tNil)) tNil)) tNil))))))))))) (gName 9))
  (tSeq (tAsg (tFn (S__law_pick K) (ac_law K cells acts (TT K) (some (tT K)) 37) W (tCons (tVar 1) (tCons (tVar 9) tNil)) tNil 2 0) (gName 17))
  (tSeq (tIfS (tNot (tTru K (tCB (G.rIsX K) (tCons (tCaught K (ac_law K cells acts (TT K) (some (tT K)) 34) W (tLamV (("law" ++ ".<locals>." : Str)) cells (TT K) (lamB (defBody st_law) 4) (lamC (defBody st_law) 4))) (tCons (tC (.ref (He.ga K "BadPlane"))) tNil)))))
  (tRet (tC (.bl false)))
  tNext)
  (tIfS (tNot (tTru K (tCB (G.rIsX K) (tCons (tCaught K (ac_law K cells acts (TT K) (some (tT K)) 34) W (tLamV (("law" ++ ".<locals>." : Str)) cells (TT K) (lamB (defBody st_law) 5) (lamC (defBody st_law) 5))) (tCons (tC (.ref (He.ga K "BadWay"))) tNil)))))
  (tRet (tC (.bl false)))
  tNext))))))))))))))) D [some (.ref a), some (.ref st), o2, some (.ref p), some (.ref l4), some (.ref f), o6, some (.ref l7), o8, o9, some .non, some .non, o12, o13, o14, o15, o16, o17] H := by
  refine sq_if ?_
  simp only [tWhile, tAnd, tOr, tNot, tTest, tTru, tOp, tUn, tVar, tC, tLst, tTup, tNil, tBM, tBM0, tCons, gSub, tCB, gName, tIf, tFn, tAndT, tOrT, tNotT, tChain, lc_go, iRng1, iRng2, iSeq, tSl, tPart, tNoPart, tAttr, List.getElem?_cons_zero, List.getElem?_cons_succ, List.set_cons_zero, List.set_cons_succ, Option.some.injEq, exists_eq_left']
  refine isM ⟨_, rfl, ?_⟩
  rw [if_pos (by simp)]
  refine isnotM ⟨_, rfl, ?_⟩
  rw [if_neg (by simp)]
  refine sq_if ?_
  simp only [tWhile, tAnd, tOr, tNot, tTest, tTru, tOp, tUn, tVar, tC, tLst, tTup, tNil, tBM, tBM0, tCons, gSub, tCB, gName, tIf, tFn, tAndT, tOrT, tNotT, tChain, lc_go, iRng1, iRng2, iSeq, tSl, tPart, tNoPart, tAttr, List.getElem?_cons_zero, List.getElem?_cons_succ, List.set_cons_zero, List.set_cons_succ, Option.some.injEq, exists_eq_left']
  refine isM ⟨_, rfl, ?_⟩
  rw [if_pos (by simp)]
  have sq7 : SqL K H l7 [.int h2, .int w2, .int lo2, .int hi2] := .inl (.inl e7)
  refine ix_ok (i := 0) sq7 (by decide) rfl (ix_ok (i := 1) sq7 (by decide) rfl (ix_ok (i := 2) sq7 (by decide) rfl (ix_ok (i := 3) sq7 (by decide) rfl ⟨rfl, rfl, shape_go trivial trivial trivial trivial (fun s H' e => by rw [du] at e; cases e) fun h3 w3 lo3 hi3 e1 e2 e3 e4 _ i H' s' sa => ?_⟩)))
  cases e1
  cases e2
  cases e3
  cases e4
  have P' := P.same s'
  refine sh_eq sa P'.sf fun H2 s2 => eqM ?_
  have P2 := P'.same s2
  refine .inr ⟨_, _, .lst (.inl (.inl (s2 _ _ (s' _ _ e7)))) (.cons (.int _) (.cons (.int _) (.cons (.int _) (.cons (.int _) .nil)))), .lst (.inl (.inl P2.e4)) (.cons (.int _) (.cons (.int _) (.cons (.int _) (.cons (.int _) .nil)))), rfl, rfl, neM (.inl ⟨rfl, _, rfl, ?_⟩)⟩
  rw [eqv_ints4, if_neg (by simp)]
  refine sq_if ?_
  simp only [tWhile, tAnd, tOr, tNot, tTest, tTru, tOp, tUn, tVar, tC, tLst, tTup, tNil, tBM, tBM0, tCons, gSub, tCB, gName, tIf, tFn, tAndT, tOrT, tNotT, tChain, lc_go, iRng1, iRng2, iSeq, tSl, tPart, tNoPart, tAttr, List.getElem?_cons_zero, List.getElem?_cons_succ, List.set_cons_zero, List.set_cons_succ, Option.some.injEq, exists_eq_left']
  refine isnotM ⟨_, rfl, ?_⟩
  rw [if_neg (by simp), if_neg (by simp)]
  exact partC F P2 tl nx
end
end K03

set_option Elab.async false
set_option linter.all false
set_option maxRecDepth 100000
set_option maxHeartbeats 8000000
namespace K03
open PySem PySem.Spec PyProof.Rows L2 LamX G Pk
section
variable {K : PySem.W.Frag} {cells : List (Str × Addr)} {acts : Acts} {st La Ca a q0 f l4 l7 p : Addr} {H0 H H1 : Hp} {t u h w lo hi : Int} {g : List (List Int)} {W : WX} {D : Ends} {v : V}
/-- what may stand in the bent row -/
def Bt (H : Hp) (v : V) : Prop := scV v = true ∨ ∃ b, v = .ref b ∧ H b = some (.tup [.int 1])
theorem Bt.keep (h : Bt H v) (d : Drw st La Ca H t) (n : DrN st La H H1) : Bt H1 v := h.elim .inl fun ⟨b, e, h⟩ => .inr ⟨b, e, d.keepT n h⟩
theorem Bt.put {xs ys : List V} (h : Bt H v) (e : H l7 = some (.lst xs)) : Bt (upd H l7 (.lst ys)) v := h.elim .inl fun ⟨b, e2, h⟩ => .inr ⟨b, e2, by rw [upd_ne (fun z => by rw [z, e] at h; cases h)]; exact h⟩
theorem Bt.kd (h : Bt H v) : Kd H v := by
  rcases h with h | ⟨b, rfl, h⟩
  · exact sc_kd h
  · exact .inr (.inl ⟨_, h⟩)
theorem four_of {xs : List V} (h : xs.length = 4) : ∃ x y z v, xs = [x, y, z, v] := by
  match xs, h with
  | [x, y, z, v], _ => exact ⟨x, y, z, v, rfl⟩
theorem partB (F : Fc K) {o2 o6 o7 o8 o9 o10 o11 o12 o13 o14 o15 o16 o17 : Option V} (P : Wd K st La Ca p l4 f h w lo hi H0 t H) (tl : t ≤ 2 ^ 35)
    (nx : ∀ H' o7 o8 o9 o10 o11 o12 o13 o14 o15 o16 o17, Rf (TT K) st La Ca H0 H' (t + 1110) → D.nx [some (.ref a), some (.ref st), o2, some (.ref p), some (.ref l4), some (.ref f), o6, o7, o8, o9, o10, o11, o12, o13, o14, o15, o16, o17] H') :
    (tSeq (tAsg (tCB (G.rListOf K) (tCons (tVar 4) tNil)) (gName 7))
  (tSeq (tFor (iRng1 (tCons (tOp (G.rBin K .Add) (tC (.int 1)) (tFn (S__law_draw K) (ac_law K cells acts (TT K) (some (tT K)) 36) W (tCons (tVar 1) (tCons (tC (.int 2)) tNil)) tNil 2 0)) tNil)) (gName 8)
  (tSeq (tAsg (tLst (tCons (tC (.int 0)) (tCons (tC (.int 17)) (tCons (tUn (rU fun i => .int (-i)) (tC (.int 1))) (tCons (tC (.int 16)) (tCons (tC (.int 1)) (tCons (tC (.bl true)) (tCons (tC .non) (tCons (tC (.str "1")) (tCons (tC (.int 511)) (tCons (tC (.int 512)) (tCons (tUn (rU fun i => .int (-i)) (tC (.int 512))) (tCons (tUn (rU fun i => .int (-i)) (tC (.int 513))) (tCons (tTup (tCons (tC (.int 1)) tNil)) (tCons (tOp (G.rBin K .Sub) (tOp (G.rSub2 K) (tVar 4) (tC (.int 2))) (tC (.int 1))) tNil))))))))))))))) (gName 9))
  (tAsg (tFn (S__law_pick K) (ac_law K cells acts (TT K) (some (tT K)) 36) W (tCons (tVar 1) (tCons (tVar 9) tNil)) tNil 2 0) (gSub (tVar 7) (tFn (S__law_draw K) (ac_law K cells acts (TT K) (some (tT K)) 36) W (tCons (tVar 1) (tCons (tC (.int 4)) tNil)) tNil 2 0) G.rPut))))
  (tSeq (tPar 10 11 (tCons (tFn (S__law_due K) (ac_law K cells acts (TT K) (some (tT K)) 37) W (tCons (tVar 7) tNil) tNil 1 0) (tCons (tCaught K (ac_law K cells acts (TT K) (some (tT K)) 37) W (tLamV (("law" ++ ".<locals>." : Str)) cells (TT K) (lamB (defBody st_law) 0) (lamC (defBody st_law) 0))) tNil)))
  (tSeq (tIfS (tAnd (tTest (tOp (rCmpM K (mtLook (fl_law K) "__eq__") .Is) (tVar 10) (tC .non))) (tTest (tOp (rCmpM K (mtLook (fl_law K) "__eq__") .IsNot) (tVar 11) (tC .non))))
  (tRet (tC (.bl false)))
  tNext)
  (tSeq (tIfS (tAnd (tTest (tOp (rCmpM K (mtLook (fl_law K) "__eq__") .Is) (tVar 10) (tC .non))) (tTest (tOp (rCmpM K (mtLook (fl_law K) "__eq__") .NotEq) (tOp (rCmpM K (mtLook (fl_law K) "__eq__") .Eq) (tFn (S_Shape K) (ac_law K cells acts (TT K) (some (tT K)) 34) W (tCons (tOp (G.rSub2 K) (tVar 7) (tC (.int 0))) (tCons (tOp (G.rSub2 K) (tVar 7) (tC (.int 1))) (tCons (tOp (G.rSub2 K) (tVar 7) (tC (.int 2))) (tCons (tOp (G.rSub2 K) (tVar 7) (tC (.int 3))) tNil)))) tNil 4 0) (tVar 5)) (tOp (rCmpM K (mtLook (fl_law K) "__eq__") .Eq) (tVar 7) (tVar 4)))))
  (tRet (tC (.bl false)))
  tNext)
  (tSeq (tIfS (tAnd (tTest (tOp (rCmpM K (mtLook (fl_law K) "__eq__") .IsNot) (tVar 10) (tC .non))) (tOr (tNot (tTru K (tCB (G.rIsX K) (tCons (tVar 11) (tCons (tC (.ref (He.ga K "BadShape"))) tNil))))) (tTest (tOp (rCmpM K (mtLook (fl_law K) "__eq__") .NotEq) (tAttr K "part" (tVar 11)) (tVar 10)))))
  (tRet (tC (.bl false)))
  tNext)
  (tSeq (tAsg (tFn (S__law_pane K) (ac_law K cells acts (TT K) (some (tT K)) 37) W (tCons (tVar 1) (tCons (tVar 3) tNil)) tNil 2 0) (gName 12))
  (tSeq (tFor (iRng1 (tCons (tC (.int 4)) tNil)) (gName 8)
  (tSeq (tAsg (tIf (tTest (tOp (rCmpM K (mtLook (fl_law K) "__eq__") .Eq) (tVar 8) (tC (.int 0)))) (tVar 12) (tFn (S__law_bent K) (ac_law K cells acts (TT K) (some (tT K)) 35) W (tCons (tVar 1) (tCons (tVar 3) (tCons (tVar 12) tNil))) tNil 3 0)) (gName 13))
  (tSeq (tAsg (tFn (S__law_is_pane K) (ac_law K cells acts (TT K) (some (tT K)) 36) W (tCons (tVar 3) (tCons (tVar 13) tNil)) tNil 2 0) (gName 10))
  (tIfS (tTest (tOp (rCmpM K (mtLook (fl_law K) "__eq__") .NotEq) (tCB (G.rRepr K) (tCons (tLst (tCons (tFn (S_is_plane K) (ac_law K cells acts (TT K) (some (tT K)) 33) W (tCons (tVar 5) (tCons (tVar 13) tNil)) tNil 2 0) (tCons (tFn (S_is_plane_k0_thing_shape K) (ac_law K cells acts (TT K) (some (tT K)) 33) W tNil (tCons (tVar 13) (tCons (tVar 5) tNil)) 0 2) tNil))) tNil)) (tCB (G.rRepr K) (tCons (tLst (tCons (tVar 10) (tCons (tVar 10) tNil))) tNil))))
  (tRet (tC (.bl false)))
  tNext))))
  (tSeq (tAsg (tFn (S__law_grain K) (ac_law K cells acts (TT K) (some (tT K)) 37) W (tCons (tVar 1) (tCons (tVar 3) tNil)) tNil 2 0) (gName 14))
  (tSeq (tIfS (tTest (tOp (rCmpM K (mtLook (fl_law K) "__eq__") .NotEq) (tCB (G.rRepr K) (tCons (tFn (S_flat_plane K) (ac_law K cells acts (TT K) (some (tT K)) 35) W (tCons (tVar 5) (tCons (tVar 14) tNil)) tNil 2 0) tNil)) (tCB (G.rRepr K) (tCons (tOp (G.rBin K .Mult) (tTup (tCons (tOp (G.rBin K .Mult) (tTup (tCons (tVar 14) tNil)) (tOp (G.rSub2 K) (tVar 4) (tC (.int 1)))) tNil)) (tOp (G.rSub2 K) (tVar 4) (tC (.int 0)))) tNil))))
  (tRet (tC (.bl false)))
  tNext)
  (tSeq (tIfS (tNot (tTru K (tFn (S__law_turned_right K) (ac_law K cells acts (TT K) (some (tT K)) 35) W (tCons (tVar 1) (tCons (tVar 3) (tCons (tVar 12) tNil))) tNil 3 0)))
  (tRet (tC (.bl false)))
  tNext)
  (tSeq (tAsg (tFn (S__law_pick K) (ac_law K cells acts (TT K) (some (tT K)) 37) W (tCons (tVar 1) (tCons (tLst (tCons (tOp (G.rBin K .Add) (tOp (G.rSub2 K) (tVar 4) (tC (.int 3))) (tC (.int 1))) (tCons (tOp (G.rBin K .Sub) (tOp (G.rSub2 K) (tVar 4) (tC (.int 2))) (tC (.int 1))) (tCons (tC .non) (tCons (tC (.str "0")) (tCons (tTup (tCons (tVar 14) tNil)) (tCons (tC (.bl true)) (tCons (tC (.bl false)) tNil)))))))) tNil)) tNil 2 0) (gName 15))
  (tSeq (tIfS (tNot (tTru K (tCB (G.rIsX K) (tCons (tCaught K (ac_law K cells acts (TT K) (some (tT K)) 34) W (tLamV (("law" ++ ".<locals>." : Str)) cells (TT K) (lamB (defBody st_law) 1) (lamC (defBody st_law) 1))) (tCons (tC (.ref (He.ga K "BadNumber"))) tNil)))))
  (tRet (tC (.bl false)))
  tNext)
  (tSeq (tFor (iSeq K (tLst (tCons (tLamV (("law" ++ ".<locals>." : Str)) cells (TT K) (lamB (defBody st_law) 2) (lamC (defBody st_law) 2)) (tCons (tLamV (("law" ++ ".<locals>." : Str)) cells (TT K) (lamB (defBody st_law) 3) (lamC (defBody st_law) 3)) tNil)))) (gName 16)
  (tSeq (tAsg (tFn (S__law_caught K) (ac_law K cells acts (TT K) (some (tT K)) 36) W (tCons (tVar 16) tNil) tNil 1 0) (gName 11))
  (tIfS (tOr (tNot (tTru K (tCB (G.rIsX K) (tCons (tVar 11) (tCons (tC (.ref (He.ga K "BadShape"))) tNil))))) (tTest (tOp (rCmpM K (mtLook (fl_law K) "__eq__") .IsNot) (tAttr K "part" (tVar 11)) (tC .non))))
  (tRet (tC (.bl false)))
  tNext)))
  (tSeq (tAsg (tLst (tCons (tC .non) (tCons (tTup tNil) (tCons (tTup (tCons (tTup tNil) tNil)) (tCons (tLst (tCons (tVar 12) tNil)) (tCons (tTup (tCons (tTup (tCons (tC (.int 512)) tNil)) tNil)) (tCons (tTup (tCons (tTup (tCons (tC (.int 0)) (tCons (tC (.int 1)) tNil))) (tCons (tTup (tCons (tC (.int 0)) tNil)) tNil))) (tCons (tTup (tCons (tTup (tCons (tC (.bl true)) tNil)) tNil)) (tCons (tTup (tCons (tOp (G.rBin K .Mult) (tTup (tCons (tC (.int 0)) tNil)) (tC (.int 17))) tNil)) (tCons (tOp (G.rBin K .Mult) (tTup (tCons (tTup (tCons (tC (.int 0)) tNil)) tNil)) (tC (.int 17))) (tCons (tTup (tCons (tTup (tCons (tUn (rU fun i => .int (-i)) (tC (.int 513))) tNil)) tNil)) tNil))))))))))) (gName 9))
  (tSeq (tAsg (tFn (S__law_pick K) (ac_law K cells acts (TT K) (some (tT K)) 37) W (tCons (tVar 1) (tCons (tVar 9) tNil)) tNil 2 0) (gName 17))
  (tSeq (tIfS (tNot (tTru K (tCB (G.rIsX K) (tCons (tCaught K (ac_law K cells acts (TT K) (some (tT K)) 34) W (tLamV (("law" ++ ".<locals>." : Str)) cells (TT K) (lamB (defBody st_law) 4) (lamC (defBody st_law) 4))) (tCons (tC (.ref (He.ga K "BadPlane"))) tNil)))))
  (tRet (tC (.bl false)))
  tNext)
  (tIfS (tNot (tTru K (tCB (G.rIsX K) (tCons (tCaught K (ac_law K cells acts (TT K) (some (tT K)) 34) W (tLamV (("law" ++ ".<locals>." : Str)) cells (TT K) (lamB (defBody st_law) 5) (lamC (defBody st_law) 5))) (tCons (tC (.ref (He.ga K "BadWay"))) tNil)))))
  (tRet (tC (.bl false)))
  tNext)))))))))))))))))) D [some (.ref a), some (.ref st), o2, some (.ref p), some (.ref l4), some (.ref f), o6, o7, o8, o9, o10, o11, o12, o13, o14, o15, o16, o17] H := by
  refine sq_asg ?_
  simp only [tWhile, tAnd, tOr, tNot, tTest, tTru, tOp, tUn, tVar, tC, tLst, tTup, tNil, tBM, tBM0, tCons, gSub, tCB, gName, tIf, tFn, tAndT, tOrT, tNotT, tChain, lc_go, iRng1, iRng2, iSeq, tSl, tPart, tNoPart, tAttr, List.getElem?_cons_zero, List.getElem?_cons_succ, List.set_cons_zero, List.set_cons_succ, Option.some.injEq, exists_eq_left']
  refine ⟨l4, _, rfl, .inl (.inl (.inl P.e4)), fun l7 hl7 => ?_⟩
  have N7 : NewL st La Ca H l7 := P.R.fresh.newL hl7
  have R1 := P.R.fresh.new (o := .lst [.int h, .int w, .int lo, .int hi]) hl7
  have e71 : (upd H l7 (.lst [.int h, .int w, .int lo, .int hi])) l7 = some (.lst [.int h, .int w, .int lo, .int hi]) := upd_same
  revert R1 e71
  generalize upd H l7 (.lst [.int h, .int w, .int lo, .int hi]) = H1
  intro R1 e71
  refine sq_for ?_
  simp only [tWhile, tAnd, tOr, tNot, tTest, tTru, tOp, tUn, tVar, tC, tLst, tTup, tNil, tBM, tBM0, tCons, gSub, tCB, gName, tIf, tFn, tAndT, tOrT, tNotT, tChain, lc_go, iRng1, iRng2, iSeq, tSl, tPart, tNoPart, tAttr, List.getElem?_cons_zero, List.getElem?_cons_succ, List.set_cons_zero, List.set_cons_succ, Option.some.injEq, exists_eq_left']
  refine ⟨rfl, rfl, draw_go R1 (by omega) (by decide) (by decide) fun r H2 r0 r1 R2 => G.add_int (K := K) ⟨_, rfl, by omega, by omega, ?_⟩⟩
  have e72 := drn_lst R2.n N7.n1 N7.n2 e71
  have R2' := R1.trans R2
  have hn : (1 + r).toNat ≤ 2 := by omega
  revert hn
  generalize (1 + r).toNat = n
  intro hn
  refine go_rng (fun i σ H' => Rf (TT K) st La Ca H H' (t + 1 + 2 * i) ∧ (∃ x y z v, H' l7 = some (.lst [x, y, z, v]) ∧ ∀ m ∈ [x, y, z, v], Bt H' m) ∧ ∃ o8 o9, σ = [some (.ref a), some (.ref st), o2, some (.ref p), some (.ref l4), some (.ref f), o6, some (.ref l7), o8, o9, o10, o11, o12, o13, o14, o15, o16, o17])
    ⟨R2'.mono (by omega), ⟨_, _, _, _, e72, fun m hm => ?_⟩, _, _, rfl⟩ ?_ ?_
  · simp only [List.mem_cons, List.not_mem_nil, or_false] at hm
    rcases hm with rfl | rfl | rfl | rfl <;> exact .inl rfl
  · rintro i σ H3 hi3 ⟨R3, ⟨x, y, z, v, e73, hb⟩, o8, o9, rfl⟩
    have P3 := P.go R3
    refine sq_asg (tl_go ?_)
    simp only [tCons, tNil, tC, tUn, tOp, tVar, List.getElem?_cons_zero, List.getElem?_cons_succ, List.set_cons_zero, List.set_cons_succ, Option.some.injEq, exists_eq_left']
    refine ⟨1, rfl, 512, rfl, 513, rfl, tt_go (nwT (Nat.le_of_ble_eq_true rfl) fun p1 H4 n4 s4 e4 => four2 (P3.same s4) (G.sub_int (K := K) (nwL (Nat.le_of_ble_eq_true rfl) fun l5 H5 n5 s5 e5 => ?_)))⟩
    have R5 := Rf.same (Rf.same R3 s4) s5
    simp only [tAsg, gSub, tWhile, tAnd, tOr, tNot, tTest, tTru, tOp, tUn, tVar, tC, tLst, tTup, tNil, tBM, tBM0, tCons, gSub, tCB, gName, tIf, tFn, tAndT, tOrT, tNotT, tChain, lc_go, iRng1, iRng2, iSeq, tSl, tPart, tNoPart, tAttr, List.getElem?_cons_zero, List.getElem?_cons_succ, List.set_cons_zero, List.set_cons_succ, Option.some.injEq, exists_eq_left']
    refine ⟨rfl, rfl, pick_go R5 (by omega) e5 (drw_ne (Rf.same R3 s4).d n5) (Nat.le_of_ble_eq_true rfl) (Nat.le_of_ble_eq_true rfl) fun x' H6 hx R6 => ⟨rfl, rfl, draw_go (R5.trans R6) (by omega) (by decide) (by decide) fun k H7 k0 k4 R7 => ?_⟩⟩
    have R57 := R6.trans R7
    have R7' := R5.trans R57
    have e77 := drn_lst R57.n N7.n1 N7.n2 (s5 _ _ (s4 _ _ e73))
    have hb7 : ∀ m ∈ [x, y, z, v], Bt H7 m := fun m hm => ((hb m hm).keep R3.d (same_dr (s4.trans s5)).n).keep R5.d R57.n
    have hx7 : Bt H7 x' := by
      simp only [List.mem_cons, List.not_mem_nil, or_false] at hx
      rcases hx with rfl | rfl | rfl | rfl | rfl | rfl | rfl | rfl | rfl | rfl | rfl | rfl | rfl | rfl
      · exact .inl rfl
      · exact .inl rfl
      · exact .inl rfl
      · exact .inl rfl
      · exact .inl rfl
      · exact .inl rfl
      · exact .inl rfl
      · exact .inl (by kernel_rfl)
      · exact .inl rfl
      · exact .inl rfl
      · exact .inl rfl
      · exact .inl rfl
      · exact .inr ⟨p1, rfl, R5.d.keepT R57.n (s5 _ _ e4)⟩
      · exact .inl rfl
    refine .inl ⟨l7, _, k, k.toNat, rfl, rfl, e77, ?_, ?_⟩
    · unfold ixN
      rw [if_pos k0, if_pos (show k < ([x, y, z, v].length : Nat) from by show k < 4; exact k4)]
    · obtain ⟨x2, y2, z2, v2, e2⟩ := four_of (xs := [x, y, z, v].set k.toNat x') (by rw [List.length_set]; rfl)
      refine ⟨(R7'.putl N7 e77).mono (by omega), ⟨x2, y2, z2, v2, by rw [upd_same, e2], fun m hm => ?_⟩, _, _, rfl⟩
      rw [← e2] at hm
      rcases List.mem_or_eq_of_mem_set hm with hm | rfl
      · exact (hb7 m hm).put e77
      · exact hx7.put e77
  · rintro σ H3 ⟨R3, ⟨x, y, z, v, e73, hb⟩, o8, o9, rfl⟩
    have kx := (hb x (by simp)).kd
    have ky := (hb y (by simp)).kd
    have kz := (hb z (by simp)).kd
    have kv := (hb v (by simp)).kd
    dsimp only
    refine sq_par ?_
    simp only [tWhile, tAnd, tOr, tNot, tTest, tTru, tOp, tUn, tVar, tC, tLst, tTup, tNil, tBM, tBM0, tCons, gSub, tCB, gName, tIf, tFn, tAndT, tOrT, tNotT, tChain, lc_go, iRng1, iRng2, iSeq, tSl, tPart, tNoPart, tAttr, List.getElem?_cons_zero, List.getElem?_cons_succ, List.set_cons_zero, List.set_cons_succ, Option.some.injEq, exists_eq_left']
    refine ⟨rfl, rfl, l7, x, y, z, v, rfl, .inl (.inl e73), kx, ky, kz, kv, ?_⟩
    refine caught_lam (Γ := GM K cells acts) (n := 37) rfl (by kernel_rfl) (fun W' => lq_law_0_37 K cells acts (TT K) (tT K) W') R3.T fun H4 hE hT => ?_
    have R4 := R3.lam hE hT
    have e74 := drn_lst (ext_n hE) N7.n1 N7.n2 e73
    have hb4 : ∀ m ∈ [x, y, z, v], Bt H4 m := fun m hm => (hb m hm).keep R3.d (ext_n hE)
    unfold lm_law_0
    simp only [tWhile, tAnd, tOr, tNot, tTest, tTru, tOp, tUn, tVar, tC, tLst, tTup, tNil, tBM, tBM0, tCons, gSub, tCB, gName, tIf, tFn, tAndT, tOrT, tNotT, tChain, lc_go, iRng1, iRng2, iSeq, tSl, tPart, tNoPart, tAttr, List.getElem?_cons_zero, List.getElem?_cons_succ, List.set_cons_zero, List.set_cons_succ, Option.some.injEq, exists_eq_left']
    have sq7 : SqL K H4 l7 [x, y, z, v] := .inl (.inl e74)
    refine ix_ok (i := 0) sq7 (by decide) rfl (ix_ok (i := 1) sq7 (by decide) rfl (ix_ok (i := 2) sq7 (by decide) rfl (ix_ok (i := 3) sq7 (by decide) rfl ⟨rfl, rfl, shape_go (hb4 x (by simp)).kd (hb4 y (by simp)).kd (hb4 z (by simp)).kd (hb4 v (by simp)).kd (fun s H5 du s5 => ?_) fun h2 w2 lo2 hi2 e1 e2 e3 e4 du i H5 s5 sa => ?_⟩)))
    · intro d3 hd3
      refine err_god F.sh.ce (Rf.same R4 s5) hd3 fun a3 H6 R6 n6 ea ed => ⟨_, _, rfl, ?_⟩
      rw [du]
      exact partB1 F (P.go R6) (by omega) ea ed fun H' o8 o9 o10 o11 o12 o13 o14 o15 o16 o17 R' => nx H' _ _ _ _ _ _ _ _ _ _ _ (R'.mono (by omega))
    · subst e1 e2 e3 e4
      refine ⟨_, _, rfl, ?_⟩
      rw [du]
      exact partB2 F (P.go (Rf.same R4 s5)) (by omega) (s5 _ _ e74) du fun H' o8 o9 o10 o11 o12 o13 o14 o15 o16 o17 R' => nx H' _ _ _ _ _ _ _ _ _ _ _ (R'.mono (by omega))
end
end K03

set_option Elab.async false
set_option linter.all false
set_option maxRecDepth 100000
set_option maxHeartbeats 8000000
namespace K03
open PySem PySem.Spec PyProof.Rows L2 LamX G Pk
section
variable {K : PySem.W.Frag} {cells : List (Str × Addr)} {acts : Acts} {vs : List V} {H : Hp} {Q : VK} {E : XK}
theorem cat_lst {a b : Addr} {xs ys : List V} {Q : VK} (ea : H a = some (.lst xs)) (eb : H b = some (.lst ys)) (hl : xs.length + ys.length ≤ 1000) (q : ∀ p H', H p = none → Same H H' → H' p = some (.lst (xs ++ ys)) → Q (.ref p) H') : G.rBin K .Add (.ref a) (.ref b) H Q :=
  .inl ⟨a, b, xs, ys, rfl, rfl, ea, eb, by rw [sizeLine_eq]; omega, fun p hp => q p _ hp (same_new (Same.refl _) hp) upd_same⟩
theorem ok_law (F : Fc K) (h : sp_law K vs H Q E) : vs.length = 1 ∧ t_law K cells acts (TT K) (some (tT K)) (Ww E) (Dd Q)
    (L2.start ["_law_script", "_law_state", "_law_turn", "_law_scope_here", "_law_four", "_law_form", "_law_middle_here", "_law_bent_here", "_law_lap", "_law_some", "_law_due_here", "_law_caught_here", "_law_pane_here", "_law_item", "_law_base", "_law_odd", "_law_work", "_law_wrong"] vs) H := by
  obtain ⟨a, zs, rfl, ha, hl, hT, q⟩ := h
  refine ⟨rfl, ?_⟩
  rw [show L2.start ["_law_script", "_law_state", "_law_turn", "_law_scope_here", "_law_four", "_law_form", "_law_middle_here", "_law_bent_here", "_law_lap", "_law_some", "_law_due_here", "_law_caught_here", "_law_pane_here", "_law_item", "_law_base", "_law_odd", "_law_work", "_law_wrong"] [V.ref a] = [some (.ref a), none, none, none, none, none, none, none, none, none, none, none, none, none, none, none, none, none] from rfl]
  unfold t_law
  refine sq_asg ⟨_, rfl, rfl, rfl, a, zs, rfl, ha, by omega, fun st La Ca H1 n1 n2 s1 d1 => ?_⟩
  refine sq_for ?_
  simp only [tSeq, tWhile, tAnd, tOr, tNot, tTest, tTru, tOp, tUn, tVar, tC, tLst, tTup, tNil, tAsg, tBM, tBM0, tCons, gSub, tIfS, tCB, gName, tRet, tRetN, tNext, tIf, tFn, tDrop, tRaise0, tAndT, tOrT, tNotT, tChain, tAug, tPar, tPar3, for_go, lc_go, iRng1, iRng2, iSeq, tSl, tPart, tNoPart, tRaiseA, tAttr, List.getElem?_cons_zero, List.getElem?_cons_succ, List.set_cons_zero, List.set_cons_succ, Option.some.injEq, exists_eq_left']
  refine len_lst (sql_same ha s1) ?_
  have T1 : Tabs (TT K) H1 := fun p hp => (hT p hp).ext s1
  rw [List.length_map]
  refine min_int (G.add_int ⟨_, rfl, by split <;> omega, by split <;> omega, ?_⟩)
  have r1 : Rf (TT K) st La Ca H1 H1 0 := ⟨d1, T1, DrN.refl _ _ _⟩
  have hn : (3 + if (8 : Int) < (zs.length : Int) then 8 else (zs.length : Int)).toNat ≤ 11 := by split <;> omega
  revert hn
  generalize (3 + if (8 : Int) < (zs.length : Int) then 8 else (zs.length : Int)).toNat = n
  intro hn
  refine go_rng (fun m σ H' => Rf (TT K) st La Ca H1 H' (1200 * m) ∧ ∃ o2 o3 o4 o5 o6 o7 o8 o9 o10 o11 o12 o13 o14 o15 o16 o17 : Option V, σ = [some (.ref a), some (.ref st), o2, o3, o4, o5, o6, o7, o8, o9, o10, o11, o12, o13, o14, o15, o16, o17]) ⟨r1.mono (by omega), _, _, _, _, _, _, _, _, _, _, _, _, _, _, _, _, rfl⟩ ?_ ?_
  · rintro m σ H2 hm ⟨r2, o2, o3, o4, o5, o6, o7, o8, o9, o10, o11, o12, o13, o14, o15, o16, o17, rfl⟩
    try simp only [List.set_cons_zero, List.set_cons_succ]
    refine sq_asg ⟨_, rfl, rfl, rfl, st, La, Ca, _, rfl, by omega, r2.d, fun p H3 h w lo hi np sc d3 f3 => ?_⟩
    have r3 := r2.dr d3 f3
    obtain ⟨_, _, h1, h16, w1, w16, lo0, lohi, hi1⟩ := id sc
    refine sq_asg (tl_go ?_)
    simp only [tCons, tNil, tOp, tVar, tC, List.getElem?_cons_zero, List.getElem?_cons_succ, List.set_cons_zero, List.set_cons_succ, Option.some.injEq, exists_eq_left']
    refine sc_tall sc (sc_wide sc (sc_least sc (sc_most sc (nwL (Nat.le_of_ble_eq_true rfl) fun l4 H4 n4 s4 e4 => ?_))))
    have r4 := Rf.same r3 s4
    have sc4 := sc.same s4
    have m4 := drw_ne r3.d n4
    have sq4 : SqL K H4 l4 [.int h, .int w, .int lo, .int hi] := .inl (.inl e4)
    refine sq_asg ?_
    simp only [tWhile, tAnd, tOr, tNot, tTest, tTru, tOp, tUn, tVar, tC, tLst, tTup, tNil, tBM, tBM0, tCons, gSub, tCB, gName, tIf, tFn, tAndT, tOrT, tNotT, tChain, lc_go, iRng1, iRng2, iSeq, tSl, tPart, tNoPart, tAttr, List.getElem?_cons_zero, List.getElem?_cons_succ, List.set_cons_zero, List.set_cons_succ, Option.some.injEq, exists_eq_left']
    refine ix_ok (i := 0) sq4 (by decide) rfl (ix_ok (i := 1) sq4 (by decide) rfl (ix_ok (i := 2) sq4 (by decide) rfl (ix_ok (i := 3) sq4 (by decide) rfl ⟨rfl, rfl, shape_int h1 h16 w1 w16 lo0 lohi hi1 fun f H5 s5 sf => ?_⟩)))
    have P : Wd K st La Ca p l4 f h w lo hi H1 (1200 * m + 4) H5 := ⟨Rf.same r4 s5, sc4.same s5, sf, s5 _ _ e4, m4⟩
    clear np sc d3 f3 r3 n4 s4 e4 r4 sc4 m4 sq4 s5 sf
    refine sq_asg ?_
    simp only [tWhile, tAnd, tOr, tNot, tTest, tTru, tOp, tUn, tVar, tC, tLst, tTup, tNil, tBM, tBM0, tCons, gSub, tCB, gName, tIf, tFn, tAndT, tOrT, tNotT, tChain, lc_go, iRng1, iRng2, iSeq, tSl, tPart, tNoPart, tAttr, List.getElem?_cons_zero, List.getElem?_cons_succ, List.set_cons_zero, List.set_cons_succ, Option.some.injEq, exists_eq_left']
    refine four2 P (four3 P (G.add_int (K := K) (div_int (by decide) (by decide) ?_)))
    refine sq_if ?_
    simp only [tTest, tOp, tCB, tFn, tCons, tNil, tVar, tC, List.getElem?_cons_zero, List.getElem?_cons_succ, List.set_cons_zero, List.set_cons_succ, Option.some.injEq, exists_eq_left']
    refine tl_go ?_
    simp only [tAttr, tCons, tNil, tVar, List.getElem?_cons_zero, List.getElem?_cons_succ, Option.some.injEq, exists_eq_left']
    refine fld_height F.sh P.sf (fld_width F.sh P.sf (fld_low F.sh P.sf (fld_high F.sh P.sf (fld_middle F.sh P.sf (nwL (Nat.le_of_ble_eq_true rfl) fun l6 H6 n6 s6 e6 => ?_)))))
    have dm0 : -512 ≤ (lo + hi) / 2 := by omega
    have dm1 : (lo + hi) / 2 ≤ 511 := by omega
    have dpl : ∀ d ∈ [PyData.int h, .int w, .int lo, .int hi, .int ((lo + hi) / 2)], PlD d := by
      intro d hd
      simp only [List.mem_cons, List.not_mem_nil, or_false] at hd
      rcases hd with rfl | rfl | rfl | rfl | rfl <;> exact pl_int (by omega) (by omega)
    refine repr_lst [.int h, .int w, .int lo, .int hi, .int ((lo + hi) / 2)] (.inl (.inl e6)) dpl (Nat.le_of_ble_eq_true rfl) ?_
    refine tl_go ?_
    simp only [tCons, tNil, tVar, List.getElem?_cons_zero, List.getElem?_cons_succ, Option.some.injEq, exists_eq_left']
    refine nwL (Nat.le_of_ble_eq_true rfl) fun l7 H7 n7 s7 e7 => ?_
    have P7 := (P.same s6).same s7
    refine cat_lst P7.e4 e7 (Nat.le_of_ble_eq_true rfl) fun l8 H8 n8 s8 e8 => ?_
    refine repr_lst [.int h, .int w, .int lo, .int hi, .int ((lo + hi) / 2)] (.inl (.inl e8)) dpl (Nat.le_of_ble_eq_true rfl) (neM (ne_str ⟨_, rfl, ?_⟩))
    rw [decide_eq_true rfl, if_neg (by simp)]
    have P8 := P7.same s8
    refine sq_if ?_
    simp only [tWhile, tAnd, tOr, tNot, tTest, tTru, tOp, tUn, tVar, tC, tLst, tTup, tNil, tBM, tBM0, tCons, gSub, tCB, gName, tIf, tFn, tAndT, tOrT, tNotT, tChain, lc_go, iRng1, iRng2, iSeq, tSl, tPart, tNoPart, tAttr, List.getElem?_cons_zero, List.getElem?_cons_succ, List.set_cons_zero, List.set_cons_succ, Option.some.injEq, exists_eq_left']
    refine tup_of_lst P8.e4 fun p9 n9 => ?_
    have s9 := same_new (o := HO.tup [.int h, .int w, .int lo, .int hi]) (Same.refl H8) n9
    have P9 := P8.same s9
    refine sh_tup F P9.sf upd_same ⟨_, rfl, ?_⟩
    rw [if_neg (by simp)]
    refine sh_non F P9.sf ⟨_, rfl, ?_⟩
    rw [if_neg (by simp)]
    revert P9
    generalize upd H8 p9 (.tup [.int h, .int w, .int lo, .int hi]) = H9
    intro P9
    refine sq_if ?_
    simp only [tWhile, tAnd, tOr, tNot, tTest, tTru, tOp, tUn, tVar, tC, tLst, tTup, tNil, tBM, tBM0, tCons, gSub, tCB, gName, tIf, tFn, tAndT, tOrT, tNotT, tChain, lc_go, iRng1, iRng2, iSeq, tSl, tPart, tNoPart, tAttr, List.getElem?_cons_zero, List.getElem?_cons_succ, List.set_cons_zero, List.set_cons_succ, Option.some.injEq, exists_eq_left']
    refine four3 P9 (four2 P9 (four1 P9 (four0 P9 ⟨rfl, rfl, shapeK_int h1 h16 w1 w16 lo0 lohi hi1 fun f2 H10 s10 sf2 => sh_ne F (P9.same s10).sf sf2 fun H11 s11 => ⟨_, rfl, ?_⟩⟩)))
    rw [if_neg (by simp)]
    exact partB F ((P9.same s10).same s11) (by omega) fun H' o7 o8 o9 o10 o11 o12 o13 o14 o15 o16 o17 R' => ⟨R'.mono (by omega), _, _, _, _, _, _, _, _, _, _, _, _, _, _, _, _, rfl⟩
  · rintro σ H' ⟨r, o2, o3, o4, o5, o6, o7, o8, o9, o10, o11, o12, o13, o14, o15, o16, o17, rfl⟩
    exact q H'
end
end K03

set_option Elab.async false
set_option linter.all false
set_option maxRecDepth 100000
set_option maxHeartbeats 8000000
namespace K03
open PySem PySem.Spec PyProof.Rows L2 LamX G Pk
def d_is_number : He.DefD := ⟨("is_number", none), "is_number", "is_number", defArgs st_is_number, defBody st_is_number, defScope st_is_number, [], []⟩
def d_is_between : He.DefD := ⟨("is_between", none), "is_between", "is_between", defArgs st_is_between, defBody st_is_between, defScope st_is_between, [], []⟩
def d_need_shape : He.DefD := ⟨("need_shape", none), "need_shape", "need_shape", defArgs st_need_shape, defBody st_need_shape, defScope st_need_shape, [], []⟩
def d_fits_grid : He.DefD := ⟨("fits_grid", none), "fits_grid", "fits_grid", defArgs st_fits_grid, defBody st_fits_grid, defScope st_fits_grid, [], []⟩
def d_does_suit : He.DefD := ⟨("does_suit", none), "does_suit", "does_suit", defArgs st_does_suit, defBody st_does_suit, defScope st_does_suit, [], []⟩
def d_is_plane : He.DefD := ⟨("is_plane", none), "is_plane", "is_plane", defArgs st_is_plane, defBody st_is_plane, defScope st_is_plane, [], []⟩
def d_flat_of : He.DefD := ⟨("flat_of", none), "flat_of", "flat_of", defArgs st_flat_of, defBody st_flat_of, defScope st_flat_of, [], []⟩
def d_flat_plane : He.DefD := ⟨("flat_plane", none), "flat_plane", "flat_plane", defArgs st_flat_plane, defBody st_flat_plane, defScope st_flat_plane, [], []⟩
def d_is_any_plane : He.DefD := ⟨("is_any_plane", none), "is_any_plane", "is_any_plane", defArgs st_is_any_plane, defBody st_is_any_plane, defScope st_is_any_plane, [], []⟩
def d_turned : He.DefD := ⟨("turned", none), "turned", "turned", defArgs st_turned, defBody st_turned, defScope st_turned, [], []⟩
def d__law_begun : He.DefD := ⟨("_law_begun", none), "_law_begun", "_law_begun", defArgs st__law_begun, defBody st__law_begun, defScope st__law_begun, [], []⟩
def d__law_draw : He.DefD := ⟨("_law_draw", none), "_law_draw", "_law_draw", defArgs st__law_draw, defBody st__law_draw, defScope st__law_draw, [], []⟩
def d__law_pick : He.DefD := ⟨("_law_pick", none), "_law_pick", "_law_pick", defArgs st__law_pick, defBody st__law_pick, defScope st__law_pick, [], []⟩
def d__law_caught : He.DefD := ⟨("_law_caught", none), "_law_caught", "_law_caught", defArgs st__law_caught, defBody st__law_caught, defScope st__law_caught, [], []⟩
def d__law_is_whole : He.DefD := ⟨("_law_is_whole", none), "_law_is_whole", "_law_is_whole", defArgs st__law_is_whole, defBody st__law_is_whole, defScope st__law_is_whole, [], []⟩
def d__law_scope : He.DefD := ⟨("_law_scope", none), "_law_scope", "_law_scope", defArgs st__law_scope, defBody st__law_scope, defScope st__law_scope, [], []⟩
def d__law_within : He.DefD := ⟨("_law_within", none), "_law_within", "_law_within", defArgs st__law_within, defBody st__law_within, defScope st__law_within, [], []⟩
def d__law_grain : He.DefD := ⟨("_law_grain", none), "_law_grain", "_law_grain", defArgs st__law_grain, defBody st__law_grain, defScope st__law_grain, [], []⟩
def d__law_pane : He.DefD := ⟨("_law_pane", none), "_law_pane", "_law_pane", defArgs st__law_pane, defBody st__law_pane, defScope st__law_pane, [], []⟩
def d__law_due : He.DefD := ⟨("_law_due", none), "_law_due", "_law_due", defArgs st__law_due, defBody st__law_due, defScope st__law_due, [], []⟩
def d__law_is_pane : He.DefD := ⟨("_law_is_pane", none), "_law_is_pane", "_law_is_pane", defArgs st__law_is_pane, defBody st__law_is_pane, defScope st__law_is_pane, [], []⟩
def d__law_bent : He.DefD := ⟨("_law_bent", none), "_law_bent", "_law_bent", defArgs st__law_bent, defBody st__law_bent, defScope st__law_bent, [], []⟩
def d__law_turned_right : He.DefD := ⟨("_law_turned_right", none), "_law_turned_right", "_law_turned_right", defArgs st__law_turned_right, defBody st__law_turned_right, defScope st__law_turned_right, [], []⟩
def d_Shape___init__ : He.DefD := ⟨("Shape", some "__init__"), "__init__", "Shape.__init__", defArgs st_Shape___init__, defBody st_Shape___init__, defScope st_Shape___init__, [], []⟩
def d_Shape_own_parts : He.DefD := ⟨("Shape", some "own_parts"), "own_parts", "Shape.own_parts", defArgs st_Shape_own_parts, defBody st_Shape_own_parts, defScope st_Shape_own_parts, [], []⟩
def d_Shape___eq__ : He.DefD := ⟨("Shape", some "__eq__"), "__eq__", "Shape.__eq__", defArgs st_Shape___eq__, defBody st_Shape___eq__, defScope st_Shape___eq__, [], []⟩
def d_law : He.DefD := ⟨("law", none), "law", "law", defArgs st_law, defBody st_law, defScope st_law, [], []⟩
def fn : List He.DefD := [d_is_number, d_is_between, d_need_shape, d_fits_grid, d_does_suit, d_is_plane, d_flat_of, d_flat_plane, d_is_any_plane, d_turned, d__law_begun, d__law_draw, d__law_pick, d__law_caught, d__law_is_whole, d__law_scope, d__law_within, d__law_grain, d__law_pane, d__law_due, d__law_is_pane, d__law_bent, d__law_turned_right, d_Shape___init__, d_Shape_own_parts, d_Shape___eq__, d_law]
def fa : List He.Fa := ([.glo "is_number", .glo "is_between", .glo "need_shape", .glo "fits_grid", .glo "does_suit", .glo "is_plane", .glo "flat_of", .glo "flat_plane", .glo "is_any_plane", .glo "turned", .glo "_law_begun", .glo "_law_draw", .glo "_law_pick", .glo "_law_caught", .glo "_law_is_whole"] : List He.Fa) ++ ([.glo "_law_scope", .glo "_law_within", .glo "_law_grain", .glo "_law_pane", .glo "_law_due", .glo "_law_is_pane", .glo "_law_bent", .glo "_law_turned_right", .glo "law", .free "abs", .free "all", .free "bool", .free "int", .free "isinstance", .free "len"] : List He.Fa) ++ ([.free "list", .free "max", .free "min", .free "range", .free "repr", .free "tuple", .free "zip", .glo "BadNumber", .glo "BadPlane", .glo "BadShape", .glo "BadWay", .int "LEAST_LOW" (-512), .int "MOST_HIGH" (511), .int "MOST_SIDE" (16), .glo "Shape"] : List He.Fa) ++ ([.glo "ReelError", .exc "BadNumber", .exc "BadPlane", .exc "BadWay", .exc "ReelError", .exm "BadShape" "ReelError" true, .exm "BadNumber" "ReelError" true, .exm "BadPlane" "ReelError" true, .exm "BadWay" "ReelError" true] : List He.Fa)
structure Ctx (P : Program) (w : World) (K : PySem.W.Frag) (mg : Str → Option Value) (base : Heap) : Prop where
  m : MdOk P K mg (mdOf K)
  d : He.SaysD fa fn K
  g : ∀ (i : Nat) (x : Str), fa[i]? = some (.glo x) → mg x = some (.ref (He.ga K x))
  F : Fc K
  mk_Shape : Mk K (He.ga K "Shape") (He.fAd K ("Shape", some "__init__"))
  cls_Shape : Cls K (He.ga K "Shape")
  mt_Shape_own_parts : Meth K (He.ga K "Shape") "own_parts" (He.fAd K ("Shape", some "own_parts"))
  mt_Shape___eq__ : Meth K (He.ga K "Shape") "__eq__" (He.fAd K ("Shape", some "__eq__"))
  tb : TabB base mg (He.cT K ("law", none)).1 (He.cT K ("law", none)).2

theorem md_ok {P : Program} {K : PySem.W.Frag} {h : Heap} {mg : Str → Option Value} (X : K.In h) (G : h.Ns mainGlobals mg) (c : He.SaysD fa fn K) (hi : ∀ p ∈ (mdOf K).exa, IniF K P p.2.1 p.2.2) : MdOk P K mg (mdOf K) where
  free := by
    intro x hx
    simp only [mdOf, List.mem_cons, List.not_mem_nil, or_false] at hx
    rcases hx with rfl | rfl | rfl | rfl | rfl | rfl | rfl | rfl | rfl | rfl | rfl | rfl | rfl
    · exact He.free_ok X G (c.fact 24 (f := .free "abs") rfl)
    · exact He.free_ok X G (c.fact 25 (f := .free "all") rfl)
    · exact He.free_ok X G (c.fact 26 (f := .free "bool") rfl)
    · exact He.free_ok X G (c.fact 27 (f := .free "int") rfl)
    · exact He.free_ok X G (c.fact 28 (f := .free "isinstance") rfl)
    · exact He.free_ok X G (c.fact 29 (f := .free "len") rfl)
    · exact He.free_ok X G (c.fact 30 (f := .free "list") rfl)
    · exact He.free_ok X G (c.fact 31 (f := .free "max") rfl)
    · exact He.free_ok X G (c.fact 32 (f := .free "min") rfl)
    · exact He.free_ok X G (c.fact 33 (f := .free "range") rfl)
    · exact He.free_ok X G (c.fact 34 (f := .free "repr") rfl)
    · exact He.free_ok X G (c.fact 35 (f := .free "tuple") rfl)
    · exact He.free_ok X G (c.fact 36 (f := .free "zip") rfl)
  gv := by
    intro p hp
    simp only [mdOf, List.mem_cons, List.not_mem_nil, or_false] at hp
    rcases hp with rfl | rfl | rfl | rfl | rfl | rfl | rfl | rfl
    · exact ⟨_, He.glo_ok X G (c.fact 37 (f := .glo "BadNumber") rfl), rfl⟩
    · exact ⟨_, He.glo_ok X G (c.fact 38 (f := .glo "BadPlane") rfl), rfl⟩
    · exact ⟨_, He.glo_ok X G (c.fact 39 (f := .glo "BadShape") rfl), rfl⟩
    · exact ⟨_, He.glo_ok X G (c.fact 40 (f := .glo "BadWay") rfl), rfl⟩
    · obtain ⟨t, e⟩ := He.int_ok X G (c.fact 41 (f := .int "LEAST_LOW" (-512)) rfl)
      exact ⟨_, e, t, rfl⟩
    · obtain ⟨t, e⟩ := He.int_ok X G (c.fact 42 (f := .int "MOST_HIGH" (511)) rfl)
      exact ⟨_, e, t, rfl⟩
    · obtain ⟨t, e⟩ := He.int_ok X G (c.fact 43 (f := .int "MOST_SIDE" (16)) rfl)
      exact ⟨_, e, t, rfl⟩
    · exact ⟨_, He.glo_ok X G (c.fact 44 (f := .glo "Shape") rfl), rfl⟩
  exc := by
    intro p hp
    simp only [mdOf, List.mem_cons, List.not_mem_nil, or_false] at hp
    rcases hp with rfl | rfl | rfl | rfl
    · exact ⟨He.glo_ok X G (c.fact 37 (f := .glo "BadNumber") rfl), He.exc_ok (c.fact 46 (f := .exc "BadNumber") rfl)⟩
    · exact ⟨He.glo_ok X G (c.fact 38 (f := .glo "BadPlane") rfl), He.exc_ok (c.fact 47 (f := .exc "BadPlane") rfl)⟩
    · exact ⟨He.glo_ok X G (c.fact 40 (f := .glo "BadWay") rfl), He.exc_ok (c.fact 48 (f := .exc "BadWay") rfl)⟩
    · exact ⟨He.glo_ok X G (c.fact 45 (f := .glo "ReelError") rfl), He.exc_ok (c.fact 49 (f := .exc "ReelError") rfl)⟩
  exa := by
    intro p hp
    refine ⟨?_, hi p hp⟩
    simp only [mdOf, List.mem_cons, List.not_mem_nil, or_false] at hp
    rcases hp with rfl
    · exact He.glo_ok X G (c.fact 39 (f := .glo "BadShape") rfl)
section
variable {P : Program} {w : World} {K : PySem.W.Frag} {mg : Str → Option Value} {base : Heap}
theorem fs_is_number (c : Ctx P w K mg base) : FnEOk P w K mg base 2 ⟨"is_number", 1, [], 2, S_is_number K, none⟩ := by
  obtain ⟨fd, F⟩ := c.d.def_ 0 (d := d_is_number) rfl
  exact mk_fn (ix := [0]) (fun _ vs H Q E => sp_is_number vs H Q E) F (c.g 0 _ rfl) sc_is_number (fun _ _ _ _ _ _ us ws h1 h2 => match us, ws, h1, h2 with | [_], [], _, _ => rfl) (mdOf K) c.m (.inr (by decide)) (fl_is_number K) (fun _ z => nomatch z) false (fun z => nomatch z) (TT K) none (fun _ z => nomatch z) (fun cells acts E => t_is_number K cells acts (TT K) none (fun cls d _ H' => E cls d H')) (fun cells acts E => eq_is_number K cells acts (TT K)  _) (fun cells acts vs H Q E h => ok_is_number  h) (fun _ _ _ _ _ _ _ _ h => h)
theorem fs_is_between (c : Ctx P w K mg base) : FnEOk P w K mg base 3 ⟨"is_between", 3, [], 3, S_is_between K, none⟩ := by
  obtain ⟨fd, F⟩ := c.d.def_ 1 (d := d_is_between) rfl
  exact mk_fn (ix := [0, 1, 2]) (fun _ vs H Q E => sp_is_between vs H Q E) F (c.g 1 _ rfl) sc_is_between (fun _ _ _ _ _ _ us ws h1 h2 => match us, ws, h1, h2 with | [_, _, _], [], _, _ => rfl) (mdOf K) c.m (.inr (by decide)) (fl_is_between K) (List.forall_mem_cons.mpr ⟨(fs_is_number c).mono (by decide), (fun _ z => nomatch z)⟩) false (fun z => nomatch z) (TT K) none (fun _ z => nomatch z) (fun cells acts E => t_is_between K cells acts (TT K) none (fun cls d _ H' => E cls d H')) (fun cells acts E => eq_is_between K cells acts (TT K)  _) (fun cells acts vs H Q E h => ok_is_between  h) (fun _ _ _ _ _ _ _ _ h => h)
theorem fs_need_shape (c : Ctx P w K mg base) : FnEOk P w K mg base 2 ⟨"need_shape", 1, [], 2, S_need_shape K, none⟩ := by
  obtain ⟨fd, F⟩ := c.d.def_ 2 (d := d_need_shape) rfl
  exact mk_fn (ix := [0]) (fun _ vs H Q E => sp_need_shape K vs H Q E) F (c.g 2 _ rfl) sc_need_shape (fun _ _ _ _ _ _ us ws h1 h2 => match us, ws, h1, h2 with | [_], [], _, _ => rfl) (mdOf K) c.m (.inr (by decide)) (fl_need_shape K) (fun _ z => nomatch z) false (fun z => nomatch z) (TT K) none (fun _ z => nomatch z) (fun cells acts E => t_need_shape K cells acts (TT K) none (fun cls d _ H' => E cls d H')) (fun cells acts E => eq_need_shape K cells acts (TT K)  _) (fun cells acts vs H Q E h => ok_need_shape c.F.sh h) (fun _ _ _ _ _ _ _ _ h => h)
theorem fs_fits_grid (c : Ctx P w K mg base) : FnEOk P w K mg base 3 ⟨"fits_grid", 3, [], 3, S_fits_grid K, none⟩ := by
  obtain ⟨fd, F⟩ := c.d.def_ 3 (d := d_fits_grid) rfl
  exact mk_fn (ix := [0, 1, 2]) (fun _ vs H Q E => sp_fits_grid vs H Q E) F (c.g 3 _ rfl) sc_fits_grid (fun _ _ _ _ _ _ us ws h1 h2 => match us, ws, h1, h2 with | [_, _, _], [], _, _ => rfl) (mdOf K) c.m (.inr (by decide)) (fl_fits_grid K) (List.forall_mem_cons.mpr ⟨(fs_is_number c).mono (by decide), (fun _ z => nomatch z)⟩) false (fun z => nomatch z) (TT K) none (fun _ z => nomatch z) (fun cells acts E => t_fits_grid K cells acts (TT K) none (fun cls d _ H' => E cls d H')) (fun cells acts E => eq_fits_grid K cells acts (TT K)  _) (fun cells acts vs H Q E h => ok_fits_grid  h) (fun _ _ _ _ _ _ _ _ h => h)
theorem fs_does_suit (c : Ctx P w K mg base) : FnEOk P w K mg base 4 ⟨"does_suit", 2, [], 4, S_does_suit K, none⟩ := by
  obtain ⟨fd, F⟩ := c.d.def_ 4 (d := d_does_suit) rfl
  exact mk_fn (ix := [0, 1]) (fun _ vs H Q E => sp_does_suit K vs H Q E) F (c.g 4 _ rfl) sc_does_suit (fun _ _ _ _ _ _ us ws h1 h2 => match us, ws, h1, h2 with | [_, _], [], _, _ => rfl) (mdOf K) c.m (.inr (by decide)) (fl_does_suit K) (List.forall_mem_cons.mpr ⟨(fs_fits_grid c).mono (by decide), (fun _ z => nomatch z)⟩) false (fun z => nomatch z) (TT K) none (fun _ z => nomatch z) (fun cells acts E => t_does_suit K cells acts (TT K) none (fun cls d _ H' => E cls d H')) (fun cells acts E => eq_does_suit K cells acts (TT K)  _) (fun cells acts vs H Q E h => ok_does_suit c.F.sh h) (fun _ _ _ _ _ _ _ _ h => h)
theorem fs_is_plane (c : Ctx P w K mg base) : FnEOk P w K mg base 5 ⟨"is_plane", 2, [], 5, S_is_plane K, none⟩ := by
  obtain ⟨fd, F⟩ := c.d.def_ 5 (d := d_is_plane) rfl
  exact mk_fn (ix := [0, 1]) (fun _ vs H Q E => sp_is_plane K vs H Q E) F (c.g 5 _ rfl) sc_is_plane (fun _ _ _ _ _ _ us ws h1 h2 => match us, ws, h1, h2 with | [_, _], [], _, _ => rfl) (mdOf K) c.m (.inr (by decide)) (fl_is_plane K) (List.forall_mem_cons.mpr ⟨(fs_need_shape c).mono (by decide), (List.forall_mem_cons.mpr ⟨(fs_does_suit c).mono (by decide), (fun _ z => nomatch z)⟩)⟩) false (fun z => nomatch z) (TT K) none (fun _ z => nomatch z) (fun cells acts E => t_is_plane K cells acts (TT K) none (fun cls d _ H' => E cls d H')) (fun cells acts E => eq_is_plane K cells acts (TT K)  _) (fun cells acts vs H Q E h => ok_is_plane c.F.sh h) (fun _ _ _ _ _ _ _ _ h => h)
theorem fs_is_plane_k0_thing_shape (c : Ctx P w K mg base) : FnEOk P w K mg base 5 ⟨"is_plane", 0, ["thing", "shape"], 5, S_is_plane_k0_thing_shape K, none⟩ := by
  obtain ⟨fd, F⟩ := c.d.def_ 5 (d := d_is_plane) rfl
  exact mk_fn (ix := [1, 0]) (fun _ vs H Q E => sp_is_plane K vs H Q E) F (c.g 5 _ rfl) sc_is_plane (fun _ _ _ _ _ _ us ws h1 h2 => match us, ws, h1, h2 with | [], [_, _], _, _ => rfl) (mdOf K) c.m (.inr (by decide)) (fl_is_plane K) (List.forall_mem_cons.mpr ⟨(fs_need_shape c).mono (by decide), (List.forall_mem_cons.mpr ⟨(fs_does_suit c).mono (by decide), (fun _ z => nomatch z)⟩)⟩) false (fun z => nomatch z) (TT K) none (fun _ z => nomatch z) (fun cells acts E => t_is_plane K cells acts (TT K) none (fun cls d _ H' => E cls d H')) (fun cells acts E => eq_is_plane K cells acts (TT K)  _) (fun cells acts vs H Q E h => ok_is_plane c.F.sh h) (fun _ _ _ _ _ _ _ _ h => h)
theorem fs_flat_of (c : Ctx P w K mg base) : FnEOk P w K mg base 2 ⟨"flat_of", 2, [], 2, S_flat_of K, none⟩ := by
  obtain ⟨fd, F⟩ := c.d.def_ 6 (d := d_flat_of) rfl
  exact mk_fn (ix := [0, 1]) (fun _ vs H Q E => sp_flat_of K vs H Q E) F (c.g 6 _ rfl) sc_flat_of (fun _ _ _ _ _ _ us ws h1 h2 => match us, ws, h1, h2 with | [_, _], [], _, _ => rfl) (mdOf K) c.m (.inr (by decide)) (fl_flat_of K) (fun _ z => nomatch z) false (fun z => nomatch z) (TT K) none (fun _ z => nomatch z) (fun cells acts E => t_flat_of K cells acts (TT K) none (fun cls d _ H' => E cls d H')) (fun cells acts E => eq_flat_of K cells acts (TT K)  _) (fun cells acts vs H Q E h => ok_flat_of c.F.sh h) (fun _ _ _ _ _ _ _ _ h => h)
theorem fs_flat_plane (c : Ctx P w K mg base) : FnEOk P w K mg base 4 ⟨"flat_plane", 2, [], 4, S_flat_plane K, none⟩ := by
  obtain ⟨fd, F⟩ := c.d.def_ 7 (d := d_flat_plane) rfl
  exact mk_fn (ix := [0, 1]) (fun _ vs H Q E => sp_flat_plane K vs H Q E) F (c.g 7 _ rfl) sc_flat_plane (fun _ _ _ _ _ _ us ws h1 h2 => match us, ws, h1, h2 with | [_, _], [], _, _ => rfl) (mdOf K) c.m (.inr (by decide)) (fl_flat_plane K) (List.forall_mem_cons.mpr ⟨(fs_need_shape c).mono (by decide), (List.forall_mem_cons.mpr ⟨(fs_is_between c).mono (by decide), (List.forall_mem_cons.mpr ⟨(fs_flat_of c).mono (by decide), (fun _ z => nomatch z)⟩)⟩)⟩) false (fun z => nomatch z) (TT K) none (fun _ z => nomatch z) (fun cells acts E => t_flat_plane K cells acts (TT K) none (fun cls d _ H' => E cls d H')) (fun cells acts E => eq_flat_plane K cells acts (TT K)  _) (fun cells acts vs H Q E h => ok_flat_plane c.F.sh h) (fun _ _ _ _ _ _ _ _ h => h)
theorem fs_flat_plane_k0_number_shape (c : Ctx P w K mg base) : FnEOk P w K mg base 4 ⟨"flat_plane", 0, ["number", "shape"], 4, S_flat_plane_k0_number_shape K, none⟩ := by
  obtain ⟨fd, F⟩ := c.d.def_ 7 (d := d_flat_plane) rfl
  exact mk_fn (ix := [1, 0]) (fun _ vs H Q E => sp_flat_plane K vs H Q E) F (c.g 7 _ rfl) sc_flat_plane (fun _ _ _ _ _ _ us ws h1 h2 => match us, ws, h1, h2 with | [], [_, _], _, _ => rfl) (mdOf K) c.m (.inr (by decide)) (fl_flat_plane K) (List.forall_mem_cons.mpr ⟨(fs_need_shape c).mono (by decide), (List.forall_mem_cons.mpr ⟨(fs_is_between c).mono (by decide), (List.forall_mem_cons.mpr ⟨(fs_flat_of c).mono (by decide), (fun _ z => nomatch z)⟩)⟩)⟩) false (fun z => nomatch z) (TT K) none (fun _ z => nomatch z) (fun cells acts E => t_flat_plane K cells acts (TT K) none (fun cls d _ H' => E cls d H')) (fun cells acts E => eq_flat_plane K cells acts (TT K)  _) (fun cells acts vs H Q E h => ok_flat_plane c.F.sh h) (fun _ _ _ _ _ _ _ _ h => h)
theorem fs_is_any_plane (c : Ctx P w K mg base) : FnEOk P w K mg base 4 ⟨"is_any_plane", 1, [], 4, S_is_any_plane K, none⟩ := by
  obtain ⟨fd, F⟩ := c.d.def_ 8 (d := d_is_any_plane) rfl
  exact mk_fn (ix := [0]) (fun _ vs H Q E => sp_is_any_plane vs H Q E) F (c.g 8 _ rfl) sc_is_any_plane (fun _ _ _ _ _ _ us ws h1 h2 => match us, ws, h1, h2 with | [_], [], _, _ => rfl) (mdOf K) c.m (.inr (by decide)) (fl_is_any_plane K) (List.forall_mem_cons.mpr ⟨(fs_fits_grid c).mono (by decide), (fun _ z => nomatch z)⟩) false (fun z => nomatch z) (TT K) none (fun _ z => nomatch z) (fun cells acts E => t_is_any_plane K cells acts (TT K) none (fun cls d _ H' => E cls d H')) (fun cells acts E => eq_is_any_plane K cells acts (TT K)  _) (fun cells acts vs H Q E h => ok_is_any_plane  h) (fun _ _ _ _ _ _ _ _ h => h)
theorem fs_turned (c : Ctx P w K mg base) : FnEOk P w K mg base 5 ⟨"turned", 2, [], 5, S_turned K, none⟩ := by
  obtain ⟨fd, F⟩ := c.d.def_ 9 (d := d_turned) rfl
  exact mk_fn (ix := [0, 1]) (fun _ vs H Q E => sp_turned K vs H Q E) F (c.g 9 _ rfl) sc_turned (fun _ _ _ _ _ _ us ws h1 h2 => match us, ws, h1, h2 with | [_, _], [], _, _ => rfl) (mdOf K) c.m (.inr (by decide)) (fl_turned K) (List.forall_mem_cons.mpr ⟨(fs_is_any_plane c).mono (by decide), (fun _ z => nomatch z)⟩) false (fun z => nomatch z) (TT K) none (fun _ z => nomatch z) (fun cells acts E => t_turned K cells acts (TT K) none (fun cls d _ H' => E cls d H')) (fun cells acts E => eq_turned K cells acts (TT K)  _) (fun cells acts vs H Q E h => ok_turned  h) (fun _ _ _ _ _ _ _ _ h => h)
theorem fs_turned_k0_way_plane (c : Ctx P w K mg base) : FnEOk P w K mg base 5 ⟨"turned", 0, ["way", "plane"], 5, S_turned_k0_way_plane K, none⟩ := by
  obtain ⟨fd, F⟩ := c.d.def_ 9 (d := d_turned) rfl
  exact mk_fn (ix := [1, 0]) (fun _ vs H Q E => sp_turned K vs H Q E) F (c.g 9 _ rfl) sc_turned (fun _ _ _ _ _ _ us ws h1 h2 => match us, ws, h1, h2 with | [], [_, _], _, _ => rfl) (mdOf K) c.m (.inr (by decide)) (fl_turned K) (List.forall_mem_cons.mpr ⟨(fs_is_any_plane c).mono (by decide), (fun _ z => nomatch z)⟩) false (fun z => nomatch z) (TT K) none (fun _ z => nomatch z) (fun cells acts E => t_turned K cells acts (TT K) none (fun cls d _ H' => E cls d H')) (fun cells acts E => eq_turned K cells acts (TT K)  _) (fun cells acts vs H Q E h => ok_turned  h) (fun _ _ _ _ _ _ _ _ h => h)
theorem fs__law_begun (c : Ctx P w K mg base) : FnEOk P w K mg base 2 ⟨"_law_begun", 1, [], 2, S__law_begun K, none⟩ := by
  obtain ⟨fd, F⟩ := c.d.def_ 10 (d := d__law_begun) rfl
  exact mk_fn (ix := [0]) (fun acts vs H Q E => spBegun K acts vs [] H Q E) F (c.g 10 _ rfl) sc__law_begun (fun _ _ _ _ _ _ us ws h1 h2 => match us, ws, h1, h2 with | [_], [], _, _ => rfl) (mdOf K) c.m (.inr (by decide)) (fl__law_begun K) (fun _ z => nomatch z) false (fun z => nomatch z) (TT K) none (fun _ z => nomatch z) (fun cells acts E => t__law_begun K cells acts (TT K) none (fun cls d _ H' => E cls d H')) (fun cells acts E => eq__law_begun K cells acts (TT K)  _) (fun cells acts vs H Q E h => ⟨ln_begun h, begun_ok rfl h⟩) (fun _ _ _ _ _ _ _ _ h => hi_begun h)
theorem fs__law_draw (c : Ctx P w K mg base) : FnEOk P w K mg base 2 ⟨"_law_draw", 2, [], 2, S__law_draw K, none⟩ := by
  obtain ⟨fd, F⟩ := c.d.def_ 11 (d := d__law_draw) rfl
  exact mk_fn (ix := [0, 1]) (fun acts vs H Q E => spDraw acts vs [] H Q E) F (c.g 11 _ rfl) sc__law_draw (fun _ _ _ _ _ _ us ws h1 h2 => match us, ws, h1, h2 with | [_, _], [], _, _ => rfl) (mdOf K) c.m (.inr (by decide)) (fl__law_draw K) (fun _ z => nomatch z) false (fun z => nomatch z) (TT K) none (fun _ z => nomatch z) (fun cells acts E => t__law_draw K cells acts (TT K) none (fun cls d _ H' => E cls d H')) (fun cells acts E => eq__law_draw K cells acts (TT K)  _) (fun cells acts vs H Q E h => ⟨ln_draw h, draw_ok rfl h⟩) (fun _ _ _ _ _ _ _ _ h => hi_draw h)
theorem fs__law_pick (c : Ctx P w K mg base) : FnEOk P w K mg base 3 ⟨"_law_pick", 2, [], 3, S__law_pick K, none⟩ := by
  obtain ⟨fd, F⟩ := c.d.def_ 12 (d := d__law_pick) rfl
  exact mk_fn (ix := [0, 1]) (fun acts vs H Q E => spPick acts vs [] H Q E) F (c.g 12 _ rfl) sc__law_pick (fun _ _ _ _ _ _ us ws h1 h2 => match us, ws, h1, h2 with | [_, _], [], _, _ => rfl) (mdOf K) c.m (.inr (by decide)) (fl__law_pick K) (List.forall_mem_cons.mpr ⟨(fs__law_draw c).mono (by decide), (fun _ z => nomatch z)⟩) false (fun z => nomatch z) (TT K) none (fun _ z => nomatch z) (fun cells acts E => t__law_pick K cells acts (TT K) none (fun cls d _ H' => E cls d H')) (fun cells acts E => eq__law_pick K cells acts (TT K)  _) (fun cells acts vs H Q E h => ⟨ln_pick h, pick_ok rfl h⟩) (fun _ _ _ _ _ _ _ _ h => hi_pick h)
theorem fs__law_caught (c : Ctx P w K mg base) : FnEOk P w K mg base 44 ⟨"_law_caught", 1, [], 44, S__law_caught K, none⟩ := by
  obtain ⟨fd, F⟩ := c.d.def_ 13 (d := d__law_caught) rfl
  exact mk_fn (ix := [0]) (fun acts vs H Q E => spCaught K acts vs [] H Q E) F (c.g 13 _ rfl) sc__law_caught (fun _ _ _ _ _ _ us ws h1 h2 => match us, ws, h1, h2 with | [_], [], _, _ => rfl) (mdOf K) c.m (.inr (by decide)) (fl__law_caught K) (fun _ z => nomatch z) true (fun _ => by decide) (TT K) none (fun _ z => nomatch z) (fun cells acts E => t__law_caught K cells acts (TT K) none (fun cls d _ H' => E cls d H')) (fun cells acts E => eq__law_caught K cells acts (TT K)  _) (fun cells acts vs H Q E h => ⟨ln_caught h, caught_ok rfl h⟩) (fun _ _ _ _ _ _ _ _ h => hi_caught h)
theorem fs__law_is_whole (c : Ctx P w K mg base) : FnEOk P w K mg base 2 ⟨"_law_is_whole", 1, [], 2, S__law_is_whole K, none⟩ := by
  obtain ⟨fd, F⟩ := c.d.def_ 14 (d := d__law_is_whole) rfl
  exact mk_fn (ix := [0]) (fun _ vs H Q E => sp_is_number vs H Q E) F (c.g 14 _ rfl) sc__law_is_whole (fun _ _ _ _ _ _ us ws h1 h2 => match us, ws, h1, h2 with | [_], [], _, _ => rfl) (mdOf K) c.m (.inr (by decide)) (fl__law_is_whole K) (fun _ z => nomatch z) false (fun z => nomatch z) (TT K) none (fun _ z => nomatch z) (fun cells acts E => t__law_is_whole K cells acts (TT K) none (fun cls d _ H' => E cls d H')) (fun cells acts E => eq__law_is_whole K cells acts (TT K)  _) (fun cells acts vs H Q E h => ok__law_is_whole  h) (fun _ _ _ _ _ _ _ _ h => h)
theorem fs__law_scope (c : Ctx P w K mg base) : FnEOk P w K mg base 4 ⟨"_law_scope", 1, [], 4, S__law_scope K, none⟩ := by
  obtain ⟨fd, F⟩ := c.d.def_ 15 (d := d__law_scope) rfl
  exact mk_fn (ix := [0]) (fun _ vs H Q E => sp_scope vs H Q E) F (c.g 15 _ rfl) sc__law_scope (fun _ _ _ _ _ _ us ws h1 h2 => match us, ws, h1, h2 with | [_], [], _, _ => rfl) (mdOf K) c.m (.inr (by decide)) (fl__law_scope K) (List.forall_mem_cons.mpr ⟨(fs__law_draw c).mono (by decide), (List.forall_mem_cons.mpr ⟨(fs__law_pick c).mono (by decide), (fun _ z => nomatch z)⟩)⟩) false (fun z => nomatch z) (TT K) none (fun _ z => nomatch z) (fun cells acts E => t__law_scope K cells acts (TT K) none (fun cls d _ H' => E cls d H')) (fun cells acts E => eq__law_scope K cells acts (TT K)  _) (fun cells acts vs H Q E h => ok_scope  h) (fun _ _ _ _ _ _ _ _ h => h)
theorem fs__law_within (c : Ctx P w K mg base) : FnEOk P w K mg base 2 ⟨"_law_within", 2, [], 2, S__law_within K, none⟩ := by
  obtain ⟨fd, F⟩ := c.d.def_ 16 (d := d__law_within) rfl
  exact mk_fn (ix := [0, 1]) (fun _ vs H Q E => sp_within vs H Q E) F (c.g 16 _ rfl) sc__law_within (fun _ _ _ _ _ _ us ws h1 h2 => match us, ws, h1, h2 with | [_, _], [], _, _ => rfl) (mdOf K) c.m (.inr (by decide)) (fl__law_within K) (fun _ z => nomatch z) false (fun z => nomatch z) (TT K) none (fun _ z => nomatch z) (fun cells acts E => t__law_within K cells acts (TT K) none (fun cls d _ H' => E cls d H')) (fun cells acts E => eq__law_within K cells acts (TT K)  _) (fun cells acts vs H Q E h => ok_within  h) (fun _ _ _ _ _ _ _ _ h => h)
theorem fs__law_grain (c : Ctx P w K mg base) : FnEOk P w K mg base 3 ⟨"_law_grain", 2, [], 3, S__law_grain K, none⟩ := by
  obtain ⟨fd, F⟩ := c.d.def_ 17 (d := d__law_grain) rfl
  exact mk_fn (ix := [0, 1]) (fun _ vs H Q E => sp_grain vs H Q E) F (c.g 17 _ rfl) sc__law_grain (fun _ _ _ _ _ _ us ws h1 h2 => match us, ws, h1, h2 with | [_, _], [], _, _ => rfl) (mdOf K) c.m (.inr (by decide)) (fl__law_grain K) (List.forall_mem_cons.mpr ⟨(fs__law_draw c).mono (by decide), (fun _ z => nomatch z)⟩) false (fun z => nomatch z) (TT K) none (fun _ z => nomatch z) (fun cells acts E => t__law_grain K cells acts (TT K) none (fun cls d _ H' => E cls d H')) (fun cells acts E => eq__law_grain K cells acts (TT K)  _) (fun cells acts vs H Q E h => ok_grain  h) (fun _ _ _ _ _ _ _ _ h => h)
theorem fs__law_pane (c : Ctx P w K mg base) : FnEOk P w K mg base 4 ⟨"_law_pane", 2, [], 4, S__law_pane K, none⟩ := by
  obtain ⟨fd, F⟩ := c.d.def_ 18 (d := d__law_pane) rfl
  exact mk_fn (ix := [0, 1]) (fun _ vs H Q E => sp_pane vs H Q E) F (c.g 18 _ rfl) sc__law_pane (fun _ _ _ _ _ _ us ws h1 h2 => match us, ws, h1, h2 with | [_, _], [], _, _ => rfl) (mdOf K) c.m (.inr (by decide)) (fl__law_pane K) (List.forall_mem_cons.mpr ⟨(fs__law_draw c).mono (by decide), (List.forall_mem_cons.mpr ⟨(fs__law_grain c).mono (by decide), (List.forall_mem_cons.mpr ⟨(fs__law_pick c).mono (by decide), (List.forall_mem_cons.mpr ⟨(fs__law_within c).mono (by decide), (fun _ z => nomatch z)⟩)⟩)⟩)⟩) false (fun z => nomatch z) (TT K) none (fun _ z => nomatch z) (fun cells acts E => t__law_pane K cells acts (TT K) none (fun cls d _ H' => E cls d H')) (fun cells acts E => eq__law_pane K cells acts (TT K)  _) (fun cells acts vs H Q E h => ok__law_pane  h) (fun _ _ _ _ _ _ _ _ h => h)
theorem fs__law_due (c : Ctx P w K mg base) : FnEOk P w K mg base 3 ⟨"_law_due", 1, [], 3, S__law_due K, none⟩ := by
  obtain ⟨fd, F⟩ := c.d.def_ 19 (d := d__law_due) rfl
  exact mk_fn (ix := [0]) (fun _ vs H Q E => sp_due K vs H Q E) F (c.g 19 _ rfl) sc__law_due (fun _ _ _ _ _ _ us ws h1 h2 => match us, ws, h1, h2 with | [_], [], _, _ => rfl) (mdOf K) c.m (.inr (by decide)) (fl__law_due K) (List.forall_mem_cons.mpr ⟨(fs__law_is_whole c).mono (by decide), (fun _ z => nomatch z)⟩) false (fun z => nomatch z) (TT K) none (fun _ z => nomatch z) (fun cells acts E => t__law_due K cells acts (TT K) none (fun cls d _ H' => E cls d H')) (fun cells acts E => eq__law_due K cells acts (TT K)  _) (fun cells acts vs H Q E h => ok__law_due  h) (fun _ _ _ _ _ _ _ _ h => h)
theorem fs__law_is_pane (c : Ctx P w K mg base) : FnEOk P w K mg base 3 ⟨"_law_is_pane", 2, [], 3, S__law_is_pane K, none⟩ := by
  obtain ⟨fd, F⟩ := c.d.def_ 20 (d := d__law_is_pane) rfl
  exact mk_fn (ix := [0, 1]) (fun _ vs H Q E => sp_is_pane vs H Q E) F (c.g 20 _ rfl) sc__law_is_pane (fun _ _ _ _ _ _ us ws h1 h2 => match us, ws, h1, h2 with | [_, _], [], _, _ => rfl) (mdOf K) c.m (.inr (by decide)) (fl__law_is_pane K) (List.forall_mem_cons.mpr ⟨(fs__law_is_whole c).mono (by decide), (fun _ z => nomatch z)⟩) false (fun z => nomatch z) (TT K) none (fun _ z => nomatch z) (fun cells acts E => t__law_is_pane K cells acts (TT K) none (fun cls d _ H' => E cls d H')) (fun cells acts E => eq__law_is_pane K cells acts (TT K)  _) (fun cells acts vs H Q E h => ok__law_is_pane  h) (fun _ _ _ _ _ _ _ _ h => h)
theorem fs__law_bent (c : Ctx P w K mg base) : FnEOk P w K mg base 4 ⟨"_law_bent", 3, [], 4, S__law_bent K, none⟩ := by
  obtain ⟨fd, F⟩ := c.d.def_ 21 (d := d__law_bent) rfl
  exact mk_fn (ix := [0, 1, 2]) (fun _ vs H Q E => sp_bent vs H Q E) F (c.g 21 _ rfl) sc__law_bent (fun _ _ _ _ _ _ us ws h1 h2 => match us, ws, h1, h2 with | [_, _, _], [], _, _ => rfl) (mdOf K) c.m (.inr (by decide)) (fl__law_bent K) (List.forall_mem_cons.mpr ⟨(fs__law_draw c).mono (by decide), (List.forall_mem_cons.mpr ⟨(fs__law_pick c).mono (by decide), (List.forall_mem_cons.mpr ⟨(fs__law_grain c).mono (by decide), (fun _ z => nomatch z)⟩)⟩)⟩) false (fun z => nomatch z) (TT K) none (fun _ z => nomatch z) (fun cells acts E => t__law_bent K cells acts (TT K) none (fun cls d _ H' => E cls d H')) (fun cells acts E => eq__law_bent K cells acts (TT K)  _) (fun cells acts vs H Q E h => ok__law_bent  h) (fun _ _ _ _ _ _ _ _ h => h)
theorem fs__law_turned_right (c : Ctx P w K mg base) : FnEOk P w K mg base 6 ⟨"_law_turned_right", 3, [], 6, S__law_turned_right K, none⟩ := by
  obtain ⟨fd, F⟩ := c.d.def_ 22 (d := d__law_turned_right) rfl
  exact mk_fn (ix := [0, 1, 2]) (fun _ vs H Q E => sp_turned_right vs H Q E) F (c.g 22 _ rfl) sc__law_turned_right (fun _ _ _ _ _ _ us ws h1 h2 => match us, ws, h1, h2 with | [_, _, _], [], _, _ => rfl) (mdOf K) c.m (.inr (by decide)) (fl__law_turned_right K) (List.forall_mem_cons.mpr ⟨(fs_turned c).mono (by decide), (List.forall_mem_cons.mpr ⟨(fs_turned_k0_way_plane c).mono (by decide), (fun _ z => nomatch z)⟩)⟩) false (fun z => nomatch z) (TT K) none (fun _ z => nomatch z) (fun cells acts E => t__law_turned_right K cells acts (TT K) none (fun cls d _ H' => E cls d H')) (fun cells acts E => eq__law_turned_right K cells acts (TT K)  _) (fun cells acts vs H Q E h => ok__law_turned_right  h) (fun _ _ _ _ _ _ _ _ h => h)
theorem fs_Shape___init__ (c : Ctx P w K mg base) : FnS P w K mg base 4 (He.fAd K ("Shape", some "__init__")) 5 [] (S_Shape___init__ K) := by
  obtain ⟨fd, F⟩ := c.d.def_ 23 (d := d_Shape___init__) rfl
  exact mk_mt (ix := [0, 1, 2, 3, 4]) (fun _ vs H Q E => sp_shape_init K vs H Q E) F sc_Shape___init__ (fun _ _ _ _ _ _ us ws h1 h2 => match us, ws, h1, h2 with | [_, _, _, _, _], [], _, _ => rfl) (mdOf K) c.m (.inr (by decide)) (fl_Shape___init__ K) (List.forall_mem_cons.mpr ⟨(fs_is_between c).mono (by decide), (fun _ z => nomatch z)⟩) false (fun z => nomatch z) (TT K) none (fun _ z => nomatch z) (fun cells acts E => t_Shape___init__ K cells acts (TT K) none (fun cls d _ H' => E cls d H')) (fun cells acts E => eq_Shape___init__ K cells acts (TT K)  _) (fun cells acts vs H Q E h => ok_Shape___init__ c.F.sh h) (fun _ _ _ _ _ _ _ _ h => h)
theorem fs_Shape (c : Ctx P w K mg base) : FnEOk P w K mg base 5 ⟨"Shape", 4, [], 5, S_Shape K, none⟩ := mk_cls c.mk_Shape (c.g 44 _ rfl) (fs_Shape___init__ c)
theorem fs_Shape___init___k1_high_low_width_height (c : Ctx P w K mg base) : FnS P w K mg base 4 (He.fAd K ("Shape", some "__init__")) 1 ["high", "low", "width", "height"] (S_Shape___init___k1_high_low_width_height K) := by
  obtain ⟨fd, F⟩ := c.d.def_ 23 (d := d_Shape___init__) rfl
  exact mk_mt (ix := [0, 4, 3, 2, 1]) (fun _ vs H Q E => sp_shape_init K vs H Q E) F sc_Shape___init__ (fun _ _ _ _ _ _ us ws h1 h2 => match us, ws, h1, h2 with | [_], [_, _, _, _], _, _ => rfl) (mdOf K) c.m (.inr (by decide)) (fl_Shape___init__ K) (List.forall_mem_cons.mpr ⟨(fs_is_between c).mono (by decide), (fun _ z => nomatch z)⟩) false (fun z => nomatch z) (TT K) none (fun _ z => nomatch z) (fun cells acts E => t_Shape___init__ K cells acts (TT K) none (fun cls d _ H' => E cls d H')) (fun cells acts E => eq_Shape___init__ K cells acts (TT K)  _) (fun cells acts vs H Q E h => ok_Shape___init__ c.F.sh h) (fun _ _ _ _ _ _ _ _ h => h)
theorem fs_Shape_k0_high_low_width_height (c : Ctx P w K mg base) : FnEOk P w K mg base 5 ⟨"Shape", 0, ["high", "low", "width", "height"], 5, S_Shape_k0_high_low_width_height K, none⟩ := mk_cls c.mk_Shape (c.g 44 _ rfl) (fs_Shape___init___k1_high_low_width_height c)
theorem fn_Shape_own_parts (c : Ctx P w K mg base) : FnS P w K mg base 2 (He.fAd K ("Shape", some "own_parts")) 1 [] (S_Shape_own_parts K) := by
  obtain ⟨fd, F⟩ := c.d.def_ 24 (d := d_Shape_own_parts) rfl
  exact mk_mt (ix := [0]) (fun _ vs H Q E => sp_own_parts K vs H Q E) F sc_Shape_own_parts (fun _ _ _ _ _ _ us ws h1 h2 => match us, ws, h1, h2 with | [_], [], _, _ => rfl) (mdOf K) c.m (.inr (by decide)) (fl_Shape_own_parts K) (fun _ z => nomatch z) false (fun z => nomatch z) (TT K) none (fun _ z => nomatch z) (fun cells acts E => t_Shape_own_parts K cells acts (TT K) none (fun cls d _ H' => E cls d H')) (fun cells acts E => eq_Shape_own_parts K cells acts (TT K)  _) (fun cells acts vs H Q E h => ok_Shape_own_parts c.F.sh h) (fun _ _ _ _ _ _ _ _ h => h)
theorem fs_Shape_own_parts (c : Ctx P w K mg base) : FnEOk P w K mg base 3 ⟨"own_parts", 0, [], 2, S_Shape_own_parts K, some (He.ga K "Shape")⟩ := ⟨Nat.le_refl _, _, c.cls_Shape, c.mt_Shape_own_parts, fn_Shape_own_parts c⟩
theorem fn_Shape___eq__ (c : Ctx P w K mg base) : FnS P w K mg base 4 (He.fAd K ("Shape", some "__eq__")) 2 [] (S_Shape___eq__ K) := by
  obtain ⟨fd, F⟩ := c.d.def_ 25 (d := d_Shape___eq__) rfl
  exact mk_mt (ix := [0, 1]) (fun _ vs H Q E => sp_sh_eq K vs H Q E) F sc_Shape___eq__ (fun _ _ _ _ _ _ us ws h1 h2 => match us, ws, h1, h2 with | [_, _], [], _, _ => rfl) (mdOf K) c.m (.inr (by decide)) (fl_Shape___eq__ K) (List.forall_mem_cons.mpr ⟨(fs_Shape_own_parts c).mono (by decide), (fun _ z => nomatch z)⟩) false (fun z => nomatch z) (TT K) none (fun _ z => nomatch z) (fun cells acts E => t_Shape___eq__ K cells acts (TT K) none (fun cls d _ H' => E cls d H')) (fun cells acts E => eq_Shape___eq__ K cells acts (TT K)  _) (fun cells acts vs H Q E h => ok_Shape___eq__ c.F.sh h) (fun _ _ _ _ _ _ _ _ h => h)
theorem fs_Shape___eq__ (c : Ctx P w K mg base) : FnEOk P w K mg base 5 ⟨"__eq__", 1, [], 4, S_Shape___eq__ K, some (He.ga K "Shape")⟩ := ⟨Nat.le_refl _, _, c.cls_Shape, c.mt_Shape___eq__, fn_Shape___eq__ c⟩
theorem fs_law (c : Ctx P w K mg base) : FnEOk P w K mg base 45 ⟨"law", 1, [], 45, S_law K, none⟩ := by
  obtain ⟨fd, F⟩ := c.d.def_ 26 (d := d_law) rfl
  exact mk_fn (ix := [0]) (fun _ vs H Q E => sp_law K vs H Q E) F (c.g 23 _ rfl) sc_law (fun _ _ _ _ _ _ us ws h1 h2 => match us, ws, h1, h2 with | [_], [], _, _ => rfl) (mdOf K) c.m (.inr (by decide)) (fl_law K) (List.forall_mem_cons.mpr ⟨(fs__law_begun c).mono (by decide), (List.forall_mem_cons.mpr ⟨(fs__law_scope c).mono (by decide), (List.forall_mem_cons.mpr ⟨(fs_Shape c).mono (by decide), (List.forall_mem_cons.mpr ⟨(fs_Shape_k0_high_low_width_height c).mono (by decide), (List.forall_mem_cons.mpr ⟨(fs__law_draw c).mono (by decide), (List.forall_mem_cons.mpr ⟨(fs__law_pick c).mono (by decide), (List.forall_mem_cons.mpr ⟨(fs__law_due c).mono (by decide), (List.forall_mem_cons.mpr ⟨(fs__law_caught c).mono (by decide), (List.forall_mem_cons.mpr ⟨(fs__law_pane c).mono (by decide), (List.forall_mem_cons.mpr ⟨(fs__law_bent c).mono (by decide), (List.forall_mem_cons.mpr ⟨(fs__law_is_pane c).mono (by decide), (List.forall_mem_cons.mpr ⟨(fs_is_plane c).mono (by decide), (List.forall_mem_cons.mpr ⟨(fs_is_plane_k0_thing_shape c).mono (by decide), (List.forall_mem_cons.mpr ⟨(fs__law_grain c).mono (by decide), (List.forall_mem_cons.mpr ⟨(fs_flat_plane c).mono (by decide), (List.forall_mem_cons.mpr ⟨(fs__law_turned_right c).mono (by decide), (List.forall_mem_cons.mpr ⟨(fs_flat_plane_k0_number_shape c).mono (by decide), (List.forall_mem_cons.mpr ⟨(fs_turned c).mono (by decide), (List.forall_mem_cons.mpr ⟨(fs_Shape___eq__ c).mono (by decide), (fun _ z => nomatch z)⟩)⟩)⟩)⟩)⟩)⟩)⟩)⟩)⟩)⟩)⟩)⟩)⟩)⟩)⟩)⟩)⟩)⟩)⟩) false (fun z => nomatch z) (TT K) (some (tT K)) (fun p z => by cases z; exact tab_ok F c.tb (List.mem_singleton.mpr rfl) (fun r hr _ => by rw [List.mem_singleton.mp hr])) (fun cells acts E => t_law K cells acts (TT K) (some (tT K)) (fun cls d _ H' => E cls d H')) (fun cells acts E => eq_law K cells acts (TT K) (tT K) _) (fun cells acts vs H Q E h => ok_law c.F h) (fun _ _ _ _ _ _ _ _ h => h)
end

end K03

set_option Elab.async false
set_option linter.all false
set_option maxRecDepth 100000
set_option maxHeartbeats 0
namespace K03
open PySem PySem.Spec PyProof.Rows L2 LamX G Pk
/-! ### the head -/
abbrev R : PySem.W.OpenRow := PySem.W.OpenLaw.row PySem.Challenge.rw_pricedreels_k03_shapes_planes_and_turnin
abbrev PR : Program := PySem.Challenge.rw_pricedreels_k03_shapes_planes_and_turnin.prog
abbrev ini1 : Stmt := clsM (topS 4) 0
def in1 : IniD := ⟨"BadShape", "part", "BadShape.__init__", defArgs ini1, defBody ini1, defScope ini1⟩
theorem in1_s : IniS PR in1 where
  top := by decide +kernel
  sh := ⟨_, _, _, _, _, _, _, _, _, _, _, _, _, _, rfl, rfl, rfl, rfl, by decide +kernel, fun _ _ _ _ _ _ _ _ _ => rfl⟩
  ncell := by decide +kernel
  nco := rfl
  ngen := rfl
  kind := rfl
  s1 := by decide +kernel
  s2 := by decide +kernel
  s3 := by decide +kernel
  s4 := by decide +kernel
  hd := by decide +kernel
  hs := by decide +kernel
def mtB (K : PySem.W.Frag) (C : Addr) (m : Str) (f : Addr) : Bool := He.eqO (PySem.W.findIn K (.ref C) m) (some (some (.ref f))) && (PySem.W.isFn K (.ref f) && PySem.W.keepIn K (.ref f))
theorem mtB_ok {K : PySem.W.Frag} {C f : Addr} {m : Str} (h : mtB K C m f = true) : Meth K C m f := by
  obtain ⟨h1, h⟩ := He.ba h
  obtain ⟨h2, h3⟩ := He.ba h
  exact ⟨He.eqO_ok h1, h2, h3⟩
def neB (K : PySem.W.Frag) (C : Addr) : Bool := He.eqO (PySem.W.findIn K (.ref C) "__ne__") (some (some (.builtin "object.__ne__"))) && (decide (PySem.W.mroIn K C (.type "object") = some true) && (PySem.W.notFirst K C (.type "tuple") && PySem.W.notFirst K C (.type "NoneType")))
def exx (K : PySem.W.Frag) : Bool := shB K && (exB K (He.ga K "BadNumber") && (exB K (He.ga K "BadPlane") && (exB K (He.ga K "BadWay") && (mkB K (He.ga K "Shape") (He.fAd K ("Shape", some "__init__")) &&
  (mtB K (He.ga K "Shape") "own_parts" (He.fAd K ("Shape", some "own_parts")) && (mtB K (He.ga K "Shape") "__eq__" (He.fAd K ("Shape", some "__eq__")) && (neB K (He.ga K "Shape") && iniB K PR in1)))))))
def tf : List He.Defn := [("law", none)]
def ini : List IniD := [in1]
abbrev hk : PySem.W.Hook := hookY 4 fa fn [] tf ini exx
def ob (s : PySem.W.SharedT) : AlY := obsY 4 fa fn [] tf ini exx (HandSHeadRun.getT s)
theorem ob_eq (s : PySem.W.SharedT) : ob s = hk.obs s.abs := obsY_eq (HandSHeadRun.getT_eq s)
def loose : List Str := (["ReelError", "BadNumber", "BadPlane", "BadShape", "BadWay", "is_number", "is_between", "MOST_SIDE", "LEAST_LOW", "MOST_HIGH", "Shape", "need_shape", "fits_grid", "does_suit", "is_plane"] : List Str) ++ (["flat_of", "flat_plane", "is_any_plane", "turned", "_law_begun", "_law_draw", "_law_pick", "_law_caught", "_law_is_whole", "_law_scope", "_law_within", "_law_grain", "_law_pane", "_law_due", "_law_is_pane"] : List Str) ++ (["_law_bent", "_law_turned_right"] : List Str)
theorem run (w : World) : HandSHeadRun.RunEq R (PySem.W.view R.prog [36]) hk ob 4000 loose w := by
  intro os
  kernel_rfl
theorem law_facts {w : World} {K : PySem.W.Frag} {mg : Str → Option Value} {f : Addr} {h : Heap} (KX : K.In h) (Gl : h.Ns mainGlobals mg) (c : SaysY fa fn [] tf ini exx w h K) (hmg : mg ("law" : Str) = some (.ref f)) :
    LawG PySem.Challenge.rw_pricedreels_k03_shapes_planes_and_turnin w K 45 63 mg f h := by
  have csd : He.SaysD fa fn K := congrArg Prod.fst c.x.t
  have hm : (("law", none) : He.Defn) ∈ tf := List.mem_singleton.mpr rfl
  obtain ⟨x1, q⟩ := He.ba c.x.more
  obtain ⟨x2, q⟩ := He.ba q
  obtain ⟨x3, q⟩ := He.ba q
  obtain ⟨x4, q⟩ := He.ba q
  obtain ⟨x5, q⟩ := He.ba q
  obtain ⟨x6, q⟩ := He.ba q
  obtain ⟨x7, q⟩ := He.ba q
  obtain ⟨x8, x9⟩ := He.ba q
  obtain ⟨y1, y⟩ := He.ba x8
  obtain ⟨y2, y⟩ := He.ba y
  obtain ⟨y3, y4⟩ := He.ba y
  refine ⟨[He.cT K ("law", none)], S_law K, fun p hp => ?_, fun p hp => ?_, fun p hp => ?_, fun H a zs hl hb hT hS => ?_, fun base KB nb tb => ?_⟩
  · rw [List.mem_singleton.mp hp]
    exact c.x.empty _ hm
  · rw [List.mem_singleton.mp hp]
    exact c.x.out _ hm
  · rw [List.mem_singleton.mp hp]
    exact PySem.W.codeHd_of_K KX (c.x.hd _ hm)
  · refine ⟨a, zs, rfl, hS, by omega, fun q hq => ?_, fun _ => rfl⟩
    rw [List.mem_singleton.mp hq]
    exact ⟨#[], hT _ (List.mem_singleton.mpr rfl), trivial, fun pos cv h => nomatch h⟩
  · have C : Ctx PySem.Challenge.rw_pricedreels_k03_shapes_planes_and_turnin.prog w K mg base :=
      { m := md_ok KX Gl csd (fun p hp => by
          rw [List.mem_singleton.mp hp]
          exact c.ini 0 (d := in1) rfl in1_s x9)
        d := csd
        g := fun i x e => He.glo_ok KX Gl (csd.fact i e)
        F := { sh := shB_ok x1 (He.exm_ok (csd.facts (f := .exm "BadShape" "ReelError" true) (by simp [fa])))
               cn := ⟨He.exm_ok (csd.facts (f := .exm "BadNumber" "ReelError" true) (by simp [fa])), (exB_ok x2).1, (exB_ok x2).2⟩
               cp := ⟨He.exm_ok (csd.facts (f := .exm "BadPlane" "ReelError" true) (by simp [fa])), (exB_ok x3).1, (exB_ok x3).2⟩
               cw := ⟨He.exm_ok (csd.facts (f := .exm "BadWay" "ReelError" true) (by simp [fa])), (exB_ok x4).1, (exB_ok x4).2⟩
               ne := ⟨He.eqO_ok y1, of_decide_eq_true y2⟩
               nt := y3
               nn := y4 }
        mk_Shape := mkB_ok x5
        cls_Shape := (shB_ok x1 (He.exm_ok (csd.facts (f := .exm "BadShape" "ReelError" true) (by simp [fa])))).ins.cl
        mt_Shape_own_parts := mtB_ok x6
        mt_Shape___eq__ := mtB_ok x7
        tb := tb _ (List.mem_singleton.mpr rfl) }
    obtain ⟨_, f', e1, _, F⟩ := fs_law C
    have e2 := e1.symm.trans hmg
    cases e2
    exact F
end K03
open PySem PySem.W PySem.Calls PyProof.Rows
theorem PySem.Challenge.cw_pricedreels_k03_shapes_planes_and_turnin_holds : PySem.Challenge.rw_pricedreels_k03_shapes_planes_and_turnin.Holds := by
  w_on; o_law
  refine HandSHeadRun.head_any (r := OpenLaw.row PySem.Challenge.rw_pricedreels_k03_shapes_planes_and_turnin) (q := view (OpenLaw.row PySem.Challenge.rw_pricedreels_k03_shapes_planes_and_turnin).prog [36]) (H := K03.hk) (ob := K03.ob) (M := 4000) (loose := K03.loose) (d := HandSHeadRun.topDef (OpenLaw.row PySem.Challenge.rw_pricedreels_k03_shapes_planes_and_turnin).prog 36) (kwd := []) K03.ob_eq
    (by kernel_rfl) (fun s => by kernel_rfl) K03.run (by kernel_rfl) (by kernel_rfl) (by kernel_rfl) (by rfl) (by first | assumption | decide +kernel) (by decide +kernel) ⟨rfl, rfl, rfl, rfl, rfl, by decide +kernel⟩ ?hw ?hc
  case hw => w_witness2
  case hc =>
    refine G.law_end (n := 63) (k := 45) rfl (by decide) (by kernel_rfl) ⟨⟨rfl, by decide, by decide⟩, rfl⟩ ?F
    intro w mg fa h Y G hmg0
    obtain ⟨K, KX, c⟩ := Y
    have hmg : mg ("law" : PySem.Str) = some (.ref fa) := by
      have e : (HandSHeadRun.topDef (OpenLaw.row PySem.Challenge.rw_pricedreels_k03_shapes_planes_and_turnin).prog 36).name = ("law" : PySem.Str) := by kernel_rfl
      rw [← e]
      exact hmg0
    exact ⟨K, KX, K03.law_facts KX G c hmg⟩
