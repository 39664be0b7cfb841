import PyProof.Rows.All
import Wide.All
import OpenK.AllK
import Wide.FinOn
import HandS.ForExc
import HandS.ForDict
import HandS.ForMost
import HandS.Lambda
import HandS.Flow
import HandS.IsInst
import HandS.StrMore
import HandS.Style
import HandS.TupAny
import HandS.TupLe
import HandS.TupMul
import HandS.Wide
import HandS.ExcValue
import HandS.ExcIs
import HandS.RaiseMore
import HandS.Conv
import HandS.HeadHook4
import HandS.HeadWalk
import HandS.Head2
import HandS.EndBits
import PySem.Challenge.RW_pricedreels_k01_numbers_written_in_bits
set_option Elab.async false
set_option linter.all false
set_option maxRecDepth 100000
set_option maxHeartbeats 4000000
namespace G
open PySem PySem.Spec PyProof.Rows L2

/-! ## values: one rule an operation, told by what the two values are -/
def rAdd (K : PySem.W.Frag) : R2 := fun x y H Q => match x, y with
  | .int i, .int j => Q (.int (i + j)) H
  | .str a, .str b => a.length + b.length ≤ sizeLine ∧ Q (.str (a ++ b)) H
  | .ref a, .ref b => rCat (.ref a) (.ref b) H Q ∨ rCatA K (.ref a) (.ref b) H Q
  | _, _ => False
def rSub : R2 := fun x y H Q => match x, y with
  | .int i, .int j => Q (.int (i - j)) H
  | _, _ => False
def rMul (K : PySem.W.Frag) : R2 := fun x y H Q => match x, y with
  | .int i, .int j => (CMul i j ∨ CMulW i j) ∧ Q (.int (i * j)) H
  | .str a, .int k => MulOk a k ∧ Q (.str (Txt.mul a k)) H
  | .ref a, .int k => rRep (.ref a) (.int k) H Q ∨ rRepT K (.ref a) (.int k) H Q
  | _, _ => False
def rDiv : R2 := fun x y H Q => match x, y with
  | .int i, .int j => (CDiv i j ∨ CDivW i j) ∧ Q (.int (i / j)) H
  | _, _ => False
def rMod : R2 := fun x y H Q => match x, y with
  | .int i, .int j => 0 < j ∧ Q (.int (i % j)) H
  | _, _ => False
def rPow : R2 := fun x y H Q => match x, y with
  | .int i, .int j => CPow i j ∧ Q (.int (i ^ j.toNat)) H
  | _, _ => False
def rShl : R2 := fun x y H Q => match x, y with
  | .int i, .int j => CPow i j ∧ Q (.int (i * 2 ^ j.toNat)) H
  | _, _ => False
def rShr : R2 := fun x y H Q => match x, y with
  | .int i, .int j => 0 ≤ j ∧ Q (.int (i / 2 ^ j.toNat)) H
  | _, _ => False
def rNone : R2 := fun _ _ _ _ => False
def rBin (K : PySem.W.Frag) : Operator → R2
  | .Add => rAdd K
  | .Sub => rSub
  | .Mult => rMul K
  | .FloorDiv => rDiv
  | .Mod => rMod
  | .Pow => rPow
  | .LShift => rShl
  | .RShift => rShr
  | _ => rNone
section
variable {X : Cx}
theorem ok_none {f : Value → Value → Sem Value} : OpR X f rNone := fun _ _ _ _ _ _ _ _ _ _ _ _ h => h.elim
theorem ok_add : OpR X (binaryOp .Add) (rAdd X.K) := by
  intro pins s σ H x y v u Q I rx ry h
  cases x <;> cases y <;> first
    | exact False.elim h
    | exact op_add pins s σ H _ _ v u Q I rx ry ⟨_, _, rfl, rfl, h⟩
    | exact op_add_str pins s σ H _ _ v u Q I rx ry ⟨_, _, rfl, rfl, h.1, h.2⟩
    | exact h.elim (fun h => op_cat pins s σ H _ _ v u Q I rx ry h) (fun h => op_catA pins s σ H _ _ v u Q I rx ry h)
theorem ok_sub : OpR X (binaryOp .Sub) rSub := by
  intro pins s σ H x y v u Q I rx ry h
  cases x <;> cases y <;> first
    | exact False.elim h
    | exact op_sub pins s σ H _ _ v u Q I rx ry ⟨_, _, rfl, rfl, h⟩
theorem ok_mul : OpR X (binaryOp .Mult) (rMul X.K) := by
  intro pins s σ H x y v u Q I rx ry h
  cases x <;> cases y <;> first
    | exact False.elim h
    | exact h.1.elim (fun c => op_mul pins s σ H _ _ v u Q I rx ry ⟨_, _, rfl, rfl, c, h.2⟩) (fun c => op_mulW pins s σ H _ _ v u Q I rx ry ⟨_, _, rfl, rfl, c, h.2⟩)
    | exact h.elim (fun h => op_rep pins s σ H _ _ v u Q I rx ry h) (fun h => op_repT pins s σ H _ _ v u Q I rx ry h)
    | (obtain ⟨t, rfl⟩ := rx
       obtain ⟨t', rfl⟩ := ry
       exact SB.mul h.1 fun t2 k => ⟨.str _, H, I.tok k, ⟨t2, rfl⟩, h.2⟩)
theorem ok_div : OpR X (binaryOp .FloorDiv) rDiv := by
  intro pins s σ H x y v u Q I rx ry h
  cases x <;> cases y <;> first
    | exact False.elim h
    | exact h.1.elim (fun c => op_fdiv pins s σ H _ _ v u Q I rx ry ⟨_, _, rfl, rfl, c, h.2⟩) (fun c => op_fdivW pins s σ H _ _ v u Q I rx ry ⟨_, _, rfl, rfl, c, h.2⟩)
theorem ok_mod : OpR X (binaryOp .Mod) rMod := by
  intro pins s σ H x y v u Q I rx ry h
  cases x <;> cases y <;> first
    | exact False.elim h
    | exact op_mod pins s σ H _ _ v u Q I rx ry ⟨_, _, rfl, rfl, h.1, h.2⟩
theorem ok_pow : OpR X (binaryOp .Pow) rPow := by
  intro pins s σ H x y v u Q I rx ry h
  cases x <;> cases y <;> first
    | exact False.elim h
    | exact op_pow pins s σ H _ _ v u Q I rx ry ⟨_, _, rfl, rfl, h.1, h.2⟩
theorem ok_shl : OpR X (binaryOp .LShift) rShl := by
  intro pins s σ H x y v u Q I rx ry h
  cases x <;> cases y <;> first
    | exact False.elim h
    | exact op_shl pins s σ H _ _ v u Q I rx ry ⟨_, _, rfl, rfl, h.1, h.2⟩
theorem ok_shr : OpR X (binaryOp .RShift) rShr := by
  intro pins s σ H x y v u Q I rx ry h
  cases x <;> cases y <;> first
    | exact False.elim h
    | exact op_shr pins s σ H _ _ v u Q I rx ry ⟨_, _, rfl, rfl, h.1, h.2⟩
theorem ok_bin (op : Operator) : OpR X (binaryOp op) (rBin X.K op) := by
  cases op <;> first
    | exact ok_add
    | exact ok_sub
    | exact ok_mul
    | exact ok_div
    | exact ok_mod
    | exact ok_pow
    | exact ok_shl
    | exact ok_shr
    | exact ok_none
end
/-- name op= e -/
def rAug (K : PySem.W.Frag) : Operator → TIp := fun op x y H Q => match op with
  | .Add => (match x, y with
    | .int i, .int j => Q (.int (i + j)) H
    | .str a, .str b => a.length + b.length ≤ sizeLine ∧ Q (.str (a ++ b)) H
    | _, _ => False)
  | .Sub => (match x, y with
    | .int i, .int j => Q (.int (i - j)) H
    | _, _ => False)
  | .Mult => (match x, y with
    | .int i, .int j => CMul i j ∧ Q (.int (i * j)) H
    | _, _ => False)
  | .FloorDiv => (match x, y with
    | .int i, .int j => CDiv i j ∧ Q (.int (i / j)) H
    | _, _ => False)
  | _ => False
theorem ok_aug {X : Cx} (op : Operator) : PIp X op (rAug X.K op) := by
  intro pins s σ H x y v u Q I rx ry h
  cases op <;> cases x <;> cases y <;> first
    | exact False.elim h
    | exact iop_add pins s σ H _ _ v u Q I rx ry ⟨_, _, rfl, rfl, h⟩
    | exact iop_add_str pins s σ H _ _ v u Q I rx ry ⟨_, _, rfl, rfl, h.1, h.2⟩
    | exact iop_sub pins s σ H _ _ v u Q I rx ry ⟨_, _, rfl, rfl, h⟩
    | exact iop_mul pins s σ H _ _ v u Q I rx ry ⟨_, _, rfl, rfl, h.1, h.2⟩
    | exact iop_fdiv pins s σ H _ _ v u Q I rx ry ⟨_, _, rfl, rfl, h.1, h.2⟩

/-! ## comparisons -/
def isV : V → V → Option Bool
  | .non, .non => some true
  | .bl a, .bl b => some (decide (a = b))
  | .non, _ => some false
  | .bl _, .non => some false
  | .int _, .non => some false
  | .str _, .non => some false
  | .ref _, .non => some false
  | _, _ => none
def rEqv (K : PySem.W.Frag) (neg : Bool) : R2 := fun x y H Q =>
  (scal x y = true ∧ Q (.bl (if neg then !decide (x = y) else decide (x = y))) H) ∨ (if neg then rNeD K x y H Q else rEqD K x y H Q)
def rOrd (K : PySem.W.Frag) (f : Int → Int → Bool) : R2 := fun x y H Q => match x, y with
  | .int i, .int j => Q (.bl (f i j)) H
  | _, _ => False
def rIsN (neg : Bool) : R2 := fun x y H Q => match x, y with
  | .bl a, .bl b => Q (.bl (if neg then !decide (a = b) else decide (a = b))) H
  | x, .non => Q (.bl (if neg then !decide (x = .non) else decide (x = .non))) H
  | _, _ => False
def rMem (K : PySem.W.Frag) (neg : Bool) : R2 := fun x y H Q => match y with
  | .ref d => rIn K neg x (.ref d) H Q ∨ ∃ o, DGet H d x o ∧ Q (.bl (if neg then !o.isSome else o.isSome)) H
  | _ => False
def rCmp (K : PySem.W.Frag) : CmpOp → R2
  | .Eq => rEqv K false
  | .NotEq => rEqv K true
  | .Lt => rOrd K fun i j => decide (i < j)
  | .LtE => rOrd K fun i j => decide (i ≤ j)
  | .Gt => rOrd K fun i j => decide (j < i)
  | .GtE => rOrd K fun i j => decide (j ≤ i)
  | .Is => rIsN false
  | .IsNot => rIsN true
  | .In => rMem K false
  | .NotIn => rMem K true
section
variable {X : Cx}
theorem ok_cmp (hu : X.A.units + 64 < cLine) (op : CmpOp) : OpR X (compareOp op) (rCmp X.K op) := by
  intro pins s σ H x y v u Q I rx ry h
  have hu1 : X.A.units + 1 < cLine := by omega
  cases op with
  | Eq => exact h.elim (fun h => op_eq pins s σ H x y v u Q I rx ry h) (fun h => op_eqD hu pins s σ H x y v u Q I rx ry h)
  | NotEq => exact h.elim (fun h => op_ne pins s σ H x y v u Q I rx ry h) (fun h => op_neD hu pins s σ H x y v u Q I rx ry h)
  | Lt => cases x <;> cases y <;> first
    | exact False.elim h
    | exact op_lt pins s σ H _ _ v u Q I rx ry ⟨_, _, rfl, rfl, h⟩
  | LtE => cases x <;> cases y <;> first
    | exact False.elim h
    | exact op_le pins s σ H _ _ v u Q I rx ry ⟨_, _, rfl, rfl, h⟩
  | Gt => cases x <;> cases y <;> first
    | exact False.elim h
    | exact op_gt pins s σ H _ _ v u Q I rx ry ⟨_, _, rfl, rfl, h⟩
  | GtE => cases x <;> cases y <;> first
    | exact False.elim h
    | exact op_ge pins s σ H _ _ v u Q I rx ry ⟨_, _, rfl, rfl, h⟩
  | Is => cases x <;> cases y <;> first
    | exact False.elim h
    | exact op_isBl pins s σ H _ _ v u Q I rx ry ⟨_, _, rfl, rfl, h⟩
    | exact op_isN pins s σ H _ _ v u Q I rx ry ⟨rfl, h⟩
  | IsNot => cases x <;> cases y <;> first
    | exact False.elim h
    | exact op_notBl pins s σ H _ _ v u Q I rx ry ⟨_, _, rfl, rfl, h⟩
    | exact op_notN pins s σ H _ _ v u Q I rx ry ⟨rfl, h⟩
  | In => cases y with
    | ref d =>
      rcases h with h | ⟨o, g, h⟩
      · exact op_in_seq pins s σ H _ _ v u Q I rx ry h
      · obtain rfl : u = Value.ref d := ry
        exact d_in hu1 I g rx fun s3 I3 => ⟨.bl o.isSome, H, I3, rfl, h⟩
    | _ => exact False.elim h
  | NotIn => cases y with
    | ref d =>
      rcases h with h | ⟨o, g, h⟩
      · exact op_notIn_seq pins s σ H _ _ v u Q I rx ry h
      · obtain rfl : u = Value.ref d := ry
        exact d_notIn hu1 I g rx fun s3 I3 => ⟨.bl (!o.isSome), H, I3, rfl, h⟩
    | _ => exact False.elim h
end
/-! ## a subscript: sequences, texts, dicts -/
def rSub2 (K : PySem.W.Frag) : R2 := fun x y H Q => rIx K x y H Q ∨ ∃ a v, x = .ref a ∧ DGet H a y (some v) ∧ Q v H
theorem ok_dget {X : Cx} (hu : X.A.units + 1 < cLine) : IxR X (fun x y H Q => ∃ a v, x = .ref a ∧ DGet H a y (some v) ∧ Q v H) := by
  intro value slice pins s σ H x y v u Q I rx ry h hs
  obtain ⟨a, z, rfl, g, q⟩ := h
  obtain rfl : v = Value.ref a := rx
  exact tail_any (dict_typeIs I g) PySem.F.slot_dict_getitem.lookup (d_getItem hu I g ry fun w' s3 I3 rw' => ⟨z, H, I3, rw', q⟩) hs
theorem ok_sub2 {X : Cx} (hu : X.A.units + 1 < cLine) : IxR X (rSub2 X.K) := ix_seq.or (ok_dget hu)
end G

set_option Elab.async false
set_option linter.all false
set_option maxRecDepth 100000
set_option maxHeartbeats 4000000
namespace G
open PySem PySem.Spec PyProof.Rows L2 LamX

/-! ## callables -/
structure RoomG (k : Nat) (A : Around) : Prop where
  r : Room k A
  g : A.guards = some []
theorem RoomG.mono {j k : Nat} {A : Around} (h : RoomG k A) (l : j ≤ k) : RoomG j A := ⟨h.r.mono l, h.g⟩
theorem RoomG.deeper {k : Nat} {A : Around} (h : RoomG (k + 1) A) (env : Env) : RoomG k (A.deeper env) := ⟨h.r.deeper env, h.g⟩
/-- what a thunk's call wants -/
abbrev TL := XK → Hp → VK → Prop
abbrev Acts := Addr → TL → Prop
abbrev noActs : L2.St → Hp → Addr → TL → Prop := fun _ _ _ _ => False
abbrev SpG := Acts → List V → List V → Hp → VK → XK → Prop
/-- the room of a thunk -/
def lamRoom : Nat := 42
section
variable (P : Program) (w : World) (K : PySem.W.Frag) (mg : Str → Option Value) (base : Heap)
/-- the thunk at f, known at the heap h: whoever calls it later -/
def Act (h : Heap) (H : Hp) (stk : List Env) (f : Addr) (tl : TL) : Prop :=
  ∀ (A : Around) (outer : List Env) (s' : Shared) (H' : Hp), Env0 P w K mg base A outer s' H' → Un (frs stk) [] H H' h s'.heap →
    PySem.W.FnAt f s'.heap ∧ ∀ (Q : VK) (E : XK), RoomG lamRoom A → tl E H' Q → codeAny (model P w) A (.call (.ref f) ⟨[], []⟩) (CR (L2.CX P w) outer P w H' s' Q E) s'
/-- what is at f, called with n values and the keywords ks -/
def FnS (k : Nat) (f : Addr) (n : Nat) (ks : List Str) (S : SpG) : Prop :=
  ∀ (A : Around) (outer : List Env) (s : Shared) (H : Hp) (us ws : List Value) (vs zs : List V) (Q : VK) (E : XK) (acts : Acts),
    RoomG k A → Env0 P w K mg base A outer s H → Vals vs us → Vals zs ws → vs.length = n → zs.length = ks.length →
    (∀ g tl, acts g tl → Act P w K mg base s.heap H outer g tl) → S acts vs zs H Q E →
    codeAny (model P w) A (.call (.ref f) ⟨us, ks.zip ws⟩) (CR (L2.CX P w) outer P w H s Q E) s
end
theorem Act.later {P : Program} {w : World} {K : PySem.W.Frag} {mg : Str → Option Value} {base h h1 : Heap} {H H1 : Hp} {l l1 : List Env} {f : Addr} {tl : TL} (a : Act P w K mg base h H l f tl) (u : Un (frs l) [] H H1 h h1)
    (hs : ∀ b ∈ frs l, b ∈ frs l1) (hn : ∀ b ∈ frs l1, b ∉ frs l → h.get? b = none) : Act P w K mg base h1 H1 l1 f tl := by
  intro A outer s' H' e0 u2
  refine a A outer s' H' e0 ?_
  refine ⟨fun b o q n hb hx => ?_, fun b o q n hb hx => ?_, fun b o q n hx => ?_, fun b o q hx => ?_, fun b xs q => u2.tups b xs (u.tups b xs q), fun b o x q => u2.frzs b o x (u.frzs b o x q), fun b ps q => ?_⟩
  · have q1 := u.keep b o q n hb hx
    have n1 := u.free b o q n hx
    refine u2.keep b o q1 n1 (fun z => ?_) hx
    have z2 := hn b z hb
    rw [q] at z2
    cases z2
  · obtain ⟨sl, q1⟩ := u.slot b o q n hb hx
    have n1 := u.free b o q n hx
    obtain ⟨sl2, q2⟩ := u2.slot b _ q1 n1 (hs b hb) hx
    exact ⟨sl2, q2⟩
  · obtain ⟨o1, q1⟩ := u.there b o q hx
    exact u2.free b o1 q1 (u.free b o q n hx) hx
  · obtain ⟨o1, q1⟩ := u.there b o q hx
    exact u2.there b o1 q1 hx
  · obtain ⟨m1, e1⟩ := u.tbls b ps q
    obtain ⟨m2, e2⟩ := u2.tbls b _ e1
    exact ⟨m1 ++ m2, by rw [e2, Array.append_assoc]⟩

/-! ## what stands around a frame's code -/
structure Gam where
  N : List Str
  fn : Str → Nat → List Str → Option (Nat × SpG)
  gv : Str → Option V
  exc : Str → Option Addr
  free : Str → Bool
  act : Acts
  qual : Str
  cells : List (Str × Addr)
  T : List (Addr × Str)
  P : Option Addr
/-- in a block: no thunks -/
def Gam.blk (Γ : Gam) : Gam := { Γ with act := fun _ _ => False, P := none }
/-- in a thunk: the low functions alone -/
def Gam.low (Γ : Gam) : Gam := { Γ with act := fun _ _ => False, P := none, fn := fun x n ks => match Γ.fn x n ks with
  | some p => if p.1 ≤ 40 then some p else none
  | none => none }
structure Good (k : Nat) (Γ : Gam) (sc : Scope) (W : WX) (X : Cx) : Prop where
  calm : X.calm = true
  sc : X.env.scope = sc
  N : X.N = Γ.N
  nd : Γ.N.Nodup
  room : RoomG k X.A
  fn : ∀ x n ks p, Γ.fn x n ks = some p → p.1 ≤ k ∧ ∃ f, X.mg x = some (.ref f) ∧ PySem.W.keepIn X.K (.ref f) = true ∧ FnS X.prog X.w X.K X.mg X.base p.1 f n ks p.2
  gv : ∀ x v, Γ.gv x = some v → ∃ u, X.mg x = some u ∧ RelV v u
  free : ∀ x, Γ.free x = true → X.mg x = none
  exc : ∀ x C, Γ.exc x = some C → X.mg x = some (.ref C) ∧ PySem.W.excIn X.K C He.veBase "ValueError.__new__" = true ∧ PySem.W.keepIn X.K (.ref C) = true ∧
    PySem.W.subIn X.K (.ref C) (.type "BaseException") = some true ∧ PySem.W.typeIn X.K (.ref C) = some (.type "type")
  act : ∀ f tl, Γ.act f tl → Act X.prog X.w X.K X.mg X.base X.s_0.heap X.H_0 X.outer f tl
  aex : (∃ f tl, Γ.act f tl) → X.ex = [] ∧ X.stack = X.env :: X.outer ∧ X.env.frame = some X.env.locals
  aek : (∃ f tl, Γ.act f tl) → lamRoom ≤ k
  pass : PassesOwn (model X.prog X.w) X.A X.env X.xe
  takes : Takes X W
  lam : ∀ p, Γ.P = some p → ∃ c, TabB X.base X.mg c p ∧ X.env.code = .ref c ∧ (p, Γ.qual ++ "<lambda>") ∈ Γ.T ∧ (∀ q ∈ Γ.T, q.1 = p → q.2 = Γ.qual ++ "<lambda>") ∧ X.env.cells = Γ.cells ∧ X.env.qual = Γ.qual
theorem Good.units {k : Nat} {Γ : Gam} {sc : Scope} {W : WX} {X : Cx} (g : Good k Γ sc W X) : X.A.units + 64 < cLine := g.room.r.units

/-! ## names -/
def vis (sc : Scope) (x : Str) : Bool := match sc.names.lookup x with
  | some .local => true
  | some .cell => true
  | some .free => true
  | _ => false
def loc (sc : Scope) (x : Str) : Bool := match sc.names.lookup x with
  | some .local => true
  | some .cell => true
  | _ => false
def glb (sc : Scope) (x : Str) : Bool := match sc.names.lookup x with
  | some .globalImplicit => true
  | _ => false
theorem vis_ok {sc : Scope} {x : Str} (h : vis sc x = true) : Vis sc x := by
  unfold vis at h
  split at h <;> first
    | exact .inl (by assumption)
    | exact .inr (.inl (by assumption))
    | exact .inr (.inr (by assumption))
    | cases h
theorem loc_ok {sc : Scope} {x : Str} (h : loc sc x = true) : Loc sc x := by
  unfold loc at h
  split at h <;> first
    | exact .inl (by assumption)
    | exact .inr (by assumption)
    | cases h
theorem glb_ok {sc : Scope} {x : Str} (h : glb sc x = true) : sc.names.lookup x = some .globalImplicit := by
  unfold glb at h
  split at h <;> first
    | assumption
    | cases h
def slot (N : List Str) (x : Str) : Option Nat := N.findIdx? (· == x)
theorem slot_ok {N : List Str} {x : Str} {i : Nat} (h : slot N x = some i) : N[i]? = some x := by
  unfold slot at h
  obtain ⟨h1, h2, _⟩ := List.findIdx?_eq_some_iff_getElem.mp h
  rw [List.getElem?_eq_getElem h1]
  exact congrArg some (beq_iff_eq.mp h2)
def oddName (x : Str) : Bool := x == ("__debug__" : Str) || x == ("__classdict__" : Str) || x == ("__name__" : Str)
theorem oddName_no {x : Str} (h : oddName x = false) : (x == ("__debug__" : Str)) = false ∧ (x == ("__classdict__" : Str)) = false ∧ x ≠ "__name__" := by
  unfold oddName at h
  rw [Bool.or_eq_false_iff, Bool.or_eq_false_iff] at h
  exact ⟨h.1.1, h.1.2, fun e => by
    subst e
    have := h.2
    simp at this⟩
def tNo : TE := fun _ _ _ => False
def tNoS : TS := fun _ _ _ => False
theorem pe_no {X : Cx} {e : Expr} : PE X e tNo := ⟨fun _ _ _ _ _ _ h => h.elim⟩
theorem ps_no {X : Cx} {e : Stmt} : PS X e tNoS := ⟨fun _ _ _ _ _ _ h => h.elim⟩
def noStar (es : List Expr) : Bool := es.all fun e => match e with
  | .Starred .. => false
  | _ => true
theorem star_one {e : Expr} {es : List Expr} {env : Env} (h : noStar (e :: es) = true) : starEach (e :: es) env = (false, eval e env) :: starEach es env := by
  unfold noStar at h
  rw [List.all_cons] at h
  cases e <;> first
    | rfl
    | cases (Bool.and_eq_true_iff.mp h).1
theorem star_tail {e : Expr} {es : List Expr} (h : noStar (e :: es) = true) : noStar es = true := by
  unfold noStar at h ⊢
  rw [List.all_cons] at h
  exact (Bool.and_eq_true_iff.mp h).2
theorem star_any {pos : Pos} {env : Env} : ∀ {es : List Expr}, noStar es = true → (backTo pos (starEach es env)).any (·.1) = false
  | [], _ => rfl
  | e :: es, h => by
    have ih := star_any (pos := pos) (env := env) (star_tail h)
    rw [star_one h]
    show (false || (backTo pos (starEach es env)).any (·.1)) = false
    rw [ih]
    rfl
theorem star_all {pos : Pos} {env : Env} : ∀ {es : List Expr}, noStar es = true → (backTo pos (starEach es env)).all (fun x => !x.1) = true
  | [], _ => rfl
  | e :: es, h => by
    have ih := star_all (pos := pos) (env := env) (star_tail h)
    rw [star_one h]
    show (true && (backTo pos (starEach es env)).all (fun x => !x.1)) = true
    rw [ih]
    rfl
def kwNames (kws : List Keyword) : List Str := kws.filterMap (·.arg)
def kwAll (kws : List Keyword) : Bool := kws.all (·.arg.isSome)
theorem kw_all {pos : Pos} {env : Env} : ∀ {kws : List Keyword}, kwAll kws = true → (backToKw pos (keywordEach kws env)).all (·.1.isSome) = true ∧ (backToKw pos (keywordEach kws env)).any (·.1.isNone) = false ∧
    (backToKw pos (keywordEach kws env)).filterMap (·.1) = kwNames kws
  | [], _ => ⟨rfl, rfl, rfl⟩
  | ⟨none, v, p⟩ :: kws, h => by
    unfold kwAll at h
    rw [List.all_cons] at h
    cases (Bool.and_eq_true_iff.mp h).1
  | ⟨some n, v, p⟩ :: kws, h => by
    unfold kwAll at h
    rw [List.all_cons] at h
    obtain ⟨a, b, c⟩ := kw_all (pos := pos) (env := env) (kws := kws) (Bool.and_eq_true_iff.mp h).2
    refine ⟨?_, ?_, ?_⟩
    · show (true && (backToKw pos (keywordEach kws env)).all (·.1.isSome)) = true
      rw [a]
      rfl
    · show (false || (backToKw pos (keywordEach kws env)).any (·.1.isNone)) = false
      rw [b]
      rfl
    · show n :: (backToKw pos (keywordEach kws env)).filterMap (·.1) = n :: kwNames kws
      rw [c]
/-- a receiver that super() cannot be -/
def notBare (e : Expr) : Bool := match e with
  | .Call (.Name _ _) [] [] _ => false
  | _ => true
theorem base_ok {e : Expr} {m : Str} {env : Env} (h : notBare e = true) : attributeBase e m env (eval e env) = eval e env := by
  cases e with
  | Call f args kws pos =>
    cases f with
    | Name id p =>
      cases args with
      | nil =>
        cases kws with
        | nil => cases h
        | cons a b => rfl
      | cons a b => rfl
    | _ => rfl
  | _ => rfl
end G

set_option Elab.async false
set_option linter.all false
set_option maxRecDepth 100000
set_option maxHeartbeats 4000000
namespace G
open PySem PySem.Spec PyProof.Rows L2 LamX
/-! ## calls of the module's own callables -/
def tFn (S : SpG) (acts : L2.St → Hp → Acts) (W : WX) (t tk : TA) (n m : Nat) : TE := fun σ H Q =>
  t σ H fun vs H1 => tk σ H1 fun zs H2 => vs.length = n ∧ zs.length = m ∧ S (acts σ H2) vs zs H2 Q (WE W σ)
section
variable {k : Nat} {Γ : Gam} {sc : Scope} {W : WX} {X : Cx}
theorem run_s {l : Nat} {f : Addr} {n : Nat} {ks : List Str} {S : SpG} {acts : Acts} {pins : List (Addr × Obj)} {σ : L2.St} {H : Hp} {s : Shared} {Q : VK} {us ws : List Value} {vs zs : List V}
    (g : Good k Γ sc W X) (F : FnS X.prog X.w X.K X.mg X.base l f n ks S) (hl : l ≤ k) (I : Inv X pins σ H s) (r : Vals vs us) (rz : Vals zs ws) (l1 : vs.length = n) (l2 : zs.length = ks.length)
    (ha : ∀ g tl, acts g tl → Act X.prog X.w X.K X.mg X.base s.heap H X.stack g tl) (h : S acts vs zs H Q (WE W σ)) :
    wpAny (model X.prog X.w) X.A (call (.ref f) us (ks.zip ws)) (EP X pins σ Q) X.xe s := by
  have run := F X.A X.stack s H us ws vs zs Q (WE W σ) acts (g.room.mono hl) I.env0 r rz l1 l2 ha h
  refine wpAny_call (codeAny_mono run fun res s' hq => ?_)
  cases res with
  | error e => exact passAt g.takes σ pins H s e s' I hq
  | ok fl =>
    cases fl with
    | ret u => exact I.after hq
    | next => exact False.elim hq
    | brk => exact False.elim hq
    | cont => exact False.elim hq
theorem gl_of (g : Good k Γ sc W X) {x : Str} (h : glb sc x = true) : Gl X x := by
  show X.env.scope.names.lookup x = some .globalImplicit
  rw [g.sc]
  exact glb_ok h
theorem pe_fn (g : Good k Γ sc W X) {x : Str} {p pos : Pos} {es : List Expr} {kws : List Keyword} {S : SpG} {l : Nat} {acts : L2.St → Hp → Acts} {t tk : TA} (hx : oddName x = false) (hg : glb sc x = true)
    (hf : Γ.fn x es.length (kwNames kws) = some (l, S)) (hs : noStar es = true) (hk : kwAll kws = true) (ha : PA X es t) (ht : es = [] → t = tNil) (hkw : PK X kws tk)
    (hact : ∀ (pins : List (Addr × Obj)) (σ : L2.St) (H : Hp) (s : Shared), Inv X pins σ H s → ∀ f tl, acts σ H f tl → Act X.prog X.w X.K X.mg X.base s.heap H X.stack f tl) :
    PE X (.Call (.Name x p) es kws pos) (tFn S acts W t tk es.length (kwNames kws).length) := by
  obtain ⟨hl, f, hm, hkeep, F⟩ := g.fn _ _ _ _ hf
  obtain ⟨o1, o2, o3⟩ := oddName_no hx
  refine ⟨fun pins s σ H Q I h => ?_⟩
  refine wpAny_Call_Name_kw (ld_glob I (gl_of g hg) hm ?_ o1)
  obtain ⟨k1, k2, k3⟩ := kw_all (pos := pos) (env := X.env) hk
  have args := ha.run pos pins s σ H _ I h
  have hpl : ((backTo pos (starEach es X.env)).any (·.1) || (backToKw pos (keywordEach kws X.env)).any (·.1.isNone)) = false := by
    rw [star_any hs, k2]
    rfl
  cases es with
  | nil =>
    have et := ht rfl
    subst et
    refine PySem.W.callWith_KW0 (h₀ := X.base) I.ok.mod.kin hkeep k1 ?_ hpl
    refine thn (hkw.run pos pins s σ H _ I h) fun ws s2 ⟨zs, H2, I2, rz, l1, l2, q2⟩ => ⟨I2.kIn, ?_⟩
    rw [k3]
    exact run_s g F hl I2 .nil rz l1 l2 (hact pins σ H2 s2 I2) q2
  | cons e es =>
    refine PySem.W.callWith_KW (h₀ := X.base) I.ok.mod.kin hkeep k1 (thn args fun us s1 ⟨vs, H1, I1, r, q⟩ => ?_) hpl (star_one hs)
    refine thn (hkw.run pos pins s1 σ H1 _ I1 q) fun ws s2 ⟨zs, H2, I2, rz, l1, l2, q2⟩ => ⟨I2.kIn, ?_⟩
    rw [k3]
    exact run_s g F hl I2 r rz l1 l2 (hact pins σ H2 s2 I2) q2
/-! ### thunks: called by a name that got one -/
def tThunk (i : Nat) (acts : Acts) (W : WX) : TE := fun σ H Q => ∃ f tl, σ[i]? = some (some (.ref f)) ∧ acts f tl ∧ tl (WE W σ) H Q
theorem pe_thunk (g : Good k Γ sc W X) {x : Str} {i : Nat} {p pos : Pos} (hx : oddName x = false) (hv : vis sc x = true) (hi : slot Γ.N x = some i) (hk : lamRoom ≤ k) :
    PE X (.Call (.Name x p) [] [] pos) (tThunk i Γ.act W) := by
  obtain ⟨o1, o2, o3⟩ := oddName_no hx
  have hN : X.N[i]? = some x := by
    rw [g.N]
    exact slot_ok hi
  have hV : Vis X.env.scope x := by
    rw [g.sc]
    exact vis_ok hv
  refine ⟨fun pins s σ H Q I h => ?_⟩
  obtain ⟨f, tl, e1, ac, ht⟩ := h
  obtain ⟨a1, a2, a3⟩ := g.aex ⟨f, tl, ac⟩
  have A1 := g.act f tl ac
  refine wpAny_Call_Name_kw (thn ((pe_var (X := X) (pos := p) (i := i) hN hV o1 o2).run pins s σ H (fun v H1 => v = .ref f ∧ H1 = H) I ⟨.ref f, e1, rfl, rfl⟩) fun u s1 hh => ?_)
  obtain ⟨v, H1, I1, r1, ev, eH⟩ := hh
  subst ev
  rw [eH] at I1
  obtain rfl : u = Value.ref f := r1
  have ub : Un (frs X.outer) [] X.H_0 H X.s_0.heap s1.heap := by
    have b := I1.base
    rw [a1] at b
    exact b
  obtain ⟨fa, run⟩ := A1 X.A X.stack s1 H I1.env0 ub
  refine PySem.W.callWith_F0 fa ?_
  refine wpAny_call (codeAny_mono (run Q (WE W σ) (g.room.mono hk) ht) fun res s' hq => ?_)
  cases res with
  | error e => exact passAt g.takes σ pins H s1 e s' I1 hq
  | ok fl =>
    cases fl with
    | ret u => exact I1.after hq
    | next => exact False.elim hq
    | brk => exact False.elim hq
    | cont => exact False.elim hq

/-! ### thunks: made -/
abbrev noArgs : Arguments := ⟨[], [], none, [], [], none, []⟩
def LamObj (qual : Str) (cells : List (Str × Addr)) (o : Obj) (body : Expr) (scope : Scope) (c' : Addr) : Prop :=
  ∃ pm ctv : Value, o = PySem.W.kla_obj "<lambda>" (qual ++ "<lambda>") noArgs body scope (cloFrom cells scope.names []) pm c' ctv
abbrev frzO (o : Obj) : HO := .frz o (.ext fun _ => True)
def tLamV (qual : Str) (cells : List (Str × Addr)) (T : List (Addr × Str)) (body : Expr) (scope : Scope) : TE := fun _ H Q => Tabs T H ∧
  ∀ (f c' : Addr) (o : Obj) (H1 : Hp), ExtN H H1 → Tabs T H1 → H1 f = none → LamObj qual cells o body scope c' → H1 c' = some (CodeO c' (qual ++ "<lambda>")) → Q (.ref f) (upd H1 f (frzO o))
theorem frz_new {P : Program} {w : World} {H : Hp} {h : Heap} {o : Obj} (nf : o.isFreed = false := by rfl) : ObjOk P w H (h.push o) h.objs.size (frzO o) :=
  ⟨Heap.get?_push_size _ nf, ⟨trivial, ⟨_, Heap.get?_push_size _ nf⟩, fun _ _ _ _ => trivial⟩⟩
theorem pe_lamV (g : Good k Γ sc W X) {body : Expr} {scope : Scope} {pos : Pos} {p : Addr} (hP : Γ.P = some p) (L : lamSB sc scope = true) :
    PE X (.Lambda noArgs body scope pos) (tLamV Γ.qual Γ.cells Γ.T body scope) := by
  obtain ⟨c, TB, hcode, hmT, hu, hcl, hq⟩ := g.lam p hP
  have LS : LamS X.env.scope scope := by
    rw [g.sc]
    exact lamS_by L
  refine ⟨fun pins s σ H Q I h => ?_⟩
  obtain ⟨hT, fin⟩ := h
  rw [← hq] at hmT hu fin
  rw [← hcl] at fin
  obtain ⟨ps, hPs, htr, hall⟩ := hT _ hmT
  have hfree := LS.has I.ok
  refine PySem.W.kla_eval rfl ?_
  have bP := TB.bm.keeps I.bk
  have atP : s.heap.get? p = some { cls := .none, data := .fields ps } := I.hok p _ hPs
  cases hc : codeAmong pos ps.toList with
  | some cv =>
    obtain ⟨c', e, hco⟩ := hall pos cv hc
    subst e
    refine PySem.W.kla_makeFunctionHit (mg := X.mg) (c := c) (P := p) (ps := ps) (closure_ok hfree) I.ok.glob (I.mod.glob.keeps I.bk) hcode (TB.code.keeps I.bk) atP htr hc bP fun ctv h' tk hx hsz => ?_
    have J : Inv X pins σ H { s with heap := h', toks := tk } := I.kept fun b o e => hx b o e
    have nf : H h'.objs.size = none := J.hok.fresh (Nat.le_refl _)
    exact ⟨.ref h'.objs.size, _, J.laid (t' := tk) (fun b o e => Heap.get?_push_of_some _ e) (Nat.le_refl _) frz_new, rfl, fin _ c' _ H (ExtN.refl H) hT nf ⟨_, ctv, rfl⟩ hco⟩
  | none =>
    refine PySem.W.kla_makeFunction (mg := X.mg) (c := c) (P := p) (ps := ps) (closure_ok hfree) I.ok.glob (I.mod.glob.keeps I.bk) hcode (TB.code.keeps I.bk) atP htr hc TB.gP bP fun c' ctv h' tk hx hge hlt hrec htb => ?_
    obtain ⟨c2, oc, vs, t, e2, hoc, hd, hv⟩ := hrec
    cases e2
    have nC : H c' = none := I.hok.fresh hge
    have J := inv_table (t' := tk) (more := #[rawInt pos.line, rawInt pos.col, .ref c']) (h' := h') I hPs hx htb hge ⟨oc, vs, t, hoc, hd, hv⟩
    have hE : ExtN H (upd (upd H p (.tbl (ps ++ #[rawInt pos.line, rawInt pos.col, .ref c']))) c' (CodeO c' (X.env.qual ++ "<lambda>"))) := fun b o e n => by
      have nb : b ≠ p := fun z => by
        rw [z, hPs] at e
        exact n ps (Option.some.inj e).symm
      rw [upd_ne (ne_of_none e nC), upd_ne nb]
      exact e
    have eL : (ps ++ #[rawInt pos.line, rawInt pos.col, .ref c']).toList = ps.toList ++ [rawInt pos.line, rawInt pos.col, .ref c'] := by simp
    have nf := J.hok.fresh (Nat.le_refl h'.objs.size)
    refine ⟨.ref h'.objs.size, _, J.laid (t' := tk) (fun b o e => Heap.get?_push_of_some _ e) (Nat.le_refl _) frz_new, rfl, fin _ c' _ _ hE (fun q hq => ?_) nf ⟨_, ctv, rfl⟩ upd_same⟩
    by_cases hb : q.1 = p
    · rw [hu q hq hb, hb]
      refine ⟨_, by rw [upd_ne (ne_of_none hPs nC), upd_same], by rw [eL]; exact PySem.TriplesOk_snoc _ _ _ _ htr, fun p' cv hcv => ?_⟩
      rw [eL] at hcv
      rcases among_app _ htr hcv with z | z
      · obtain ⟨c0, e1, e2⟩ := hall p' cv z
        exact ⟨c0, e1, hE _ _ e2 codeO_ne⟩
      · exact ⟨c', z, upd_same⟩
    · obtain ⟨ps', a1, a2, a3⟩ := hT q hq
      refine ⟨ps', by rw [upd_ne (ne_of_none a1 nC), upd_ne hb]; exact a1, a2, fun p' cv hcv => ?_⟩
      obtain ⟨c0, e1, e2⟩ := a3 p' cv hcv
      exact ⟨c0, e1, hE _ _ e2 codeO_ne⟩
/-- a thunk of this very frame, as whoever gets it may call it -/
theorem lam_act {pins : List (Addr × Obj)} {σ : L2.St} {H : Hp} {s : Shared} {f c' : Addr} {o : Obj} {body : Expr} {scope : Scope} {tb : XK → TE} (I : Inv X pins σ H s) (L : LamS X.env.scope scope) (hf : H f = some (frzO o))
    (ho : LamObj X.env.qual X.env.cells o body scope c')
    (hbody : ∀ (A : Around) (outer : List Env) (s : Shared) (H : Hp) (E : XK), RoomG lamRoom A → PE (lamCx X A outer s H E scope f c') body (tb E)) :
    Act X.prog X.w X.K X.mg X.base s.heap H X.stack f (fun E H' Q' => H' c' = some (CodeO c' (X.env.qual ++ "<lambda>")) ∧ tb E σ H' Q') := by
  obtain ⟨pm, ctv, rfl⟩ := ho
  intro A outer s' H' e0 un
  have of1 : s'.heap.get? f = some _ := (e0.hok f _ (un.frzs f _ _ hf)).1
  refine ⟨⟨_, _, _, _, of1⟩, fun Q E hr ht => ?_⟩
  obtain ⟨hc, ht⟩ := ht
  obtain ⟨⟨oc, vs, t, hoc, hdc, hvc⟩, _, _⟩ := e0.hok c' _ hc
  have nl : s'.heap.NoLimit := e0.mod.nolimit.keeps fun b o e => (e0.bs b o e).1
  refine PySem.W.kla_callFunE hr.r.depth of1 rfl L.co L.gen rfl ⟨c', oc, vs, t, rfl, hoc, hdc, hvc⟩ ?_
  have hb : bindArgs (PySem.W.kla_fn "<lambda>" (X.env.qual ++ "<lambda>") noArgs body scope (cloFrom X.env.cells scope.names []) pm (.ref c') ctv) ⟨[], []⟩ = pure [] := rfl
  rw [hb]
  refine wpAny_pure (wpAny_newFunctionEnv (fun y hy => (L.own y hy).2) (fun y hy => absurd hy (by simp)) (fun h₁ hns hsb => ⟨nl.fresh _ hsb, ?_⟩) L.kind)
  show codeAny _ _ (.expr body (lamEnv X scope s'.heap.objs.size f c')) _ _
  have kp : ∀ b o, s'.heap.get? b = some o → h₁.get? b = some o := fun b o e =>
    hsb.extBut b o (Nat.ne_of_lt (Heap.lt_size e)) (Heap.get?_push_of_some _ e)
  have J := lam_start2 (E := E) (f := f) (c' := c') (tk := s'.toks + ([] : List (Str × Value)).length) I L e0 hr.r.hd un hns kp
  refine PySem.W.kla_codeExpr (wpAny_mono ((hbody A outer s' H' E hr).run [] _ _ H' Q J ht) (fun v s2 hq => ?_) fun e s2 hq => hq)
  obtain ⟨w', H2, J2, rv, q⟩ := hq
  exact ⟨w', H2, J2.os, J2.bare, J2.base, J2.hok, rv, q⟩
end
end G

set_option Elab.async false
set_option linter.all false
set_option maxRecDepth 100000
set_option maxHeartbeats 4000000
namespace G
open PySem PySem.Spec PyProof.Rows L2 LamX
/-! ## errors -/
/-- an error object, caught and kept -/
def ExT (cls : Value) (d : Option Addr) (a : Addr) : HO := .ext fun h => ∃ (oe : Obj) (vs : Array Value), h.get? a = some oe ∧ Zc cls d oe ∧ oe.data = .fields vs
theorem exT_ok {P : Program} {w : World} {H : Hp} {h : Heap} {a : Addr} {cls : Value} {d : Option Addr} {oe : Obj} {vs : Array Value} (e : h.get? a = some oe) (z : Zc cls d oe) (hd : oe.data = .fields vs) : ObjOk P w H h a (ExT cls d a) :=
  ⟨⟨oe, vs, e, z, hd⟩, ⟨oe, e⟩, fun _ _ ⟨o, v, q, r⟩ kp => ⟨o, v, kp o q, r⟩⟩
def tRaise0 (C : Addr) (W : WX) : TS := fun _ σ H => W (.ref C) none σ H
section
variable {k : Nat} {Γ : Gam} {sc : Scope} {W : WX} {X : Cx}
theorem ps_raise0 (g : Good k Γ sc W X) {x m : Str} {C : Addr} {j : Nat} {p p2 pos pos2 : Pos} (hx : oddName x = false) (hg : glb sc x = true) (he : Γ.exc x = some C) :
    PS X (.Raise (some (.Call (.Name x p) [.Constant (.str m) j p2] [] pos)) none pos2) (tRaise0 C W) := by
  obtain ⟨e1, e2, e3, e4, e5⟩ := g.exc x C he
  exact ps_raise g.calm g.takes (pmk_own PySem.F.excBase_ValueError e2 e1 e3 (raises_own e4 e5) (gl_of g hg) (oddName_no hx).1)
/-- what 'except x as n' wishes: the error is kept at a -/
def wKeep (K : PySem.W.Frag) (c : Value) (i : Nat) (ts : TS) (Wout : WX) (D : Ends) : WX := fun cls d σ H => ∃ b, PySem.W.exmOne K cls c = some b ∧
  (b = true → ∀ a, H a = none → ts ⟨fun σ' H' => D.nx (σ'.set i none) H', D.rt, fun σ' H' => D.bk (σ'.set i none) H', fun σ' H' => D.ct (σ'.set i none) H'⟩ (σ.set i (some (.ref a))) (upd H a (ExT cls d a))) ∧
  (b = false → Wout cls d σ H)
theorem suite_in {pins : List (Addr × Obj)} {σ : L2.St} {H : Hp} {s : Shared} (I : Inv X pins σ H s) (a : Addr) : Inv (X.suite a (X.pn ++ pins)) [] σ H s :=
  ⟨I.ok.suite _ _, I.os, I.bare, I.base, I.loc, I.cell, I.free, I.freeC, fun q hq => I.pin q (by simpa using hq), I.hok, I.len⟩
theorem suite_out {pins pn' : List (Addr × Obj)} {σ : L2.St} {H : Hp} {s : Shared} {a : Addr} (ok : X.Ok) (I : Inv (X.suite a (X.pn ++ pins)) pn' σ H s) : Inv X pins σ H s :=
  ⟨ok, I.os, I.bare, I.base, I.loc, I.cell, I.free, I.freeC, fun q hq => I.pin q (List.mem_append.mpr (.inl hq)), I.hok, I.len⟩
/-- the error that landed is tracked -/
theorem keep_err {pins : List (Addr × Obj)} {σ : L2.St} {H : Hp} {sI s' : Shared} {B : Heap} {a : Addr} {oe : Obj} {vs : Array Value} {cls : Value} {d : Option Addr} (I : Inv X pins σ H sI)
    (nb : ∀ b o, sI.heap.get? b = some o → b ∉ frs X.stack → B.get? b = some o) (st : B.StaysIn s'.heap) (up : sI.heap.UpToSlots s'.heap) (hos : s'.os = sI.os) (ag : AllBare s'.gens) (na : H a = none) (nB : B.get? a = none) (nst : a ∉ frs X.stack)
    (he : s'.heap.get? a = some oe) (hz : Zc cls d oe) (hd : oe.data = .fields vs) : Inv X pins σ (upd H a (ExT cls d a)) s' := by
  have J := I.landed nb st up hos ag
  have nI : ∀ b o, sI.heap.get? b = some o → b ≠ a := fun b o e z => by
    rw [z] at e
    have z2 := nb a o e nst
    rw [nB] at z2
    cases z2
  have sl : ∀ b ∈ frs X.stack, ∀ o, sI.heap.get? b = some o → ∃ q, s'.heap.get? b = some { o with slots := q } := fun b hb o e => by
    obtain ⟨_, o', e', hnf⟩ := I.stack.mem hb
    rw [e] at e'
    cases e'
    exact up b o e hnf
  have un : Un (frs X.stack) [] H (upd H a (ExT cls d a)) sI.heap s'.heap := by
    refine ⟨fun b o e _ hb _ => st b o (nb b o e hb), fun b o e _ hb _ => sl b hb o e, fun b o e n _ => ?_, fun b o e _ => ?_, fun b xs e => ?_, fun b o xs e => ?_, fun b ps e => ⟨#[], ?_⟩⟩
    · rw [upd_ne (nI b o e)]
      exact n
    · by_cases hb : b ∈ frs X.stack
      · obtain ⟨q, z⟩ := sl b hb o e
        exact ⟨_, z⟩
      · exact ⟨o, st b o (nb b o e hb)⟩
    · rw [upd_ne (ne_of_none e na)]
      exact e
    · rw [upd_ne (ne_of_none e na)]
      exact e
    · rw [upd_ne (ne_of_none e na), e]
      simp
  exact I.call' (ch := []) hos un (J.hok.laidN (fun _ _ q => q) na (exT_ok he hz hd)) ag (fun _ z => nomatch z)
theorem ps_tryK {x n : Str} {c : Value} {i : Nat} {body suite : List Stmt} {b₀ : Stmt} {np pos pos' : Pos} {tb : WX → TS} {ts : TS} {Wout : WX} (hs : X.stack = X.env :: X.outer) (hf : X.env.frame = some X.env.locals) (hN : X.N.Nodup)
    (hi : X.N[i]? = some n) (hln : X.env.kindOf n = some .local) (hc : Names X x c) (tk : Takes X Wout)
    (hb : ∀ (W : WX) (pn : List (Addr × Obj)) (xe : Value → Shared → Prop), Takes (X.tr pn xe) W → PassesOwn (model X.prog X.w) X.A X.env xe → PSs (X.tr pn xe) body (tb W))
    (hsu : ∀ (a : Addr) (pn : List (Addr × Obj)), PSs (X.suite a pn) (b₀ :: suite) ts) :
    PS X (.Try body [.ExceptHandler (some (.Name x np)) (some n) (b₀ :: suite) pos'] [] [] pos) (fun D σ H => tb (wKeep X.K c i ts Wout D) D σ H) := by
  refine ⟨fun pins s σ H D I h => ?_⟩
  have ok := I.ok
  have frm : X.A.frames = some (X.env :: X.outer) := by rw [ok.frames, hs]
  have nloc : Loc X.env.scope n := .inl hln
  refine wpAny_Try_except ?_
  have run := (hb (wKeep X.K c i ts Wout D) (X.pn ++ pins) (fun e s₁ => wpAny (model X.prog X.w) X.A (noteFrame e X.env) (fun _ s₂ => wpAny (model X.prog X.w) X.A (setFlight e none) (fun _ s₃ =>
    wpAny (model X.prog X.w) X.A (handleBy e X.env [.ExceptHandler (some (.Name x np)) (some n) (b₀ :: suite) pos']) (SP X pins D) X.xe s₃) X.xe s₂) X.xe s₁) (fun u s' xx => ?_) PassesOwn.looking).run [] s σ H D (I.toTry _) h
  · refine wpAny_mono run (fun f s1 hsp => ?_) (fun e s1 he => he)
    cases f with
    | next =>
      obtain ⟨σ2, H2, J2, q⟩ := hsp
      exact wpAny_execs_nil ⟨σ2, H2, J2.ofTry ok, q⟩
    | brk =>
      obtain ⟨σ2, H2, J2, q⟩ := hsp
      exact ⟨σ2, H2, J2.ofTry ok, q⟩
    | cont =>
      obtain ⟨σ2, H2, J2, q⟩ := hsp
      exact ⟨σ2, H2, J2.ofTry ok, q⟩
    | ret u =>
      obtain ⟨v, σ2, H2, J2, r, q⟩ := hsp
      exact ⟨v, σ2, H2, J2.ofTry ok, r, q⟩
  · obtain ⟨a, B, sI, pins', σ', H', cls, d, rfl, J', nb, up, sky, na, os, ag, b, hb1, hyes, hno⟩ := xx
    have J : Inv X pins σ' H' sI := J'.ofTry ok
    have sky2 : Sky B (X.env :: X.outer) a (Zc cls d) X.env.locals s'.heap := by
      rw [← hs]
      exact sky
    show wpAny (model X.prog X.w) X.A (noteFrame (.ref a) X.env) _ _ _
    refine Sky.land Zc.steady frm hf sky2 fun h3 fl3 up3 => ?_
    have J3 : Inv X pins σ' H' { s' with heap := h3 } := J.landed nb fl3.1 (up.trans up3) os ag
    obtain ⟨oe3, vs3, he3, hz3, hd3⟩ := fl3.there
    have nofr : a ∉ frs (X.env :: X.outer) := fun hm => by
      obtain ⟨_, o', e', hnf⟩ := fl3.2.2.1.mem hm
      rw [he3] at e'
      cases e'
      exact hnf _ hd3
    have nst : a ∉ frs X.stack := by
      rw [hs]
      exact nofr
    have S3 := suite_in J3 a
    refine wpAny_handleBy_cons (codeAny_handlers_test ?_) (by intro q; cases q)
    have LT : PySem.W.Looks (model X.prog X.w) h3 (typeOf (.ref a)) cls := fun A Q E s k q =>
      wpAny_typeOf_ref (k _ _ he3) (by rw [hz3.1]; exact q)
    have LM := PySem.W.exm_one (M := model X.prog X.w) (J3.kIn) LT hb1
    have test : ∀ {Q : Value → Shared → Prop} {E : Value → Shared → Prop}, Q c { s' with heap := h3 } →
        wpAny (model X.prog X.w) (X.A.mark (some (.ref a))) (eval (.Name x np) X.env) Q E { s' with heap := h3 } := fun {Q E} q => by
      obtain ⟨hg, hdbg, hm | ⟨hm, hv, hnn⟩⟩ := hc
      · exact ld_glob (X := X.suite a (X.pn ++ pins)) S3 hg hm q hdbg
      · exact ld_blt (X := X.suite a (X.pn ++ pins)) S3 hg hm hv q hnn hdbg
    refine test (LM.here ?_)
    cases b with
    | true =>
      refine codeAny_handlers_suite_as ?_
      refine HandSPX.lands_againZ fl3 fun h4 fl4 up4 => ?_
      obtain ⟨oe4, vs4, he4, hz4, hd4⟩ := fl4.there
      have J4 : Inv X pins σ' (upd H' a (ExT cls d a)) { s' with heap := h4 } := keep_err (s' := { s' with heap := h4 }) J nb fl4.1 ((up.trans up3).trans up4) os ag na fl4.2.1 nst he4 hz4 hd4
      refine store_ok (X := X.suite a (X.pn ++ pins)) (v := .ref a) (suite_in J4 a) hN hi nloc rfl (fun s5 S5 => ?_) (.inr hln)
      refine wpAny_mono ((hsu a (X.pn ++ pins)).run [] s5 _ _ _ S5 (hyes rfl a na)) (fun f s6 hsp => ?_) (fun _ _ z => False.elim z)
      have fin : ∀ {σ6 : L2.St} {H6 : Hp} {Q : Shared → Prop}, Inv (X.suite a (X.pn ++ pins)) [] σ6 H6 s6 → (∀ s7, Inv X pins (σ6.set i none) H6 s7 → Q s7) →
          wpAny (model X.prog X.w) X.A (do bindName X.env n .none; unbindBehindTheSuite X.env n pos') (fun _ s7 => Q s7) X.xe s6 := fun {σ6 H6 Q} S6 hq => gone_ok (suite_out ok S6) hN hi hln hq
      cases f with
      | next =>
        obtain ⟨σ6, H6, S6, q6⟩ := hsp
        exact fin S6 fun s7 J7 => ⟨_, _, J7, q6⟩
      | brk =>
        obtain ⟨σ6, H6, S6, q6⟩ := hsp
        exact fin S6 fun s7 J7 => ⟨_, _, J7, q6⟩
      | cont =>
        obtain ⟨σ6, H6, S6, q6⟩ := hsp
        exact fin S6 fun s7 J7 => ⟨_, _, J7, q6⟩
      | ret u =>
        obtain ⟨v6, σ6, H6, S6, r6, q6⟩ := hsp
        exact fin S6 fun s7 J7 => ⟨_, _, _, J7, r6, q6⟩
    | false =>
      show wpAny _ X.A (handleBy (.ref a) X.env []) _ _ _
      refine wpAny_handleBy_nil ?_
      obtain ⟨k1, k2, k3, oe, vs, T, oT, ts', he, hz, hd, h1, hr⟩ := id fl3
      unfold PySem.passOn
      refine wpAny_bind (wpAny_field he hd h1 ?_)
      rw [if_neg (show ¬ ((Value.ref T == Value.none) = true) from by simp)]
      have go : wpAny (model X.prog X.w) X.A (setFlight (.ref a) X.env.frame) (fun _ s4 => wpAny (model X.prog X.w) X.A (throw (.ref a) : Sem Flow) (SP X pins D) X.xe s4) X.xe { s' with heap := h3 } := by
        rw [hf]
        refine HandSPX.setFlight_upZ fl3 fun h4 hh4 up4 => wpAny_throw (tk _ _ ?_)
        refine ⟨a, B, sI, pins, σ', H', cls, d, rfl, J, nb, (up.trans up3).trans up4, .inr (.inr ?_), na, os, ag, hno rfl⟩
        rw [hs]
        exact hh4
      first
        | exact wpAny_bind (wpAny_pure (wpAny_bind go))
        | exact wpAny_bind go
end
/-! ## isinstance, repr -/
/-- an error of the module's own, kept -/
def rIsX (K : PySem.W.Frag) : List V → Hp → VK → Prop := fun xs H Q => rIsi K xs H Q ∨ rIsiT K xs H Q ∨
  ∃ (a D : Addr) (c : V) (cv : Value) (b : Bool), xs = [.ref a, c] ∧ H a = some (ExT (.ref D) none a) ∧ ExcC K D ∧ ClsV c cv ∧ PySem.W.kitOne K (.ref D) cv = some b ∧ Q (.bl b) H
theorem call_isX {X : Cx} : CallR X (.builtin "isinstance") (rIsX X.K) := by
  intro pins s σ H xs us Q I r h
  rcases h with h | h | h
  · exact call_isi pins s σ H xs us Q I r h
  · exact call_isiT pins s σ H xs us Q I r h
  · obtain ⟨a, D, c, cv, b, rfl, ha, C, hc, e, q⟩ := h
    obtain ⟨u1, u2, rfl, r1, r2⟩ := vals2 r
    cases r1
    have e2 := hc.eq r2
    subst e2
    obtain ⟨⟨oe, vs, hget, hz, hv⟩, _, _⟩ := I.hok a _ ha
    have J : PySem.W.InstAt s.heap a oe D none := by
      obtain ⟨oc, od, oda, osl⟩ := oe
      obtain ⟨h1, h2⟩ := hz
      dsimp only at h1 h2 hv
      subst h1 h2 hv
      exact ⟨hget, rfl, rfl, trivial⟩
    exact PySem.W.kia_one (PySem.W.handS_kitx_exc C.hg C.hk C.hs C.hd C.ha C.hn C.ht C.hm) I.kIn J e (fun z => nomatch z) fun tk => ⟨.bl b, H, I.kept (t' := tk) fun _ _ z => z, rfl, q⟩
def rRepr (K : PySem.W.Frag) : List V → Hp → VK → Prop := fun xs H Q => ∃ x d, xs = [x] ∧ Dp K H x d ∧ d.showable = true ∧ d.hasDict = false ∧ d.depth ≤ 30 ∧ d.shown.length ≤ sizeLine ∧ (∃ a, x = .ref a) ∧ Q (.str d.shown) H
theorem call_reprG {X : Cx} (hg : X.A.guards = some []) (hu : X.A.units + 64 < cLine) : CallR X (.builtin "repr") (rRepr X.K) := by
  intro pins s σ H xs us Q I r h
  obtain ⟨x, d, rfl, hd, h1, h2, h3, h4, ⟨a, rfl⟩, q⟩ := h
  obtain ⟨u, rfl, rx⟩ := vals1 r
  cases rx
  obtain ⟨as, rr⟩ := Dp.reads I d _ _ hd rfl
  refine repr_of_reads' rr h1 (PyData.noDict_hsm h2) hg (by omega) (fun _ _ e => e) (fun h' u tk hk => ?_) h4
  exact ⟨.str d.shown, H, I.kept (t' := tk) hk, ⟨u, rfl⟩, q⟩
end G

set_option Elab.async false
set_option linter.all false
set_option maxRecDepth 100000
set_option maxHeartbeats 4000000
namespace G
open PySem PySem.Spec PyProof.Rows L2 LamX
/-! ## the built-in names -/
def rLen (K : PySem.W.Frag) : List V → Hp → VK → Prop := fun xs H Q =>
  (∃ x n, xs = [x] ∧ LenV K x H n ∧ Q (.int n) H) ∨ ∃ a kvs, xs = [V.ref a] ∧ H a = some (.dK kvs) ∧ Q (.int kvs.length) H
def rInt1 : List V → Hp → VK → Prop := fun xs H Q => match xs with
  | [.int i] => Q (.int i) H
  | [.bl b] => Q (.int (if b then 1 else 0)) H
  | _ => False
def rStr1 : List V → Hp → VK → Prop := fun xs H Q => match xs with
  | [.int i] => i.natAbs.log2 < 1920 ∧ Q (.str (toString i)) H
  | _ => False
def rAbs1 : List V → Hp → VK → Prop := fun xs H Q => match xs with
  | [.int i] => Q (.int (if i < 0 then -i else i)) H
  | _ => False
def rMin2 (K : PySem.W.Frag) : List V → Hp → VK → Prop := fun xs H Q => match xs with
  | [.int i, .int j] => Q (.int (if j < i then j else i)) H
  | [.ref a] => rMin K [.ref a] H Q
  | _ => False
def rMax2 (K : PySem.W.Frag) : List V → Hp → VK → Prop := fun xs H Q => match xs with
  | [.int i, .int j] => Q (.int (if j > i then j else i)) H
  | [.ref a] => rMax K [.ref a] H Q
  | _ => False
def rListOf (K : PySem.W.Frag) : List V → Hp → VK → Prop := fun xs H Q => ∃ p ys, xs = [.ref p] ∧ (SqL K H p ys ∨ SqT K H p ys) ∧ ∀ l, H l = none → Q (.ref l) (upd H l (.lst ys))
def rTupOf (K : PySem.W.Frag) : List V → Hp → VK → Prop := fun xs H Q => ∃ p ys, xs = [.ref p] ∧ ((SqL K H p ys ∧ ∀ l, H l = none → Q (.ref l) (upd H l (.tup ys))) ∨ (SqT K H p ys ∧ Q (.ref p) H))
inductive Bk where
  | fn (id : String)
  | ty (T : String)
def Bk.val : Bk → Value
  | .fn id => .builtin id
  | .ty T => .type T
def bTab (K : PySem.W.Frag) (x : Str) : Option (Bk × (List V → Hp → VK → Prop)) :=
  if x = "len" then some (.fn "len", rLen K)
  else if x = "int" then some (.ty "int", rInt1)
  else if x = "str" then some (.ty "str", rStr1)
  else if x = "abs" then some (.fn "abs", rAbs1)
  else if x = "min" then some (.fn "min", rMin2 K)
  else if x = "max" then some (.fn "max", rMax2 K)
  else if x = "isinstance" then some (.fn "isinstance", rIsX K)
  else if x = "repr" then some (.fn "repr", rRepr K)
  else if x = "list" then some (.ty "list", rListOf K)
  else if x = "tuple" then some (.ty "tuple", rTupOf K)
  else if x = "sum" then some (.fn "sum", rSum K)
  else if x = "all" then some (.fn "all", rAll K)
  else if x = "any" then some (.fn "any", rAny K)
  else none
def tyTab (x : Str) : Option String :=
  if x = "int" then some "int" else if x = "bool" then some "bool" else if x = "str" then some "str" else if x = "list" then some "list"
  else if x = "tuple" then some "tuple" else if x = "dict" then some "dict" else none
theorem if_some {c : Prop} [Decidable c] {α : Type} {a r : α} {b : Option α} (h : (if c then some a else b) = some r) : (c ∧ a = r) ∨ b = some r := by
  by_cases e : c
  · rw [if_pos e] at h
    exact .inl ⟨e, Option.some.inj h⟩
  · rw [if_neg e] at h
    exact .inr h
theorem tyTab_ok {x : Str} {T : String} (h : tyTab x = some T) : bootBuiltins x = some (.type T) := by
  unfold tyTab at h
  repeat (rcases if_some h with ⟨e, q⟩ | h; (subst e; subst q; first | exact PyProof.Rows.boot_int | exact PyProof.Rows.boot_bool | exact PyProof.Rows.boot_str | exact PyProof.Rows.boot_list | exact PyProof.Rows.boot_tuple | exact PyProof.Rows.boot_dict))
  cases h
theorem boot_min' : bootBuiltins "min" = some (.builtin "min") := by decide +kernel
theorem boot_max' : bootBuiltins "max" = some (.builtin "max") := by decide +kernel
theorem boot_sum' : bootBuiltins "sum" = some (.builtin "sum") := by decide +kernel
theorem boot_all' : bootBuiltins "all" = some (.builtin "all") := by decide +kernel
theorem boot_any' : bootBuiltins "any" = some (.builtin "any") := by decide +kernel
section
variable {X : Cx}
theorem c_int1 : CallR X (.type "int") rInt1 := by
  intro pins s σ H xs us Q I r h
  match xs, h with
  | [.int i], h => exact call_int1 pins s σ H _ us Q I r (.inl ⟨i, rfl, h⟩)
  | [.bl b], h => exact call_int1 pins s σ H _ us Q I r (.inr ⟨b, rfl, h⟩)
theorem c_str1 : CallR X (.type "str") rStr1 := by
  intro pins s σ H xs us Q I r h
  match xs, h with
  | [.int i], h => exact call_str_int pins s σ H _ us Q I r ⟨i, rfl, h.1, h.2⟩
theorem c_abs1 : CallR X (.builtin "abs") rAbs1 := by
  intro pins s σ H xs us Q I r h
  match xs, h with
  | [.int i], h => exact call_abs pins s σ H _ us Q I r ⟨i, rfl, h⟩
theorem c_min (hc : X.calm = true) : CallR X (.builtin "min") (rMin2 X.K) := by
  intro pins s σ H xs us Q I r h
  match xs, h with
  | [.int i, .int j], h => exact call_min2 hc pins s σ H _ us Q I r ⟨i, j, rfl, h⟩
  | [.ref a], h => exact cr_min hc pins s σ H _ us Q I r h
theorem c_max (hc : X.calm = true) : CallR X (.builtin "max") (rMax2 X.K) := by
  intro pins s σ H xs us Q I r h
  match xs, h with
  | [.int i, .int j], h => exact call_max2 hc pins s σ H _ us Q I r ⟨i, j, rfl, h⟩
  | [.ref a], h => exact cr_max hc pins s σ H _ us Q I r h
theorem bTab_ok {k : Nat} {Γ : Gam} {sc : Scope} {W : WX} (g : Good k Γ sc W X) {x : Str} {b : Bk} {r : List V → Hp → VK → Prop} (h : bTab X.K x = some (b, r)) :
    bootBuiltins x = some b.val ∧ CallR X b.val r := by
  unfold bTab at h
  have hc := g.calm
  rcases if_some h with ⟨e, q⟩ | h
  · subst e; cases q
    exact ⟨PySem.boot_len, call_len.or call_lenD⟩
  rcases if_some h with ⟨e, q⟩ | h
  · subst e; cases q
    exact ⟨PyProof.Rows.boot_int, c_int1⟩
  rcases if_some h with ⟨e, q⟩ | h
  · subst e; cases q
    exact ⟨PyProof.Rows.boot_str, c_str1⟩
  rcases if_some h with ⟨e, q⟩ | h
  · subst e; cases q
    exact ⟨PyProof.Rows.boot_abs, c_abs1⟩
  rcases if_some h with ⟨e, q⟩ | h
  · subst e; cases q
    exact ⟨boot_min', c_min hc⟩
  rcases if_some h with ⟨e, q⟩ | h
  · subst e; cases q
    exact ⟨boot_max', c_max hc⟩
  rcases if_some h with ⟨e, q⟩ | h
  · subst e; cases q
    exact ⟨PyProof.Rows.boot_isinstance, call_isX⟩
  rcases if_some h with ⟨e, q⟩ | h
  · subst e; cases q
    exact ⟨PyProof.Rows.boot_repr, call_reprG g.room.g g.units⟩
  rcases if_some h with ⟨e, q⟩ | h
  · subst e; cases q
    exact ⟨PyProof.Rows.boot_list, call_list_of⟩
  rcases if_some h with ⟨e, q⟩ | h
  · subst e; cases q
    exact ⟨PyProof.Rows.boot_tuple, call_tuple_of⟩
  rcases if_some h with ⟨e, q⟩ | h
  · subst e; cases q
    exact ⟨boot_sum', cr_sum hc⟩
  rcases if_some h with ⟨e, q⟩ | h
  · subst e; cases q
    exact ⟨boot_all', cr_all hc⟩
  rcases if_some h with ⟨e, q⟩ | h
  · subst e; cases q
    exact ⟨boot_any', cr_any hc⟩
  cases h
theorem pe_bi (g : Good k Γ sc W X) {x : Str} {p pos : Pos} {e : Expr} {es : List Expr} {t : TA} {b : Bk} {r : List V → Hp → VK → Prop} (hx : oddName x = false) (hg : glb sc x = true) (hf : Γ.free x = true) (ht : bTab X.K x = some (b, r))
    (hs : noStar (e :: es) = true) (ha : PA X (e :: es) t) : PE X (.Call (.Name x p) (e :: es) [] pos) (tCB r t) := by
  obtain ⟨h1, h2⟩ := bTab_ok g ht
  obtain ⟨o1, o2, o3⟩ := oddName_no hx
  have fm := g.free x hf
  cases b with
  | fn id => exact pe_callB h2 (gl_of g hg) fm h1 ha o3 o1 (star_one hs) (star_any (star_tail hs))
  | ty T => exact pe_callTy h2 (gl_of g hg) fm h1 ha o3 o1 (star_one hs) (star_any (star_tail hs))
end
/-! ## methods of the built-in types -/
def rJoin (K : PySem.W.Frag) : V → List V → Hp → VK → Prop := fun x xs H Q => ∃ a p, ∃ ys : List Str, x = .str a ∧ xs = [.ref p] ∧ (SqL K H p (ys.map V.str) ∨ SqT K H p (ys.map V.str)) ∧
    (ys.map (·.length)).sum + ys.length * a.length ≤ 16777216 ∧ Q (.str (Txt.join a ys)) H
def rStripC : V → List V → Hp → VK → Prop := fun x xs H Q => ∃ a b, x = .str a ∧ xs = [.str b] ∧ a.length ≤ sizeLine ∧ Q (.str (Txt.stripChars a b)) H
def mTab (K : PySem.W.Frag) (m : Str) (args : List Expr) (to : TE) (ta : TA) : TE :=
  match args with
  | [] => if m = "pop" then tBM0 K "list" rPop to else tNo
  | [_] => if m = "append" then tBM K "list" rAppend to ta
    else if m = "pop" then tBM K "list" rPopAt to ta
    else if m = "extend" then tBM K "list" rExtend to ta
    else if m = "join" then tBM K "str" (rJoin K) to ta
    else if m = "strip" then tBM K "str" rStripC to ta
    else tNo
  | _ => tNo
theorem pe_mtab {X : Cx} {o : Expr} {m : Str} {args : List Expr} {to : TE} {ta : TA} {apos cpos : Pos} (ho : PE X o to) (ha : PA X args ta) (hb : notBare o = true) (hs : noStar args = true) (hl : (apos.endLine == cpos.line) = true) :
    PE X (.Call (.Attribute o m apos) args [] cpos) (mTab X.K m args to ta) := by
  match args, ha, hs with
  | [], ha, hs =>
    show PE X _ (if m = "pop" then _ else _)
    split
    · rename_i e; subst e
      exact pe_bm0 PySem.F.plainAttrs_list PySem.F.slot_list_pop PySem.F.type_list_pop mt_pop ho (base_ok hb) hl
    · exact pe_no
  | [e], ha, hs =>
    have few : ((backTo cpos (starEach [e] X.env)).all (fun x => !x.1) && (backToKw cpos (keywordEach [] X.env)).all (fun x => x.1.isSome)
        && decide (([e] : List Expr).length + ([] : List Keyword).length + (if ([] : List Keyword).isEmpty then 0 else 1) < 30)) = true := by
      rw [star_all hs]
      rfl
    show PE X _ (if m = "append" then _ else _)
    split
    · rename_i q; subst q
      exact pe_bm PySem.F.plainAttrs_list PySem.F.slot_list_append PySem.F.type_list_append mt_append ho ha (base_ok hb) few hl (star_one hs) (star_any (star_tail hs))
    split
    · rename_i q; subst q
      exact pe_bm PySem.F.plainAttrs_list PySem.F.slot_list_pop PySem.F.type_list_pop mt_popAt ho ha (base_ok hb) few hl (star_one hs) (star_any (star_tail hs))
    split
    · rename_i q; subst q
      exact pe_bm PySem.F.plainAttrs_list PySem.F.slot_list_extend PySem.F.type_list_extend mt_extend ho ha (base_ok hb) few hl (star_one hs) (star_any (star_tail hs))
    split
    · rename_i q; subst q
      exact pe_bm PySem.F.plainAttrs_str PySem.F.slot_str_join PySem.F.type_str_join mt_join ho ha (base_ok hb) few hl (star_one hs) (star_any (star_tail hs))
    split
    · rename_i q; subst q
      exact pe_bm PySem.F.plainAttrs_str PySem.F.slot_str_strip PySem.F.type_str_strip mt_stripChars ho ha (base_ok hb) few hl (star_one hs) (star_any (star_tail hs))
    · exact pe_no
  | _ :: _ :: _, _, _ => exact pe_no
end G

set_option Elab.async false
set_option linter.all false
set_option maxRecDepth 100000
set_option maxHeartbeats 4000000
namespace G
open PySem PySem.Spec PyProof.Rows L2 LamX
/-! ## lists of parts -/
def wL (f : Expr → TE) : List Expr → TA
  | [] => tNil
  | e :: es => tCons (f e) (wL f es)
def wKw (f : Expr → TE) : List Keyword → TA
  | [] => tNil
  | q :: qs => tCons (f q.value) (wKw f qs)
def tAndL : List TT → TT
  | [] => fun _ _ _ => False
  | [t] => t
  | t :: r => tAnd t (tAndL r)
def tOrL : List TT → TT
  | [] => fun _ _ _ => False
  | [t] => t
  | t :: r => tOr t (tOrL r)
def tAndVL (K : PySem.W.Frag) : List TE → TE
  | [] => tNo
  | [t] => t
  | t :: r => tAndT K t (tAndVL K r)
def tOrVL (K : PySem.W.Frag) : List TE → TE
  | [] => tNo
  | [t] => t
  | t :: r => tOrT K t (tOrVL K r)
/-- a value's truth as a test -/
def tTru (K : PySem.W.Frag) (t : TE) : TT := fun σ H Q => t σ H fun x H' => ∃ b, TruV K x H' b ∧ Q b H'
def noT : TT := fun _ _ _ => False
def wPairs (f : Expr → TE) : List (Option Expr) → List Expr → List (TE × TE)
  | some a :: ks, v :: vs => (f a, f v) :: wPairs f ks vs
  | _, _ => []
def isComp (e : Expr) : Bool := match e with
  | .ListComp .. => true
  | .SetComp .. => true
  | .DictComp .. => true
  | _ => false
def isSetD (e : Expr) : Bool := match e with
  | .Set .. => true
  | _ => false
def isSlice (e : Expr) : Bool := match e with
  | .Slice .. => true
  | _ => false
def plainTest (e : Expr) : Bool := match e with
  | .Name .. => true
  | .Call .. => true
  | .Subscript .. => true
  | .Attribute .. => true
  | .BinOp .. => true
  | .ListComp .. => true
  | .Constant .. => true
  | _ => false
def ownS (N : List Str) (scope : Scope) : List (Str × Nat) := scope.names.filterMap fun y => match y.2 with
  | .local => (slot N y.1).map fun i => (y.1, i)
  | .cell => (slot N y.1).map fun i => (y.1, i)
  | _ => none
def iSeq (K : PySem.W.Frag) (te : TE) : TI := fun σ H R => iList K te σ H R ∨ iTup K te σ H R ∨ iStr te σ H R
def gSeq (K : PySem.W.Frag) (n : Nat) (t : TGs) : TG := fun v σ H Q => gTup K n t v σ H Q ∨ gLst K n t v σ H Q
def rPut : TSet := fun o i v H Q => rSetL o i v H Q ∨ ∃ a H', o = .ref a ∧ DPut H a i v H' ∧ Q H'
def gNames (N : List Str) (sc : Scope) (all : Bool) : List Expr → Option TGs
  | [] => some gNil
  | .Name x _ :: es => if loc sc x && (all || decide (sc.names.lookup x = some .local)) then (match slot N x, gNames N sc all es with
    | some i, some r => some (gCons (gName i) r)
    | _, _ => none) else none
  | _ => none
def noG : TG := fun _ _ _ _ => False
def wG (K : PySem.W.Frag) (Γ : Gam) (sc : Scope) (all : Bool) (f : Expr → TE) : Expr → TG
  | .Name x _ => if loc sc x && (all || decide (sc.names.lookup x = some .local)) then (match slot Γ.N x with
    | some i => gName i
    | none => noG) else noG
  | .Tuple es _ _ => (match gNames Γ.N sc all es with
    | some t => gSeq K es.length t
    | none => noG)
  | .Subscript o i _ => if isSlice i then noG else gSub (f o) (f i) rPut
  | _ => noG
def noI : TI := fun _ _ _ => False
def wI (K : PySem.W.Frag) (Γ : Gam) (sc : Scope) (f : Expr → TE) (tg : Expr) : Expr → TI
  | .Call (.Name x p) [a] [] q => if x = "range" && glb sc x && Γ.free x && noStar [a] then iRng1 (wL f [a]) else iSeq K (f (.Call (.Name x p) [a] [] q))
  | .Call (.Name x p) [a, b] [] q => if x = "range" && glb sc x && Γ.free x && noStar [a, b] then iRng2 (wL f [a, b]) else iSeq K (f (.Call (.Name x p) [a, b] [] q))
  | e => iSeq K (f e)
/-- the thunks at hand -/
def lamActs (Γ : Gam) (sc : Scope) (wb : Scope → WX → Expr → TE) : L2.St → Hp → Acts := fun σ H f tl => Γ.act f tl ∨ ∃ (o : Obj) (body : Expr) (scope : Scope) (c' : Addr), Γ.P.isSome = true ∧ lamSB sc scope = true ∧ H f = some (frzO o) ∧
  LamObj Γ.qual Γ.cells o body scope c' ∧ tl = fun E H' Q' => H' c' = some (CodeO c' (Γ.qual ++ "<lambda>")) ∧ wb scope (fun cls d _ H'' => E cls d H'') body σ H' Q'
/-- the thunks that a call hands on -/
def actsAt (Γ : Gam) (sc : Scope) (wb : Scope → WX → Expr → TE) : L2.St → Hp → Acts := match Γ.P with
  | some _ => lamActs Γ sc wb
  | none => fun _ _ => Γ.act
def noW : WX := fun _ _ _ _ => False
mutual
def wE (K : PySem.W.Frag) : Nat → Gam → Scope → WX → Expr → TE
  | 0, _, _, _, _ => tNo
  | n + 1, Γ, sc, W, e => match e with
    | .Constant (.int i) _ _ => tC (.int i)
    | .Constant (.bool b) _ _ => tC (.bl b)
    | .Constant .none _ _ => tC .non
    | .Constant (.str x) _ _ => tC (.str x)
    | .Name x _ => if oddName x then tNo else if vis sc x then (match slot Γ.N x with
        | some i => tVar i
        | none => tNo) else if glb sc x then (match Γ.gv x with
          | some v => tC v
          | none => if Γ.free x then (match tyTab x with
            | some T => tC (.ty T)
            | none => tNo) else tNo) else tNo
    | .BinOp a op b _ => tOp (rBin K op) (wE K n Γ sc W a) (wE K n Γ sc W b)
    | .UnaryOp .USub a _ => tUn (rU fun i => .int (-i)) (wE K n Γ sc W a)
    | .UnaryOp .Not a _ => tNotT K (wE K n Γ sc W a)
    | .BoolOp .And vs _ => tAndVL K (vs.map (wE K n Γ sc W))
    | .BoolOp .Or vs _ => tOrVL K (vs.map (wE K n Γ sc W))
    | .Compare a [op] [b] _ => if behindInMarks op b then tNo else tOp (rCmp K op) (wE K n Γ sc W a) (wE K n Γ sc W b)
    | .Compare a [op, op'] [b, c] _ => if lastMarks [op, op'] [b, c] then tNo else tChain (rCmp K op) (rCmp K op') (wE K n Γ sc W a) (wE K n Γ sc W b) (wE K n Γ sc W c)
    | .IfExp c a b _ => tIf (wT K n Γ sc W c) (wE K n Γ sc W a) (wE K n Γ sc W b)
    | .List es _ => if noStar es then tLst (wL (wE K n Γ sc W) es) else tNo
    | .Tuple es _ _ => if noStar es then tTup (wL (wE K n Γ sc W) es) else tNo
    | .Dict [] [] _ => tDNewK
    | .Dict (a :: ks) vs _ => if (a :: ks).all (·.isSome) && (a :: ks).length == vs.length && decide ((a :: ks).length ≤ 15) then tDisp (wPairs (wE K n Γ sc W) (a :: ks) vs) else tNo
    | .Subscript a (.Slice lo hi none _) _ => tSl (fun x l u H Q => rSlL K x l u H Q ∨ rSlA K x l u H Q) (wE K n Γ sc W a) (match lo with
        | some z => tPart (wE K n Γ sc W z)
        | none => tNoPart) (match hi with
        | some z => tPart (wE K n Γ sc W z)
        | none => tNoPart)
    | .Subscript a b _ => if isSlice b then tNo else tOp (rSub2 K) (wE K n Γ sc W a) (wE K n Γ sc W b)
    | .Lambda a body scope _ => (match a, Γ.P with
      | ⟨[], [], none, [], [], none, []⟩, some _ => if lamSB sc scope then tLamV Γ.qual Γ.cells Γ.T body scope else tNo
      | _, _ => tNo)
    | .Call (.Name x _) es kws _ => if oddName x || !noStar es || !kwAll kws then tNo else if glb sc x then (match Γ.fn x es.length (kwNames kws) with
        | some p => tFn p.2 (actsAt Γ sc fun s' W' b => wE K n Γ.low s' W' b) W (wL (wE K n Γ sc W) es) (wKw (wE K n Γ sc W) kws) es.length (kwNames kws).length
        | none => (match es, kws, bTab K x with
          | _ :: _, [], some r => if Γ.free x then tCB r.2 (wL (wE K n Γ sc W) es) else tNo
          | _, _, _ => tNo)) else if vis sc x then (match es, kws, slot Γ.N x with
          | [], [], some i => tThunk i Γ.act W
          | _, _, _ => tNo) else tNo
    | .Call (.Attribute o m apos) args [] cpos => if notBare o && noStar args && apos.endLine == cpos.line then mTab K m args (wE K n Γ sc W o) (wL (wE K n Γ sc W) args) else tNo
    | .ListComp elt [⟨tg, iter, ifs, 0⟩] scope _ => if blkC Γ.N sc scope (ownS Γ.N scope) && !isSetD iter then
        tLc (wI K Γ sc (wE K n Γ sc W) tg iter) (wG K Γ.blk (relS scope sc) false (wE K n Γ.blk (relS scope sc) noW) tg) (match ifs with
          | [] => tYes
          | [c] => wT K n Γ.blk (relS scope sc) noW c
          | _ => noT) (wE K n Γ.blk (relS scope sc) noW elt) ((ownS Γ.N scope).map (·.2)) else tNo
    | _ => tNo
def wT (K : PySem.W.Frag) : Nat → Gam → Scope → WX → Expr → TT
  | 0, _, _, _, _ => noT
  | n + 1, Γ, sc, W, e => match e with
    | .BoolOp .And vs _ => tAndL (vs.map (wT K n Γ sc W))
    | .BoolOp .Or vs _ => tOrL (vs.map (wT K n Γ sc W))
    | .UnaryOp .Not a _ => tNot (wT K n Γ sc W a)
    | .Compare a [op] [b] _ => if behindInMarks op b then noT else tTest (tOp (rCmp K op) (wE K n Γ sc W a) (wE K n Γ sc W b))
    | .Compare a [op, op'] [b, c] _ => if lastMarks [op, op'] [b, c] then noT else tTest (tChain (rCmp K op) (rCmp K op') (wE K n Γ sc W a) (wE K n Γ sc W b) (wE K n Γ sc W c))
    | e => if plainTest e then tTru K (wE K n Γ sc W e) else noT
end
/-! ## the lambdas of a text, in order -/
def lamsE : Nat → Expr → List (Expr × Scope)
  | 0, _ => []
  | n + 1, e => match e with
    | .Lambda _ b sc _ => [(b, sc)]
    | .BoolOp _ vs _ => vs.flatMap (lamsE n)
    | .BinOp a _ b _ => lamsE n a ++ lamsE n b
    | .UnaryOp _ a _ => lamsE n a
    | .IfExp c a b _ => lamsE n c ++ lamsE n a ++ lamsE n b
    | .List es _ => es.flatMap (lamsE n)
    | .Tuple es _ _ => es.flatMap (lamsE n)
    | .Compare a _ bs _ => lamsE n a ++ bs.flatMap (lamsE n)
    | .Call f args kws _ => lamsE n f ++ args.flatMap (lamsE n) ++ kws.flatMap fun q => lamsE n q.value
    | .Attribute o _ _ => lamsE n o
    | .Subscript a b _ => lamsE n a ++ lamsE n b
    | _ => []
def lamsS : Nat → Stmt → List (Expr × Scope)
  | 0, _ => []
  | n + 1, s => match s with
    | .Return (some e) _ => lamsE n e
    | .Assign _ e _ => lamsE n e
    | .Expr e _ => lamsE n e
    | .If c a b _ => lamsE n c ++ a.flatMap (lamsS n) ++ b.flatMap (lamsS n)
    | .While c a _ _ => lamsE n c ++ a.flatMap (lamsS n)
    | .For _ it b _ _ => lamsE n it ++ b.flatMap (lamsS n)
    | _ => []
def lamB (b : List Stmt) (i : Nat) : Expr := ((b.flatMap (lamsS 40)).getD i (.Constant .none 0 ⟨0, 0, 0, 0⟩, default)).1
def lamC (b : List Stmt) (i : Nat) : Scope := ((b.flatMap (lamsS 40)).getD i (.Constant .none 0 ⟨0, 0, 0, 0⟩, default)).2
end G

set_option Elab.async false
set_option linter.all false
set_option maxRecDepth 100000
set_option maxHeartbeats 4000000
namespace G
open PySem PySem.Spec PyProof.Rows L2 LamX
section
variable {X : Cx} {k : Nat} {Γ : Gam} {sc : Scope} {W : WX}
theorem pa_wL {f : Expr → TE} (hf : ∀ e, PE X e (f e)) : ∀ {es : List Expr}, noStar es = true → PA X es (wL f es)
  | [], _ => pa_nil
  | e :: es, h => pa_cons (hf e) (pa_wL hf (star_tail h)) (star_one h)
theorem pk_wK {f : Expr → TE} (hf : ∀ e, PE X e (f e)) : ∀ {kws : List Keyword}, PK X kws (wKw f kws)
  | [] => pk_nil
  | ⟨nm, v, p⟩ :: kws => pk_cons (hf v) (pk_wK hf)
theorem pe_or2 {e : Expr} {t u : TE} (h1 : PE X e t) (h2 : PE X e u) : PE X e (fun σ H Q => t σ H Q ∨ u σ H Q) :=
  ⟨fun pins s σ H Q I h => h.elim (fun h => h1.run pins s σ H Q I h) fun h => h2.run pins s σ H Q I h⟩
theorem pi_or {tg e : Expr} {t u : TI} (h1 : PI X tg e t) (h2 : PI X tg e u) : PI X tg e (fun σ H R => t σ H R ∨ u σ H R) :=
  ⟨fun pins s σ H R I h => h.elim (fun h => h1.run pins s σ H R I h) fun h => h2.run pins s σ H R I h⟩
theorem pg_or {tg : Expr} {t u : TG} (h1 : PG X tg t) (h2 : PG X tg u) : PG X tg (fun v σ H Q => t v σ H Q ∨ u v σ H Q) :=
  ⟨fun pins s σ H v u Q I r h => h.elim (fun h => h1.run pins s σ H v u Q I r h) fun h => h2.run pins s σ H v u Q I r h⟩
theorem pi_seq {tg e : Expr} {te : TE} (h : PE X e te) : PI X tg e (iSeq X.K te) := pi_or (pi_list h) (pi_or (pi_tup h) (pi_str h))
theorem pw_and_l {f : Expr → TT} (hf : ∀ e, PT X e (f e)) {pos : Pos} : ∀ {vs : List Expr}, PW X (.BoolOp .And vs pos) (tAndL (vs.map f))
  | [] => ⟨fun _ _ _ _ _ _ _ h => h.elim⟩
  | [a] => pw_and1 (hf a)
  | a :: b :: r => pw_and (hf a) (pw_and_l hf (vs := b :: r))
theorem pw_or_l {f : Expr → TT} (hf : ∀ e, PT X e (f e)) {pos : Pos} : ∀ {vs : List Expr}, PW X (.BoolOp .Or vs pos) (tOrL (vs.map f))
  | [] => ⟨fun _ _ _ _ _ _ _ h => h.elim⟩
  | [a] => pw_or1 (hf a)
  | a :: b :: r => pw_or (hf a) (pw_or_l hf (vs := b :: r))
theorem pe_and_l {f : Expr → TE} (hf : ∀ e, PE X e (f e)) {pos : Pos} : ∀ {vs : List Expr}, PE X (.BoolOp .And vs pos) (tAndVL X.K (vs.map f))
  | [] => pe_no
  | [a] => pe_one (hf a)
  | a :: b :: r => pe_andT (hf a) (pe_and_l hf (vs := b :: r))
theorem pe_or_l {f : Expr → TE} (hf : ∀ e, PE X e (f e)) {pos : Pos} : ∀ {vs : List Expr}, PE X (.BoolOp .Or vs pos) (tOrVL X.K (vs.map f))
  | [] => pe_no
  | [a] => pe_one (hf a)
  | a :: b :: r => pe_orT (hf a) (pe_or_l hf (vs := b :: r))
theorem pps_w {f : Expr → TE} (hf : ∀ e, PE X e (f e)) {pos : Pos} : ∀ {ks : List (Option Expr)} {vs : List Expr}, ks.all (·.isSome) = true → ks.length = vs.length → PPs X pos ks vs (wPairs f ks vs)
  | [], [], _, _ => pps_nil
  | some a :: ks, v :: vs, h, l => pps_cons (hf a) (hf v) (pps_w hf (by rw [List.all_cons] at h; exact (Bool.and_eq_true_iff.mp h).2) (by simpa using l))
  | none :: ks, v :: vs, h, _ => by
    rw [List.all_cons] at h
    cases (Bool.and_eq_true_iff.mp h).1
theorem pe_name (g : Good k Γ sc W X) {n : Nat} {x : Str} {pos : Pos} : PE X (.Name x pos) (wE X.K (n + 1) Γ sc W (.Name x pos)) := by
  show PE X _ (if oddName x = true then _ else _)
  by_cases h0 : oddName x = true
  · rw [if_pos h0]
    exact pe_no
  · rw [if_neg h0]
    obtain ⟨o1, o2, o3⟩ := oddName_no (Bool.eq_false_iff.mpr h0)
    by_cases h1 : vis sc x = true
    · rw [if_pos h1]
      cases h2 : slot Γ.N x with
      | none => exact pe_no
      | some i => exact pe_var (by rw [g.N]; exact slot_ok h2) (by rw [g.sc]; exact vis_ok h1) o1 o2
    · rw [if_neg h1]
      by_cases h3 : glb sc x = true
      · rw [if_pos h3]
        cases h4 : Γ.gv x with
        | some v =>
          obtain ⟨u, e1, e2⟩ := g.gv x v h4
          exact pe_glob (gl_of g h3) e1 e2 o1
        | none =>
          show PE X _ (if Γ.free x = true then _ else _)
          by_cases h5 : Γ.free x = true
          · rw [if_pos h5]
            cases h6 : tyTab x with
            | none => exact pe_no
            | some T => exact pe_bltn (gl_of g h3) (g.free x h5) (tyTab_ok h6) rfl o3 o1
          · rw [if_neg h5]
            exact pe_no
      · rw [if_neg h3]
        exact pe_no
theorem slice_no {e : Expr} (h : isSlice e = false) : PlainIx e := by
  unfold isSlice at h
  cases e <;> first
    | (intro _ _; rfl)
    | cases h
theorem set_no {e : Expr} (h : isSetD e = false) (env : Env) : ∀ x, foldedSetIterable e env x = pure x := by
  unfold isSetD at h
  cases e <;> first
    | (intro _; rfl)
    | cases h
theorem tests_no {e : Expr} (h : plainTest e = true) (env : Env) : ∀ whole, isTrue e env whole = (do let v ← whole; standAt e.pos; holding [v] (truthy v)) := by
  unfold plainTest at h
  cases e <;> first
    | (intro _; rfl)
    | cases h
theorem pgs_names (hN : X.N = Γ.N) (hsc : X.env.scope = sc) (nd : Γ.N.Nodup) {all : Bool} (hfn : all = true → ∀ x, X.fn x = true) : ∀ {es : List Expr} {t : TGs}, gNames Γ.N sc all es = some t →
    PGs X es t ∧ (assignEach es X.env).length = es.length ∧ (assignEach es X.env).findIdx? (·.1) = none
  | [], t, h => by
    cases h
    exact ⟨pgs_nil, rfl, rfl⟩
  | e :: es, t, h => by
    cases e with
    | Name x p =>
      have h' : (if (loc sc x && (all || decide (sc.names.lookup x = some .local))) = true then (match slot Γ.N x, gNames Γ.N sc all es with
        | some i, some r => some (gCons (gName i) r)
        | _, _ => none) else none) = some t := h
      by_cases c : (loc sc x && (all || decide (sc.names.lookup x = some .local))) = true
      · rw [if_pos c] at h'
        obtain ⟨c1, c2⟩ := Bool.and_eq_true_iff.mp c
        cases h1 : slot Γ.N x with
        | none => rw [h1] at h'; cases h'
        | some i =>
          cases h2 : gNames Γ.N sc all es with
          | none => rw [h1, h2] at h'; cases h'
          | some r =>
            rw [h1, h2] at h'
            cases h'
            obtain ⟨a1, a2, a3⟩ := pgs_names hN hsc nd hfn h2
            have hx : PG X (.Name x p) (gName i) := pg_name (by rw [hN]; exact nd) (by rw [hN]; exact slot_ok h1) (by rw [hsc]; exact loc_ok c1) (by
              rcases Bool.or_eq_true_iff.mp c2 with z | z
              · exact .inl (hfn z x)
              · refine .inr ?_
                rw [hsc]
                exact of_decide_eq_true z)
            refine ⟨pgs_cons hx a1 rfl, ?_, ?_⟩
            · show (assignEach es X.env).length + 1 = es.length + 1
              rw [a2]
            · show List.findIdx? (·.1) ((false, assign (.Name x p) X.env) :: assignEach es X.env) = none
              rw [List.findIdx?_cons, a3]
              rfl
      · rw [if_neg c] at h'
        cases h'
    | _ => cases h
theorem put_ok (hu : X.A.units + 1 < cLine) : PSet X rPut := by
  intro pins s σ H o i v ov iv u Q I ro ri rv h
  rcases h with h | ⟨a, H', rfl, g, q⟩
  · exact set_list pins s σ H o i v ov iv u Q I ro ri rv h
  · obtain rfl : ov = Value.ref a := ro
    exact d_setItem hu I g ri rv fun s4 I4 => ⟨H', I4, q⟩
theorem pg_w (hc : X.calm = true) (hu : X.A.units + 1 < cLine) (hN : X.N = Γ.N) (hsc : X.env.scope = sc) (nd : Γ.N.Nodup) {all : Bool} (hfn : all = true → ∀ x, X.fn x = true) {f : Expr → TE} (hf : ∀ e, PE X e (f e)) : ∀ tg, PG X tg (wG X.K Γ sc all f tg) := by
  intro tg
  have no : ∀ {t : Expr}, PG X t noG := ⟨fun _ _ _ _ _ _ _ _ _ h => h.elim⟩
  cases tg with
  | Name x p =>
    show PG X _ (if _ then _ else _)
    by_cases c : (loc sc x && (all || decide (sc.names.lookup x = some .local))) = true
    · rw [if_pos c]
      obtain ⟨c1, c2⟩ := Bool.and_eq_true_iff.mp c
      cases h1 : slot Γ.N x with
      | none => exact no
      | some i =>
        exact pg_name (by rw [hN]; exact nd) (by rw [hN]; exact slot_ok h1) (by rw [hsc]; exact loc_ok c1) (by
          rcases Bool.or_eq_true_iff.mp c2 with z | z
          · exact .inl (hfn z x)
          · refine .inr ?_
            rw [hsc]
            exact of_decide_eq_true z)
    · rw [if_neg c]
      exact no
  | Tuple es kk p =>
    show PG X _ (match gNames Γ.N sc all es with
      | some t => gSeq X.K es.length t
      | none => noG)
    cases h : gNames Γ.N sc all es with
    | none => exact no
    | some t =>
      obtain ⟨a1, a2, a3⟩ := pgs_names hN hsc nd hfn h
      exact pg_or (pg_tup hc a1 a2 a3) (pg_lst hc a1 a2 a3)
  | Subscript o i p =>
    show PG X _ (if isSlice i = true then _ else _)
    by_cases c : isSlice i = true
    · rw [if_pos c]
      exact no
    · rw [if_neg c]
      refine pg_sub (hf o) (hf i) (put_ok hu) ?_
      intro v
      cases i <;> first
        | rfl
        | exact absurd rfl c
  | _ => exact no
theorem pi_w (g : Good k Γ sc W X) {f : Expr → TE} (hf : ∀ e, PE X e (f e)) (tg : Expr) : ∀ e, PI X tg e (wI X.K Γ sc f tg e) := by
  intro e
  have gen : ∀ e, PI X tg e (iSeq X.K (f e)) := fun e => pi_seq (hf e)
  cases e with
  | Call fn es kws q =>
    cases fn with
    | Name x p =>
      match es, kws with
      | [a], [] =>
        show PI X tg _ (if _ then _ else _)
        by_cases c : (decide (x = "range") && glb sc x && Γ.free x && noStar [a]) = true
        · rw [if_pos c]
          simp only [Bool.and_eq_true, decide_eq_true_eq] at c
          obtain ⟨⟨⟨c1, c2⟩, c3⟩, c4⟩ := c
          subst c1
          exact pi_range1 (gl_of g c2) (g.free _ c3) (pa_wL hf c4) (star_one c4)
        · rw [if_neg c]
          exact gen _
      | [a, b], [] =>
        show PI X tg _ (if _ then _ else _)
        by_cases c : (decide (x = "range") && glb sc x && Γ.free x && noStar [a, b]) = true
        · rw [if_pos c]
          simp only [Bool.and_eq_true, decide_eq_true_eq] at c
          obtain ⟨⟨⟨c1, c2⟩, c3⟩, c4⟩ := c
          subst c1
          have s2 : starEach [b] X.env = [(false, eval b X.env)] := star_one (star_tail c4)
          refine pi_range2 (gl_of g c2) (g.free _ c3) (pa_wL hf c4) ?_ s2
          rw [star_one c4, s2]
        · rw [if_neg c]
          exact gen _
      | [], _ => exact gen _
      | _ :: _ :: _ :: _, _ => exact gen _
      | [_], _ :: _ => exact gen _
      | [_, _], _ :: _ => exact gen _
    | _ => exact gen _
  | _ => exact gen _
end
end G

set_option Elab.async false
set_option linter.all false
set_option maxRecDepth 100000
set_option maxHeartbeats 4000000
namespace G
open PySem PySem.Spec PyProof.Rows L2 LamX
section
variable {X : Cx} {k : Nat} {Γ : Gam} {sc : Scope} {W : WX}
theorem takesNo {X : Cx} : Takes X noW := fun _ _ ⟨_, _, _, _, _, _, _, _, _, _, _, _, _, _, _, _, z⟩ => z.elim
theorem good_blk (g : Good k Γ sc W X) (s : Shared) (H : Hp) (scope : Scope) (C : Addr) (cl : List (Str × Addr)) (fp : List Addr) : Good k Γ.blk (relS scope sc) noW (X.blk s H scope (compEnvC scope cl C X.env) fp) where
  calm := g.calm
  sc := by
    rw [← g.sc]
    rfl
  N := g.N
  nd := g.nd
  room := g.room
  fn := g.fn
  gv := g.gv
  free := g.free
  exc := g.exc
  act := fun _ _ h => h.elim
  aex := fun ⟨_, _, h⟩ => h.elim
  aek := fun ⟨_, _, h⟩ => h.elim
  pass := PassesOwn.never
  takes := takesNo
  lam := fun p h => by cases h
theorem good_lam (g : Good k Γ sc W X) (A : Around) (outer : List Env) (s : Shared) (H : Hp) (E : XK) (scope : Scope) (f c' : Addr) (hr : RoomG lamRoom A) :
    Good 41 Γ.low scope (fun cls d _ H'' => E cls d H'') (lamCx X A outer s H E scope f c') where
  calm := rfl
  sc := rfl
  N := g.N
  nd := g.nd
  room := RoomG.deeper (k := 41) hr _
  fn := fun x n ks p h => by
    have h' : (match Γ.fn x n ks with
      | some p => if p.1 ≤ 40 then some p else none
      | none => none) = some p := h
    cases e : Γ.fn x n ks with
    | none =>
      rw [e] at h'
      cases h'
    | some q =>
      rw [e] at h'
      by_cases c : q.1 ≤ 40
      · have h2 : (if q.1 ≤ 40 then some q else none) = some p := h'
        rw [if_pos c] at h2
        cases h2
        exact ⟨Nat.le_succ_of_le c, (g.fn _ _ _ _ e).2⟩
      · have h2 : (if q.1 ≤ 40 then some q else none) = some p := h'
        rw [if_neg c] at h2
        cases h2
  gv := g.gv
  free := g.free
  exc := g.exc
  act := fun _ _ h => h.elim
  aex := fun ⟨_, _, h⟩ => h.elim
  aek := fun ⟨_, _, h⟩ => h.elim
  pass := passes_of rfl
  takes := takes_of rfl rfl rfl rfl
  lam := fun p h => by cases h
theorem acts_ok (g : Good k Γ sc W X) {wb : Scope → WX → Expr → TE}
    (hb : ∀ (A : Around) (outer : List Env) (s : Shared) (H : Hp) (E : XK) (scope : Scope) (f c' : Addr) (body : Expr), RoomG lamRoom A → PE (lamCx X A outer s H E scope f c') body (wb scope (fun cls d _ H'' => E cls d H'') body))
    {pins : List (Addr × Obj)} {σ : L2.St} {H : Hp} {s : Shared} (I : Inv X pins σ H s) : ∀ f tl, lamActs Γ sc wb σ H f tl → Act X.prog X.w X.K X.mg X.base s.heap H X.stack f tl := by
  intro f tl h
  rcases h with h | ⟨o, body, scope, c', hP, hS, hf, ho, rfl⟩
  · obtain ⟨a1, a2, a3⟩ := g.aex ⟨f, tl, h⟩
    have ub : Un (frs X.outer) [] X.H_0 H X.s_0.heap s.heap := by
      have b := I.base
      rw [a1] at b
      exact b
    refine (g.act f tl h).later ub (fun b hb => ?_) fun b hb hn => ?_
    · rw [a2]
      unfold frs
      rw [List.filterMap_cons, a3]
      exact List.mem_cons_of_mem _ hb
    · have e : b = X.env.locals := by
        rw [a2] at hb
        unfold frs at hb
        rw [List.filterMap_cons, a3] at hb
        rcases List.mem_cons.mp hb with z | z
        · exact z
        · exact absurd z hn
      rw [e]
      exact Heap.get?_none_of_le I.ok.above
  · obtain ⟨p, hp⟩ := Option.isSome_iff_exists.mp hP
    obtain ⟨c, _, _, _, _, e1, e2⟩ := g.lam p hp
    have LS : LamS X.env.scope scope := by
      rw [g.sc]
      exact lamS_by hS
    rw [← e1, ← e2] at ho
    have z := lam_act (tb := fun E => wb scope (fun cls d _ H'' => E cls d H'') body) I LS hf ho fun A outer s H E hr => hb A outer s H E scope f c' body hr
    rw [e2] at z
    exact z
theorem acts_at (g : Good k Γ sc W X) {wb : Scope → WX → Expr → TE}
    (hb : ∀ (A : Around) (outer : List Env) (s : Shared) (H : Hp) (E : XK) (scope : Scope) (f c' : Addr) (body : Expr), RoomG lamRoom A → PE (lamCx X A outer s H E scope f c') body (wb scope (fun cls d _ H'' => E cls d H'') body))
    {pins : List (Addr × Obj)} {σ : L2.St} {H : Hp} {s : Shared} (I : Inv X pins σ H s) : ∀ f tl, actsAt Γ sc wb σ H f tl → Act X.prog X.w X.K X.mg X.base s.heap H X.stack f tl := by
  intro f tl h
  refine acts_ok g hb I f tl ?_
  unfold actsAt at h
  cases hP : Γ.P with
  | some p => rw [hP] at h; exact h
  | none => rw [hP] at h; exact .inl h
end
end G

set_option Elab.async false
set_option linter.all false
set_option maxRecDepth 100000
set_option maxHeartbeats 8000000
namespace G
open PySem PySem.Spec PyProof.Rows L2 LamX
section
variable {X : Cx}
theorem pe_if_t {e : Expr} {c : Prop} [Decidable c] {t : TE} (h : c → PE X e t) : PE X e (if c then t else tNo) := by
  by_cases q : c
  · rw [if_pos q]
    exact h q
  · rw [if_neg q]
    exact pe_no
theorem pe_if_f {e : Expr} {c : Prop} [Decidable c] {t : TE} (h : ¬ c → PE X e t) : PE X e (if c then tNo else t) := by
  by_cases q : c
  · rw [if_pos q]
    exact pe_no
  · rw [if_neg q]
    exact h q
theorem pt_if_f {e : Expr} {c : Prop} [Decidable c] {t : TT} (h : ¬ c → PT X e t) : PT X e (if c then noT else t) := by
  by_cases q : c
  · rw [if_pos q]
    exact ⟨fun _ _ _ _ _ _ z => z.elim⟩
  · rw [if_neg q]
    exact h q
theorem pt_no {e : Expr} : PT X e noT := ⟨fun _ _ _ _ _ _ z => z.elim⟩
theorem snd (n : Nat) : ∀ {X : Cx} {k : Nat} {Γ : Gam} {sc : Scope} {W : WX}, Good k Γ sc W X → (∀ e, PE X e (wE X.K n Γ sc W e)) ∧ (∀ e, PT X e (wT X.K n Γ sc W e)) := by
  induction n with
  | zero => exact fun _ => ⟨fun _ => pe_no, fun _ => pt_no⟩
  | succ n ih =>
    intro X k Γ sc W g
    obtain ⟨hE, hT⟩ := ih g
    have hu := g.units
    have hu1 : X.A.units + 1 < cLine := by omega
    have main : ∀ e, PE X e (wE X.K (n + 1) Γ sc W e) := by
      intro e
      cases e with
      | Constant c j p =>
        cases c with
        | int i => exact pe_int
        | bool b => exact pe_bl
        | none => exact pe_non
        | str x => exact pe_str
        | _ => exact pe_no
      | Name x p => exact pe_name g
      | BinOp a op b p => exact pe_op (ok_bin op) (hE a) (hE b)
      | UnaryOp op a p =>
        cases op with
        | USub => exact pe_un (r := rU fun i => .int (-i)) un_neg (hE a)
        | Not => exact pe_notT (hE a)
        | _ => exact pe_no
      | BoolOp op vs p =>
        cases op with
        | And => exact pe_and_l hE
        | Or => exact pe_or_l hE
      | Compare a ops bs p =>
        match ops, bs with
        | [op], [b] => exact pe_if_f fun h => pe_cmpR (ok_cmp hu op) (hE a) (hE b) (Bool.eq_false_iff.mpr h)
        | [op, op'], [b, c] => exact pe_if_f fun h => pe_chain (ok_cmp hu op) (ok_cmp hu op') (hE a) (hE b) (hE c) (Bool.eq_false_iff.mpr h)
        | [], _ => exact pe_no
        | [_], [] => exact pe_no
        | [_], _ :: _ :: _ => exact pe_no
        | [_, _], [] => exact pe_no
        | [_, _], [_] => exact pe_no
        | [_, _], _ :: _ :: _ :: _ => exact pe_no
        | _ :: _ :: _ :: _, _ => exact pe_no
      | IfExp c a b p => exact pe_ifExp (hT c) (hE a) (hE b)
      | List es p => exact pe_if_t fun h => pe_lst (pa_wL hE h)
      | Tuple es kk p => exact pe_if_t fun h => pe_tup (pa_wL hE h)
      | Dict ks vs p =>
        match ks, vs with
        | [], [] => exact pe_dnewK
        | [], _ :: _ => exact pe_no
        | a :: ks, vs =>
          refine pe_if_t fun h => ?_
          simp only [Bool.and_eq_true, decide_eq_true_eq, beq_iff_eq] at h
          exact pe_disp (pps_w hE h.1.1 h.1.2) h.1.1 h.1.2 (by simp) h.2
      | Subscript a b p =>
        cases b with
        | Slice lo hi st p2 =>
          cases st with
          | some z => exact pe_no
          | none =>
            cases lo <;> cases hi <;> first
              | exact pe_slice (sl_list.or sl_tupA) (hE a) po_none po_none
              | exact pe_slice (sl_list.or sl_tupA) (hE a) (po_some (hE _)) po_none
              | exact pe_slice (sl_list.or sl_tupA) (hE a) po_none (po_some (hE _))
              | exact pe_slice (sl_list.or sl_tupA) (hE a) (po_some (hE _)) (po_some (hE _))
        | _ => exact pe_ix (ok_sub2 hu1) (hE a) (hE _) (slice_no rfl)
      | Lambda a body scope p =>
        have gen : PE X (.Lambda a body scope p) (match a, Γ.P with
          | ⟨[], [], none, [], [], none, []⟩, some _ => if lamSB sc scope = true then tLamV Γ.qual Γ.cells Γ.T body scope else tNo
          | _, _ => tNo) := by
          split
          · rename_i q hp
            exact pe_if_t fun h => pe_lamV g hp h
          · exact pe_no
        exact gen
      | Call fn es kws pos =>
        cases fn with
        | Name x p =>
          have gen : PE X (.Call (.Name x p) es kws pos) (if (oddName x || !noStar es || !kwAll kws) = true then tNo else if glb sc x = true then (match Γ.fn x es.length (kwNames kws) with
              | some p => tFn p.2 (actsAt Γ sc fun s' W' b => wE X.K n Γ.low s' W' b) W (wL (wE X.K n Γ sc W) es) (wKw (wE X.K n Γ sc W) kws) es.length (kwNames kws).length
              | none => (match es, kws, bTab X.K x with
                | _ :: _, [], some r => if Γ.free x = true then tCB r.2 (wL (wE X.K n Γ sc W) es) else tNo
                | _, _, _ => tNo)) else if vis sc x = true then (match es, kws, slot Γ.N x with
                | [], [], some i => tThunk i Γ.act W
                | _, _, _ => tNo) else tNo) := by
            refine pe_if_f fun h => ?_
            have h' := Bool.eq_false_iff.mpr h
            simp only [Bool.or_eq_false_iff, Bool.not_eq_false'] at h'
            obtain ⟨⟨h0, h1⟩, h2⟩ := h'
            by_cases c : glb sc x = true
            · rw [if_pos c]
              cases hf : Γ.fn x es.length (kwNames kws) with
              | some q =>
                refine pe_fn g h0 c hf h1 h2 (pa_wL hE h1) (fun e => by subst e; rfl) (pk_wK hE) fun pins σ H s I => acts_at g (fun A outer s H E scope f c' body hr => ?_) I
                exact (ih (good_lam g A outer s H E scope f c' hr)).1 body
              | none =>
                match es, kws, hb : bTab X.K x with
                | [], _, _ => exact pe_no
                | _ :: _, _ :: _, _ => exact pe_no
                | _ :: _, [], none => exact pe_no
                | e :: es, [], some r => exact pe_if_t fun hfr => pe_bi g h0 c hfr hb h1 (pa_wL hE h1)
            · rw [if_neg c]
              by_cases c2 : vis sc x = true
              · rw [if_pos c2]
                match es, kws, hb : slot Γ.N x with
                | [], [], some i =>
                  by_cases hk : lamRoom ≤ k
                  · exact pe_thunk g h0 c2 hb hk
                  · refine ⟨fun pins s σ H Q I hh => ?_⟩
                    obtain ⟨f, tl, e1, ac, ht⟩ := hh
                    exact absurd (g.aek ⟨f, tl, ac⟩) hk
                | [], [], none => exact pe_no
                | [], _ :: _, _ => exact pe_no
                | _ :: _, _, _ => exact pe_no
              · rw [if_neg c2]
                exact pe_no
          exact gen
        | Attribute o m apos =>
          cases kws with
          | nil =>
            refine pe_if_t fun h => ?_
            simp only [Bool.and_eq_true] at h
            exact pe_mtab (hE o) (pa_wL hE h.1.2) h.1.1 h.1.2 h.2
          | cons a b => exact pe_no
        | _ => exact pe_no
      | ListComp elt gs scope pos =>
        match gs with
        | [] => exact pe_no
        | c1 :: c2 :: r =>
          have no : wE X.K (n + 1) Γ sc W (.ListComp elt (c1 :: c2 :: r) scope pos) = tNo := by
            unfold wE
            split <;> first
              | rfl
              | (rename_i q; simp at q)
          rw [no]
          exact pe_no
        | [⟨tg, iter, ifs, a⟩] =>
          by_cases ha : a = 0
          · subst ha
            refine pe_if_t fun h => ?_
            obtain ⟨h1, h2⟩ := Bool.and_eq_true_iff.mp h
            have bk : BlkOk X.N X.env.scope scope (ownS Γ.N scope) := by
              rw [g.N, g.sc]
              exact blkOk_by h1
            have gb := fun s H C cl fp => good_blk g s H scope C cl fp
            refine pe_lc g.calm (by rw [g.N]; exact g.nd) (pi_w g hE tg iter) bk (fun s H C cl fp => ?_) (fun s H C cl fp => ?_) (fun s H C cl fp => (ih (gb s H C cl fp)).1 elt) (set_no (by simpa using h2) _)
            · have q := gb s H C cl fp
              exact pg_w q.calm (by have := q.units; omega) q.N q.sc q.nd (fun z => by cases z) (ih q).1 tg
            · match ifs with
              | [] => exact pts_nil
              | [c] => exact pts_one ((ih (gb s H C cl fp)).2 c)
              | _ :: _ :: _ => exact ⟨fun _ _ _ _ _ _ z => z.elim⟩
          · have no : wE X.K (n + 1) Γ sc W (.ListComp elt [⟨tg, iter, ifs, a⟩] scope pos) = tNo := by
              unfold wE
              split <;> first
                | rfl
                | (rename_i q; cases q; exact absurd rfl ha)
                | (rename_i q; simp at q)
            rw [no]
            exact pe_no
      | _ => exact pe_no
    refine ⟨main, fun e => ?_⟩
    have tru : ∀ e, plainTest e = true → PT X e (tTru X.K (wE X.K n Γ sc W e)) := fun e h => pt_truth (hE e) (tests_no h _)
    cases e with
    | BoolOp op vs p =>
      cases op with
      | And => exact (pw_and_l hT).pt
      | Or => exact (pw_or_l hT).pt
    | UnaryOp op a p =>
      cases op with
      | Not => exact pt_not (hT a)
      | _ => exact pt_no
    | Compare a ops bs p =>
      match ops, bs with
      | [op], [b] => exact pt_if_f fun h => pt_cmpR (ok_cmp hu op) (hE a) (hE b) (Bool.eq_false_iff.mpr h)
      | [op, op'], [b, c] => exact pt_if_f fun h => pt_chain (ok_cmp hu op) (ok_cmp hu op') (hE a) (hE b) (hE c) (Bool.eq_false_iff.mpr h)
      | [], _ => exact pt_no
      | [_], [] => exact pt_no
      | [_], _ :: _ :: _ => exact pt_no
      | [_, _], [] => exact pt_no
      | [_, _], [_] => exact pt_no
      | [_, _], _ :: _ :: _ :: _ => exact pt_no
      | _ :: _ :: _ :: _, _ => exact pt_no
    | Name => exact tru _ rfl
    | Call => exact tru _ rfl
    | Subscript => exact tru _ rfl
    | Attribute => exact tru _ rfl
    | BinOp => exact tru _ rfl
    | ListComp => exact tru _ rfl
    | Constant => exact tru _ rfl
    | _ => exact pt_no
end
end G

set_option Elab.async false
set_option linter.all false
set_option maxRecDepth 100000
set_option maxHeartbeats 8000000
namespace G
open PySem PySem.Spec PyProof.Rows L2 LamX
/-! ## statements -/
def isStarE (e : Expr) : Bool := match e with
  | .Starred .. => true
  | _ => false
def swS (sc : Scope) (ts vs : List Expr) : Option (Option (List Str)) :=
  if (!(ts.length == 2 || ts.length == 3) || vs.length != ts.length) = true then some none
  else if vs.any isStarE = true then some none
  else
    let line := (ts.head?.map (·.pos.line)).getD 0
    let names := ts.filterMap fun
      | .Name id pos => if (sc.names.lookup id == some .local && pos.line == line) = true then some id else none
      | _ => none
    if (names.length != ts.length || names.eraseDups.length != names.length) = true then some none
    else if vs.all (foldedForSure 8) = true then some none
    else if vs.all (constantsAlone 8) = true then none
    else some (some names)
theorem blockFn {env : Env} (hk : env.scope.kind = .function) : env.blockKind = .function := by
  unfold Env.blockKind
  rw [hk]
  rfl
theorem sw_eq {env : Env} {ts vs : List Expr} {k k2 : Nat} {p p2 : Pos} {r : Option (List Str)} (hk : env.scope.kind = .function) (h : swS env.scope ts vs = some r) : swappedStores [.Tuple ts k p] (.Tuple vs k2 p2) env = pure r := by
  have hb := blockFn hk
  unfold swappedStores
  simp only [hb]
  unfold swS at h
  by_cases c1 : (!(ts.length == 2 || ts.length == 3) || vs.length != ts.length) = true
  · rw [if_pos c1] at h
    cases h
    exact if_pos (by rw [c1]; rfl)
  · rw [if_neg c1] at h
    have f1 := Bool.eq_false_iff.mpr c1
    rw [if_neg (by rw [f1]; decide)]
    by_cases c2 : vs.any isStarE = true
    · rw [if_pos c2] at h
      cases h
      exact if_pos c2
    · rw [if_neg c2] at h
      refine (if_neg c2).trans ?_
      simp only at h
      split at h
      · rename_i c3
        cases h
        exact if_pos c3
      · rename_i c3
        refine (if_neg c3).trans ?_
        by_cases c4 : vs.all (foldedForSure 8) = true
        · rw [if_pos c4] at h
          cases h
          exact if_pos c4
        · rw [if_neg c4] at h
          refine (if_neg c4).trans ?_
          by_cases c5 : vs.all (constantsAlone 8) = true
          · rw [if_pos c5] at h
            cases h
          · rw [if_neg c5] at h
            cases h
            exact (if_neg c5).trans rfl
/-- a comprehension that is stored at a local on its own line takes another road -/
def swC (sc scope : Scope) (x : Str) (px pe : Pos) : Bool :=
  sc.names.lookup x == some .local && px.line == pe.line && !(scope.names.any fun (n, k) => n == x && (k == .local || k == .cell))
theorem swC_eq {env : Env} {elt : Expr} {gs : List Comprehension} {scope : Scope} {pos px : Pos} {x : Str} {l : Nat} (hk : env.scope.kind = .function) :
    swapsWith (.ListComp elt gs scope pos) (some (.Name x px)) l env = pure (swC env.scope scope x px pos) := by
  have hb := blockFn hk
  unfold swapsWith swC
  simp only [hb]
  rfl
def okAsg (e : Expr) : Bool := match e with
  | .SetComp .. => false
  | .DictComp .. => false
  | _ => true
def wSL (f : Stmt → TS) : List Stmt → TS
  | [] => tNext
  | [s] => f s
  | s :: r => tSeq (f s) (wSL f r)
/-- what stands in an except suite -/
def wSu (N : List Str) (sc : Scope) : List Stmt → TS
  | [.Assign [.Name y _] (.Name z _) _] => if !oddName z && loc sc y && vis sc z then (match slot N y, slot N z with
    | some j, some l => tAsg (tVar l) (gName j)
    | _, _ => tNoS) else tNoS
  | [.Assign [.Name y _] (.Constant .none _ _) _] => if loc sc y then (match slot N y with
    | some j => tAsg (tC .non) (gName j)
    | none => tNoS) else tNoS
  | [.Return (some (.Constant .none _ _)) _] => tRet (tC .non)
  | [.Return (some (.Constant (.bool b) _ _)) _] => tRet (tC (.bl b))
  | [.Return none _] => tRetN
  | _ => tNoS
def wS (K : PySem.W.Frag) : Nat → Gam → Scope → WX → Stmt → TS
  | 0, _, _, _, _ => tNoS
  | n + 1, Γ, sc, W, st => match st with
    | .Pass _ => tNext
    | .Break _ => tBreak
    | .Continue _ => tCont
    | .Return none _ => tRetN
    | .Return (some e) _ => tRet (wE K n Γ sc W e)
    | .Expr e _ => if isComp e then tNoS else tDrop (wE K n Γ sc W e)
    | .Assign [.Name x _] e _ => if okAsg e && loc sc x then (match slot Γ.N x with
      | some i => tAsg (wE K n Γ sc W e) (gName i)
      | none => tNoS) else tNoS
    | .Assign [.Tuple ts _ _] (.Tuple vs kk p2) _ => (match swS sc ts vs with
      | some (some _) => (match ts, vs with
        | [.Name x _, .Name y _], [a, b] => (match slot Γ.N x, slot Γ.N y with
          | some i, some j => if i ≠ j ∧ sc.names.lookup x = some .local ∧ sc.names.lookup y = some .local ∧ swS sc ts vs = some (some [x, y]) ∧ noStar [a, b] = true then tPar i j (wL (wE K n Γ sc W) [a, b]) else tNoS
          | _, _ => tNoS)
        | [.Name x _, .Name y _, .Name z _], [a, b, c] => (match slot Γ.N x, slot Γ.N y, slot Γ.N z with
          | some i, some j, some l => if i ≠ j ∧ i ≠ l ∧ j ≠ l ∧ sc.names.lookup x = some .local ∧ sc.names.lookup y = some .local ∧ sc.names.lookup z = some .local ∧ swS sc ts vs = some (some [x, y, z]) ∧ noStar [a, b, c] = true then
              tPar3 i j l (wL (wE K n Γ sc W) [a, b, c]) else tNoS
          | _, _, _ => tNoS)
        | _, _ => tNoS)
      | some none => tAsg (wE K n Γ sc W (.Tuple vs kk p2)) (wG K Γ sc true (wE K n Γ sc W) (.Tuple ts 0 p2))
      | none => tNoS)
    | .Assign [.Tuple ts k p] e _ => if isComp e then tNoS else tAsg (wE K n Γ sc W e) (wG K Γ sc true (wE K n Γ sc W) (.Tuple ts k p))
    | .Assign [.Subscript o i p] e _ => tAsg (wE K n Γ sc W e) (wG K Γ sc true (wE K n Γ sc W) (.Subscript o i p))
    | .AugAssign (.Name x _) op e _ => if loc sc x then (match slot Γ.N x with
      | some i => tAug i (wE K n Γ sc W e) (rAug K op)
      | none => tNoS) else tNoS
    | .If c a b _ => tIfS (wT K n Γ sc W c) (wSL (wS K n Γ sc W) a) (wSL (wS K n Γ sc W) b)
    | .While c b [] _ => tWhile (wT K n Γ sc W c) (wSL (wS K n Γ sc W) b)
    | .For tg iter b [] _ => if isSetD iter then tNoS else tFor (wI K Γ sc (wE K n Γ sc W) tg iter) (wG K Γ sc true (wE K n Γ sc W) tg) (wSL (wS K n Γ sc W) b)
    | .Raise (some (.Call (.Name x _) [.Constant (.str _) _ _] [] _)) none _ => if oddName x then tNoS else if glb sc x then (match Γ.exc x with
      | some C => tRaise0 C W
      | none => tNoS) else tNoS
    | .Try body [.ExceptHandler (some (.Name x _)) (some nm) (b₀ :: suite) _] [] [] _ => if oddName x then tNoS else if glb sc x && decide (sc.names.lookup nm = some .local) then (match Γ.exc x, slot Γ.N nm with
      | some C, some i => fun D σ H => wSL (wS K n Γ sc (wKeep K (.ref C) i (wSu Γ.N sc (b₀ :: suite)) W D)) body D σ H
      | _, _ => tNoS) else tNoS
    | _ => tNoS
structure GoodS (k : Nat) (Γ : Gam) (sc : Scope) (W : WX) (X : Cx) : Prop extends Good k Γ sc W X where
  hs : X.stack = X.env :: X.outer
  hf : X.env.frame = some X.env.locals
  fnok : ∀ x, X.fn x = true
section
variable {X : Cx} {k : Nat} {Γ : Gam} {sc : Scope} {W : WX}
theorem ps_if_f {e : Stmt} {c : Prop} [Decidable c] {t : TS} (h : ¬ c → PS X e t) : PS X e (if c then tNoS else t) := by
  by_cases q : c
  · rw [if_pos q]
    exact ps_no
  · rw [if_neg q]
    exact h q
theorem ps_if_t {e : Stmt} {c : Prop} [Decidable c] {t : TS} (h : c → PS X e t) : PS X e (if c then t else tNoS) := by
  by_cases q : c
  · rw [if_pos q]
    exact h q
  · rw [if_neg q]
    exact ps_no
theorem pss_w {f : Stmt → TS} (hf : ∀ s, PS X s (f s)) : ∀ {b : List Stmt}, PSs X b (wSL f b)
  | [] => pss_nil
  | [s] => pss_one (hf s)
  | s :: t :: r => pss_cons (hf s) (pss_w hf (b := t :: r))
theorem GoodS.try_ (g : GoodS k Γ sc W X) {W' : WX} {pn : List (Addr × Obj)} {xe : Value → Shared → Prop} (tk : Takes (X.tr pn xe) W') (hp : PassesOwn (model X.prog X.w) X.A X.env xe) : GoodS k Γ sc W' (X.tr pn xe) where
  calm := g.calm
  sc := g.sc
  N := g.N
  nd := g.nd
  room := g.room
  fn := g.fn
  gv := g.gv
  free := g.free
  exc := g.exc
  act := g.act
  aex := g.aex
  aek := g.aek
  pass := hp
  takes := tk
  lam := g.lam
  hs := g.hs
  hf := g.hf
  fnok := g.fnok
theorem pss_su (g : GoodS k Γ sc W X) (a : Addr) (pn : List (Addr × Obj)) (b : List Stmt) : PSs (X.suite a pn) b (wSu Γ.N sc b) := by
  have no : ∀ {b : List Stmt}, PSs (X.suite a pn) b tNoS := ⟨fun _ _ _ _ _ _ z => z.elim⟩
  have nd : X.N.Nodup := by
    rw [g.N]
    exact g.nd
  have at_ : ∀ {x : Str} {i : Nat}, slot Γ.N x = some i → X.N[i]? = some x := fun h => by
    rw [g.N]
    exact slot_ok h
  unfold wSu
  split
  · split
    · rename_i c
      simp only [Bool.and_eq_true, Bool.not_eq_true'] at c
      obtain ⟨⟨c0, c1⟩, c2⟩ := c
      obtain ⟨o1, o2, o3⟩ := oddName_no c0
      split
      · rename_i h1 h2
        exact pss_one (ps_set (X := X.suite a pn) nd (at_ h1) (by show Loc X.env.scope _; rw [g.sc]; exact loc_ok c1) (pe_var (X := X.suite a pn) (at_ h2) (by show Vis X.env.scope _; rw [g.sc]; exact vis_ok c2) o1 o2) rfl (.inl (g.fnok _)))
      · exact no
    · exact no
  · split
    · rename_i c
      split
      · rename_i h1
        exact pss_one (ps_set (X := X.suite a pn) nd (at_ h1) (by show Loc X.env.scope _; rw [g.sc]; exact loc_ok c) pe_non rfl (.inl (g.fnok _)))
      · exact no
    · exact no
  · exact pss_one (ps_ret pe_non)
  · exact pss_one (ps_ret pe_bl)
  · exact pss_one ps_retN
  · exact no
end
end G

set_option Elab.async false
set_option linter.all false
set_option maxRecDepth 100000
set_option maxHeartbeats 8000000
namespace G
open PySem PySem.Spec PyProof.Rows L2 LamX
section
variable {X : Cx} {k : Nat} {Γ : Gam} {sc : Scope} {W : WX}
theorem no_swap {e : Expr} (h : isComp e = false) {t : Option Expr} {l : Nat} {env : Env} : swapsWith e t l env = pure false := by
  unfold isComp at h
  cases e <;> first
    | rfl
    | cases h
theorem ps_dead {st : Stmt} {t : TS} (h : ∀ D σ H, ¬ t D σ H) : PS X st t := ⟨fun _ _ _ _ _ _ z => (h _ _ _ z).elim⟩
/-- name = e -/
theorem ps_name (n : Nat) (g : GoodS k Γ sc W X) {x : Str} {px pos : Pos} {e : Expr} {i : Nat} (hok : okAsg e = true) (hl : loc sc x = true) (hi : slot Γ.N x = some i) :
    PS X (.Assign [.Name x px] e pos) (tAsg (wE X.K n Γ sc W e) (gName i)) := by
  have nd : X.N.Nodup := by
    rw [g.N]
    exact g.nd
  have hN : X.N[i]? = some x := by
    rw [g.N]
    exact slot_ok hi
  have hL : Loc X.env.scope x := by
    rw [g.sc]
    exact loc_ok hl
  have hE := (snd n g.toGood).1 e
  by_cases hc : isComp e = true
  · cases e with
    | ListComp elt gs scope p =>
      by_cases hs : swC sc scope x px p = true
      · have hs2 : sc.names.lookup x = some .local := by
          unfold swC at hs
          simp only [Bool.and_eq_true, beq_iff_eq] at hs
          exact hs.1.1
        cases n with
        | zero => exact ps_dead fun D σ H z => z
        | succ n =>
          have hE2 := (snd n g.toGood).1
          match gs with
          | [] => exact ps_dead fun D σ H z => z
          | c1 :: c2 :: r =>
            have no : wE X.K (n + 1) Γ sc W (.ListComp elt (c1 :: c2 :: r) scope p) = tNo := by
              unfold wE
              split <;> first
                | rfl
                | (rename_i q; simp at q)
            rw [no]
            exact ps_dead fun D σ H z => z
          | [⟨tg, iter, ifs, a⟩] =>
            by_cases ha : a = 0
            · subst ha
              show PS X _ (tAsg (if _ then _ else tNo) _)
              by_cases h : (blkC Γ.N sc scope (ownS Γ.N scope) && !isSetD iter) = true
              · rw [if_pos h]
                obtain ⟨h1, h2⟩ := Bool.and_eq_true_iff.mp h
                have bk : BlkOk X.N X.env.scope scope (ownS Γ.N scope) := by
                  rw [g.N, g.sc]
                  exact blkOk_by h1
                have gb := fun s H C cl fp => good_blk g.toGood s H scope C cl fp
                have sw : ∀ l, X.env.scope.kind = .function → swapsWith (.ListComp elt [⟨tg, iter, ifs, 0⟩] scope p) (some (.Name x px)) l X.env = pure true := fun l hk => by
                  rw [swC_eq hk, g.sc, hs]
                refine ⟨fun pins s σ H D I hh => ?_⟩
                refine (ps_setLc g.calm nd hN (by rw [g.sc]; exact hs2) (sw _ I.ok.kind) (pi_w g.toGood hE2 tg iter) bk (fun s H C cl fp => ?_) (fun s H C cl fp => ?_) (fun s H C cl fp => (snd n (gb s H C cl fp)).1 elt) (set_no (by simpa using h2) _)).run pins s σ H D I hh
                · have q := gb s H C cl fp
                  exact pg_w q.calm (by have := q.units; omega) q.N q.sc q.nd (fun z => by cases z) (snd n q).1 tg
                · match ifs with
                  | [] => exact pts_nil
                  | [c] => exact pts_one ((snd n (gb s H C cl fp)).2 c)
                  | _ :: _ :: _ => exact ⟨fun _ _ _ _ _ _ z => z.elim⟩
              · rw [if_neg h]
                exact ps_dead fun D σ H z => z
            · have no : wE X.K (n + 1) Γ sc W (.ListComp elt [⟨tg, iter, ifs, a⟩] scope p) = tNo := by
                unfold wE
                split <;> first
                  | rfl
                  | (rename_i q; cases q; exact absurd rfl ha)
                  | (rename_i q; simp at q)
              rw [no]
              exact ps_dead fun D σ H z => z
      · refine ⟨fun pins s σ H D I hh => ?_⟩
        exact (ps_set nd hN hL hE (by rw [swC_eq I.ok.kind, g.sc, Bool.eq_false_iff.mpr hs]) (.inl (g.fnok x))).run pins s σ H D I hh
    | SetComp => cases hok
    | DictComp => cases hok
    | _ => cases hc
  · exact ps_set nd hN hL hE (no_swap (Bool.eq_false_iff.mpr hc)) (.inl (g.fnok x))
theorem no_sole {e : Expr} {t : Expr} (h : (match t with | .Name .. => isComp e | _ => false) = false) {l : Nat} {env : Env} : swapsWithSole [t] e l env = pure false := by
  show swapsWith e (some t) l env = pure false
  by_cases hc : isComp e = true
  · cases t <;> first
      | (cases e <;> rfl)
      | (have h2 : isComp e = false := h
         rw [hc] at h2
         cases h2)
  · exact no_swap (Bool.eq_false_iff.mpr hc)
theorem sndS (n : Nat) : ∀ {X : Cx} {k : Nat} {Γ : Gam} {sc : Scope} {W : WX}, GoodS k Γ sc W X → ∀ st, PS X st (wS X.K n Γ sc W st) := by
  induction n with
  | zero => exact fun _ _ => ps_no
  | succ n ih =>
    intro X k Γ sc W g
    obtain ⟨hE, hT⟩ := snd n g.toGood
    have hS := ih g
    have hu := g.units
    have hu1 : X.A.units + 1 < cLine := by omega
    have nd : X.N.Nodup := by
      rw [g.N]
      exact g.nd
    have hG : ∀ tg, PG X tg (wG X.K Γ sc true (wE X.K n Γ sc W) tg) := pg_w g.calm hu1 g.N g.sc g.nd (fun _ => g.fnok) hE
    have at_ : ∀ {x : Str} {i : Nat}, slot Γ.N x = some i → X.N[i]? = some x := fun h => by
      rw [g.N]
      exact slot_ok h
    intro st
    cases st with
    | Pass p => exact ps_pass
    | Break p => exact ps_break
    | Continue p => exact ps_continue
    | Return v p =>
      cases v with
      | none => exact ps_retN
      | some e => exact ps_ret (hE e)
    | Expr e p => exact ps_if_f fun h => ps_expr (hE e) (no_swap (Bool.eq_false_iff.mpr h))
    | Assign ts e p =>
      match ts with
      | [] => exact ps_no
      | [tg] =>
        cases tg with
        | Name x px =>
          refine ps_if_t fun h => ?_
          obtain ⟨h1, h2⟩ := Bool.and_eq_true_iff.mp h
          cases hi : slot Γ.N x with
          | none => exact ps_no
          | some i => exact ps_name n g h1 h2 hi
        | Subscript o i q => exact ps_asg (hE e) (hG _) (no_sole rfl) (by cases e <;> rfl) rfl
        | Tuple ts kk q =>
          by_cases ht : ∃ vs k2 p2, e = .Tuple vs k2 p2
          · obtain ⟨vs, k2, p2, rfl⟩ := ht
            show PS X _ (match swS sc ts vs with
              | some (some _) => (match ts, vs with
                | [.Name x _, .Name y _], [a, b] => (match slot Γ.N x, slot Γ.N y with
                  | some i, some j => if i ≠ j ∧ sc.names.lookup x = some .local ∧ sc.names.lookup y = some .local ∧ swS sc ts vs = some (some [x, y]) ∧ noStar [a, b] = true then tPar i j (wL (wE X.K n Γ sc W) [a, b]) else tNoS
                  | _, _ => tNoS)
                | [.Name x _, .Name y _, .Name z _], [a, b, c] => (match slot Γ.N x, slot Γ.N y, slot Γ.N z with
                  | some i, some j, some l => if i ≠ j ∧ i ≠ l ∧ j ≠ l ∧ sc.names.lookup x = some .local ∧ sc.names.lookup y = some .local ∧ sc.names.lookup z = some .local ∧ swS sc ts vs = some (some [x, y, z]) ∧ noStar [a, b, c] = true then
                      tPar3 i j l (wL (wE X.K n Γ sc W) [a, b, c]) else tNoS
                  | _, _, _ => tNoS)
                | _, _ => tNoS)
              | some none => tAsg (wE X.K n Γ sc W (.Tuple vs k2 p2)) (wG X.K Γ sc true (wE X.K n Γ sc W) (.Tuple ts 0 p2))
              | none => tNoS)
            split
            · split
              · split
                · rename_i x px y py a b i j h1 h2 _ _
                  refine ps_if_t fun c => ?_
                  obtain ⟨c1, c2, c3, c4, c5⟩ := c
                  refine ⟨fun pins s σ H D I hh => ?_⟩
                  refine (ps_par g.calm nd (at_ (by assumption)) (at_ (by assumption)) c1 (by rw [g.sc]; exact c2) (by rw [g.sc]; exact c3) (pa_wL hE c5) (sw_eq I.ok.kind (by rw [g.sc]; exact c4)) rfl).run pins s σ H D I hh
                · exact ps_no
              · split
                · refine ps_if_t fun c => ?_
                  obtain ⟨c1, c2, c3, c4, c5, c6, c7, c8⟩ := c
                  refine ⟨fun pins s σ H D I hh => ?_⟩
                  refine (ps_par3 g.calm nd (at_ (by assumption)) (at_ (by assumption)) (at_ (by assumption)) c1 c2 c3 (by rw [g.sc]; exact c4) (by rw [g.sc]; exact c5) (by rw [g.sc]; exact c6) (pa_wL hE c8) (sw_eq I.ok.kind (by rw [g.sc]; exact c7)) rfl).run pins s σ H D I hh
                · exact ps_no
              · exact ps_no
            · rename_i hw
              refine ⟨fun pins s σ H D I hh => ?_⟩
              exact (ps_asg (tg := .Tuple ts kk q) (g := wG X.K Γ sc true (wE X.K n Γ sc W) (.Tuple ts kk q)) (hE (.Tuple vs k2 p2)) (hG _) (no_sole rfl) (sw_eq I.ok.kind (by rw [g.sc]; exact hw)) rfl).run pins s σ H D I hh
            · exact ps_no
          · have q1 : wS X.K (n + 1) Γ sc W (.Assign [.Tuple ts kk q] e p) = (if isComp e = true then tNoS else tAsg (wE X.K n Γ sc W e) (wG X.K Γ sc true (wE X.K n Γ sc W) (.Tuple ts kk q))) := by
              cases e <;> first
                | rfl
                | exact absurd ⟨_, _, _, rfl⟩ ht
            rw [q1]
            refine ps_if_f fun h => ps_asg (hE e) (hG _) (no_sole rfl) ?_ rfl
            cases e <;> first
              | rfl
              | exact absurd ⟨_, _, _, rfl⟩ ht
        | _ => exact ps_no
      | t1 :: t2 :: r =>
        have q1 : wS X.K (n + 1) Γ sc W (.Assign (t1 :: t2 :: r) e p) = tNoS := by
          unfold wS
          split <;> first
            | rfl
            | (rename_i q; cases q)
        rw [q1]
        exact ps_no
    | AugAssign tg op e p =>
      cases tg with
      | Name x px =>
        refine ps_if_t fun h => ?_
        cases hi : slot Γ.N x with
        | none => exact ps_no
        | some i => exact ps_aug nd (at_ hi) (by rw [g.sc]; exact loc_ok h) (hE e) (ok_aug op) (.inl (g.fnok x))
      | _ => exact ps_no
    | If c a b p => exact ps_if (hT c) (pss_w hS) (pss_w hS)
    | While c b o p =>
      cases o with
      | nil => exact ps_while g.pass (hT c) (pss_w hS)
      | cons => exact ps_no
    | For tg iter b o p =>
      cases o with
      | nil => exact ps_if_f fun h => ps_for g.pass g.calm (pi_w g.toGood hE tg iter) (hG tg) (pss_w hS) (set_no (Bool.eq_false_iff.mpr h) _)
      | cons => exact ps_no
    | Raise ex cause p =>
      by_cases hr : ∃ x px m j p2 p3, ex = some (.Call (.Name x px) [.Constant (.str m) j p2] [] p3) ∧ cause = none
      · obtain ⟨x, px, m, j, p2, p3, rfl, rfl⟩ := hr
        refine ps_if_f fun h0 => ps_if_t fun h1 => ?_
        cases he : Γ.exc x with
        | none => exact ps_no
        | some C => exact ps_raise0 g.toGood (Bool.eq_false_iff.mpr h0) h1 he
      · have q1 : wS X.K (n + 1) Γ sc W (.Raise ex cause p) = tNoS := by
          unfold wS
          split <;> first
            | rfl
            | (rename_i q; cases q; exact absurd ⟨_, _, _, _, _, _, rfl, rfl⟩ hr)
            | (rename_i q; cases q)
        rw [q1]
        exact ps_no
    | Try body hs orelse fin p =>
      by_cases hr : ∃ x px nm b₀ suite p2, hs = [.ExceptHandler (some (.Name x px)) (some nm) (b₀ :: suite) p2] ∧ orelse = [] ∧ fin = []
      · obtain ⟨x, px, nm, b₀, suite, p2, rfl, rfl, rfl⟩ := hr
        refine ps_if_f fun h0 => ps_if_t fun h1 => ?_
        obtain ⟨h2, h3⟩ := Bool.and_eq_true_iff.mp h1
        have o1 := (oddName_no (Bool.eq_false_iff.mpr h0)).1
        cases he : Γ.exc x with
        | none => exact ps_no
        | some C =>
          cases hi : slot Γ.N nm with
          | none => exact ps_no
          | some i =>
            refine ps_tryK (tb := fun W => wSL (wS X.K n Γ sc W) body) g.hs g.hf nd (at_ hi) (by show X.env.scope.names.lookup nm = _; rw [g.sc]; exact of_decide_eq_true h3) ⟨gl_of g.toGood h2, o1, .inl (g.exc x C he).1⟩ g.takes
              (fun W' pn xe tk hp => ?_) (fun a pn => pss_su g a pn _)
            exact pss_w (ih (g.try_ tk hp))
      · have q1 : wS X.K (n + 1) Γ sc W (.Try body hs orelse fin p) = tNoS := by
          unfold wS
          split <;> first
            | rfl
            | (rename_i q; cases q; exact absurd ⟨_, _, _, _, _, _, rfl, rfl, rfl⟩ hr)
            | (rename_i q; cases q)
        rw [q1]
        exact ps_no
    | _ => exact ps_no
end
end G

set_option Elab.async false
set_option linter.all false
set_option maxRecDepth 100000
set_option maxHeartbeats 8000000
namespace G
open PySem PySem.Spec PyProof.Rows L2 LamX
/-! ## the law's own call -/
section
variable {P : Program} {w : World} {K : PySem.W.Frag} {mg mb : Str → Option Value} {k : Nat} {fa a : Addr} {tt : List (Addr × Addr)} {S : SpG} {s0 : Shared} {us : List Value} {zs : List Int}
theorem law_run (KX : K.In s0.heap) (gl : s0.heap.Ns mainGlobals mg) (bi : s0.heap.Ns builtinsNs mb) (bb : ∀ x : Str, x ≠ "__name__" → mb x = bootBuiltins x) (lim : s0.heap.NoLimit) (ng : s0.gens = #[])
    (tE : ∀ p ∈ tt, s0.heap.get? p.2 = some { cls := .none, data := .fields #[] }) (tK : ∀ p ∈ tt, K.lookup p.2 = none) (tC : ∀ p ∈ tt, PySem.W.CodeHd s0.heap p.1 p.2)
    (bm : ∃ (b : Addr) (ob : Obj), mg "__builtins__" = some (.ref b) ∧ b ≠ builtinsNs ∧ s0.heap.get? b = some ob ∧ ob.cls = .type "module" ∧ ob.dict = some builtinsNs ∧ ob.data = .plain)
    (ha : s0.heap.get? a = some { cls := .type "list", data := .seq us.toArray }) (hi : IntsAre us zs) (hl : zs.length ≤ sizeLine) (hr : RoomG k callerA)
    (F : ∀ base : Heap, K.In base → base.Ns mainGlobals mg → (∀ p ∈ tt, TabB base mg p.1 p.2) → FnS P w K mg base k fa 1 [] S)
    (hS : ∀ H : Hp, (∀ p ∈ tt, H p.2 = some (.tbl #[])) → SqL K H a (zs.map V.int) → S (fun _ _ => False) [.ref a] [] H (fun v _ => v = .bl true) fun _ _ _ => False) :
    codeAny (model P w) callerA (.call (.ref fa) ⟨[.ref a], []⟩) (fun r s' => r = .ok (.ret (.bool true)) ∧ OldK s0.heap s'.heap ∧ s'.os = s0.os ∧ AllBare s'.gens) s0 := by
  have rel := vals_ints hi
  have lenU := hi.length
  obtain ⟨T, eT⟩ : ∃ T : List Addr, T = tt.map (·.2) := ⟨_, rfl⟩
  have inT : ∀ p ∈ tt, p.2 ∈ T := fun p hp => by
    rw [eT]
    exact List.mem_map.mpr ⟨p, hp, rfl⟩
  have ofT : ∀ b ∈ T, ∃ p ∈ tt, p.2 = b := fun b hb => by
    rw [eT] at hb
    obtain ⟨p, hp, e⟩ := List.mem_map.mp hb
    exact ⟨p, hp, e⟩
  have atT : ∀ b ∈ T, s0.heap.get? b = some { cls := .none, data := .fields #[] } := fun b hb => by
    obtain ⟨p, hp, e⟩ := ofT b hb
    rw [← e]
    exact tE p hp
  have aT : a ∉ T := fun z => by
    have q := (atT a z).symm.trans ha
    cases q
  obtain ⟨HH, eH⟩ : ∃ HH : Hp, HH = fun b => if b ∈ T then some (.tbl #[]) else if b = a ∧ K.lookup a = none then some (.frz { cls := .type "list", data := .seq us.toArray } (.lst (zs.map V.int))) else none := ⟨_, rfl⟩
  have two : ∀ b u, HH b = some u → (b ∈ T ∧ u = .tbl #[]) ∨ (b = a ∧ K.lookup a = none ∧ u = .frz { cls := .type "list", data := .seq us.toArray } (.lst (zs.map V.int))) := fun b u e => by
    rw [eH] at e
    by_cases c : b ∈ T
    · have e2 := (if_pos c).symm.trans e
      exact .inl ⟨c, (Option.some.inj e2).symm⟩
    · have e2 := (if_neg c).symm.trans e
      by_cases c2 : b = a ∧ K.lookup a = none
      · have e3 := (if_pos c2).symm.trans e2
        exact .inr ⟨c2.1, c2.2, (Option.some.inj e3).symm⟩
      · have e3 := (if_neg c2).symm.trans e2
        cases e3
  have tabs : ∀ p ∈ tt, HH p.2 = some (.tbl #[]) := fun p hp => by
    rw [eH]
    exact if_pos (inT p hp)
  have none_of : ∀ b o, s0.heap.get? b = some o → o.data ≠ .fields #[] → (∀ v m, o.data ≠ .seq v m) → HH b = none := fun b o e h1 h2 => by
    cases q : HH b with
    | none => rfl
    | some u =>
      rcases two b u q with ⟨c, _⟩ | ⟨c, _, _⟩
      · rw [atT b c] at e
        cases e
        exact absurd rfl h1
      · rw [c, ha] at e
        cases e
        exact absurd rfl (h2 _ _)
  have kfree : ∀ b o, K.lookup b = some o → HH b = none := fun b o e => by
    cases q : HH b with
    | none => rfl
    | some u =>
      rcases two b u q with ⟨c, _⟩ | ⟨c, c2, _⟩
      · obtain ⟨p, hp, ep⟩ := ofT b c
        rw [← ep, tK p hp] at e
        cases e
      · rw [c, c2] at e
        cases e
  have hok : HOk P w HH s0.heap := fun b u e => by
    rcases two b u e with ⟨c, rfl⟩ | ⟨rfl, c2, rfl⟩
    · exact atT b c
    · exact ⟨ha, by rw [List.length_map]; exact hl, us, _, rel, ha⟩
  have seq : SqL K HH a (zs.map V.int) := by
    cases hk : K.lookup a with
    | none => exact .inl (.inr ⟨{ cls := .type "list", data := .seq us.toArray }, by rw [eH]; exact (if_neg aT).trans (if_pos ⟨rfl, hk⟩)⟩)
    | some o =>
      have e := KX a o hk
      rw [ha] at e
      cases e
      exact .inr ⟨_, us.toArray, _, hk, rfl, rfl, rfl, by rw [List.size_toArray, lenU]; exact hl, by simpa using rel⟩
  have hid : ∀ b o, s0.heap.get? b = some o → HH b = none → (hidT s0.heap HH).get? b = some o := fun b o e n => hidT_get e n
  have nsH : ∀ b m, s0.heap.Ns b m → (hidT s0.heap HH).Ns b m := fun b m ⟨o, es, ep, e, d, r⟩ => by
    refine ⟨o, es, ep, hid b o e (none_of b o e (fun z => ?_) fun v m z => ?_), d, r⟩
    · rw [d] at z
      cases z
    · rw [d] at z
      cases z
  have KB : K.In (hidT s0.heap HH) := fun b o e => hid b o (KX b o e) (kfree b o e)
  have md : L2.Mod K mg (hidT s0.heap HH) := ⟨KB, nsH _ _ gl, ⟨mb, nsH _ _ bi, bb⟩, let ⟨mc, h1, h2⟩ := lim; ⟨mc, nsH _ _ h1, h2⟩⟩
  have tB : ∀ p ∈ tt, TabB (hidT s0.heap HH) mg p.1 p.2 := fun p hp => by
    refine ⟨?_, ?_, fun z => ?_⟩
    · obtain ⟨o, vs, file, tf, flags, tg, inF, text, tk, e1, r1, r2, r3, r4, r5, r6, r7, r8, hne⟩ := tC p hp
      refine ⟨o, vs, file, tf, flags, tg, inF, text, tk, hid _ o e1 (none_of _ o e1 (fun z => ?_) fun v m z => ?_), r1, r2, r3, r4, r5, r6, r7, r8, hne⟩
      · rw [r2] at z
        cases z
        simp at r3
      · rw [r2] at z
        cases z
    · obtain ⟨b, ob, b1, b2, b3, b4, b5, b6⟩ := bm
      refine ⟨b, ob, b1, b2, fun q => ?_, fun q => ?_, hid b ob b3 (none_of b ob b3 (fun z => ?_) fun v m z => ?_), b4, b5, b6⟩
      · obtain ⟨o, es, ep, e, hd, _⟩ := gl
        rw [q, e] at b3
        cases b3
        rw [hd] at b6
        cases b6
      · rw [q, tE p hp] at b3
        cases b3
        cases b6
      · rw [b6] at z
        cases z
      · rw [b6] at z
        cases z
    · obtain ⟨o, es, ep, e, hd, _⟩ := gl
      rw [z, tE p hp] at e
      cases e
      cases hd
  have e0 : Env0 P w K mg (hidT s0.heap HH) callerA [] s0 HH :=
    ⟨rfl, md, fun b o e => of_hidT e, Nat.le_of_eq (hidT_size _ _), trivial, fun b hb => absurd (show b ∈ ([] : List Addr) from hb) (by simp), hok, .of_eq ng⟩
  have run := F _ KB (nsH _ _ gl) tB callerA [] s0 HH [.ref a] [] [.ref a] [] _ _ (fun _ _ => False) hr e0 (.cons rfl .nil) .nil rfl rfl (fun _ _ z => z.elim) (hS HH tabs seq)
  refine codeAny_mono run fun r s' h => ?_
  cases r with
  | error e =>
    obtain ⟨_, _, _, _, _, _, _, _, _, _, _, _, z⟩ := h
    exact z.elim
  | ok fl =>
    cases fl with
    | next => exact False.elim h
    | brk => exact False.elim h
    | cont => exact False.elim h
    | ret u =>
      obtain ⟨v, H2, os, bare, un, hok2, rv, q⟩ := h
      have q2 : v = .bl true := q
      subst q2
      obtain rfl : u = Value.bool true := rv
      have old : ∀ b o, b ∉ T → s0.heap.get? b = some o → s'.heap.get? b = some o := fun b o nb e => by
        cases q : HH b with
        | none => exact un.keep b o e q (fun z => nomatch (show b ∈ ([] : List Addr) from z)) (fun z => nomatch z)
        | some u =>
          rcases two b u q with ⟨c, _⟩ | ⟨c, _, rfl⟩
          · exact absurd c nb
          · have z2 := (hok2 b _ (un.frzs b _ _ q)).1
            rw [c, ha] at e
            cases e
            exact z2
      have more : ∀ b ∈ T, ∃ ps : Array Value, s'.heap.get? b = some { cls := .none, data := .fields ps } := fun b hb => by
        obtain ⟨p, hp, ep⟩ := ofT b hb
        obtain ⟨m, z⟩ := un.tbls p.2 #[] (tabs p hp)
        rw [← ep]
        exact ⟨_, hok2 p.2 _ z⟩
      refine ⟨rfl, ⟨fun b o e => ?_, fun b o e => ?_⟩, os, bare⟩
      · by_cases hb : b ∈ T
        · obtain ⟨ps, hm⟩ := more b hb
          obtain ⟨p, hp, ep⟩ := ofT b hb
          rw [atT b hb] at e
          cases e
          rw [← ep] at hm ⊢
          exact .inr (.inl ⟨((tC p hp).tab (tE p hp)).isCodeTable, rfl, #[], ps, rfl, by rw [Array.empty_append]; exact hm⟩)
        · exact .inl (old b o hb e)
      · by_cases hb : b ∈ T
        · obtain ⟨ps, hm⟩ := more b hb
          exact ⟨_, hm⟩
        · exact ⟨o, old b o hb e⟩
end
/-- what the head must give of a law -/
def LawG (l : PySem.W.OpenLaw) (w : World) (K : PySem.W.Frag) (k n : Nat) (mg : Str → Option Value) (fa : Addr) (h : Heap) : Prop :=
  ∃ (tt : List (Addr × Addr)) (S : SpG), (∀ p ∈ tt, h.get? p.2 = some { cls := .none, data := .fields #[] }) ∧ (∀ p ∈ tt, K.lookup p.2 = none) ∧ (∀ p ∈ tt, PySem.W.CodeHd h p.1 p.2) ∧
    (∀ (H : Hp) (a : Addr) (zs : List Int), zs.length ≤ n → (∀ z ∈ zs, Builtin.Int.intBits z ≤ 1048576) → (∀ p ∈ tt, H p.2 = some (.tbl #[])) → SqL K H a (zs.map V.int) →
      S (fun _ _ => False) [.ref a] [] H (fun v _ => v = .bl true) fun _ _ _ => False) ∧
    ∀ base : Heap, K.In base → base.Ns mainGlobals mg → (∀ p ∈ tt, TabB base mg p.1 p.2) → FnS l.prog w K mg base k fa 1 [] S
theorem law_end {l : PySem.W.OpenLaw} {n k : Nat} {q : Program} {loose : List Str} {XP : (Str → Option Value) → Heap → Prop} {YP : World → Heap → Prop} {d : DefRec} (hn : l.most = some n) (hn2 : n ≤ sizeLine) (hdf : d.params.defaults = []) (hr : RoomG k callerA)
    (F : ∀ (w : World) (mg : Str → Option Value) (fa : Addr) (h : Heap), YP w h → h.Ns mainGlobals mg → mg d.name = some (.ref fa) → ∃ K : PySem.W.Frag, K.In h ∧ LawG l w K k n mg fa h) :
    PySem.W.WalkO q loose XP YP l.row.toRowW d [] (fun f vs => PySem.call f vs) := by
  refine Att.attach_callB hn hdf fun w s₀ s1 mg mb fa o pm cd doc a us zs Gr Y ho hd hcd hmg hobj hints hlen hbits hg => ?_
  obtain ⟨K, KX, tt, S, h1, h2, h3, h4, h5⟩ := F w mg fa _ Y Gr.T.g hmg
  exact law_run KX Gr.T.g Gr.T.b Gr.T.builtins Gr.T.nolimit hg h1 h2 h3 Gr.T.bmain hobj hints (Nat.le_trans hlen hn2) hr h5 fun H hT hS => h4 H a zs hlen hbits hT hS
end G

set_option Elab.async false
set_option linter.all false
set_option maxRecDepth 100000
set_option maxHeartbeats 8000000
namespace G
open PySem PySem.Spec PyProof.Rows L2 LamX
/-! ## a module's facts, a def by its body -/
structure FnE where
  x : Str
  n : Nat
  ks : List Str
  l : Nat
  S : SpG
def fnLook (fl : List FnE) (x : Str) (n : Nat) (ks : List Str) : Option (Nat × SpG) := (fl.find? fun e => e.x == x && e.n == n && e.ks == ks).map fun e => (e.l, e.S)
structure Md where
  free : List Str
  gv : List (Str × V)
  exc : List (Str × Addr)
structure MdOk (K : PySem.W.Frag) (mg : Str → Option Value) (m : Md) : Prop where
  free : ∀ x ∈ m.free, mg x = none
  gv : ∀ p ∈ m.gv, ∃ u, mg p.1 = some u ∧ RelV p.2 u
  exc : ∀ p ∈ m.exc, mg p.1 = some (.ref p.2) ∧ PySem.W.excIn K p.2 He.veBase "ValueError.__new__" = true ∧ PySem.W.keepIn K (.ref p.2) = true ∧
    PySem.W.subIn K (.ref p.2) (.type "BaseException") = some true ∧ PySem.W.typeIn K (.ref p.2) = some (.type "type")
def gam (m : Md) (N : List Str) (fl : List FnE) (act : Acts) (qual : Str) (cells : List (Str × Addr)) (T : List (Addr × Str)) (P : Option Addr) : Gam :=
  { N := N, fn := fnLook fl, gv := fun x => m.gv.lookup x, exc := fun x => m.exc.lookup x, free := fun x => m.free.contains x, act := act, qual := qual, cells := cells, T := T, P := P }
def pick {α : Type} (l : List α) (ix : List Nat) : List α := ix.filterMap fun i => l[i]?
theorem pick_rel {xs : List V} {us : List Value} (r : Vals xs us) : ∀ ix : List Nat, Vals (pick xs ix) (pick us ix)
  | [] => .nil
  | i :: ix => by
    have ih := pick_rel r ix
    unfold pick at ih ⊢
    rw [List.filterMap_cons, List.filterMap_cons]
    cases h : xs[i]? with
    | none =>
      rw [r.none_of h]
      exact ih
    | some x =>
      obtain ⟨u, e, q⟩ := r.get h
      rw [e]
      exact .cons q ih
theorem fnLook_ok {fl : List FnE} {x : Str} {n : Nat} {ks : List Str} {p : Nat × SpG} (h : fnLook fl x n ks = some p) : ∃ e ∈ fl, e.x = x ∧ e.n = n ∧ e.ks = ks ∧ p = (e.l, e.S) := by
  unfold fnLook at h
  obtain ⟨e, h1, h2⟩ := Option.map_eq_some_iff.mp h
  have h3 := List.find?_some h1
  simp only [Bool.and_eq_true, beq_iff_eq] at h3
  exact ⟨e, List.mem_of_find?_eq_some h1, h3.1.1, h3.1.2, h3.2, h2.symm⟩
theorem lookup_mem' {α : Type} {x : Str} {v : α} : ∀ {l : List (Str × α)}, l.lookup x = some v → (x, v) ∈ l
  | [], h => by cases h
  | (y, u) :: r, h => by
    rw [List.lookup_cons] at h
    cases c : x == y with
    | true =>
      rw [c] at h
      have e := beq_iff_eq.mp c
      subst e
      cases h
      exact List.mem_cons_self
    | false =>
      rw [c] at h
      exact List.mem_cons_of_mem _ (lookup_mem' h)
section
variable {P : Program} {w : World} {K : PySem.W.Frag} {mg : Str → Option Value} {base : Heap}
/-- a callee's entry holds -/
def FnEOk (P : Program) (w : World) (K : PySem.W.Frag) (mg : Str → Option Value) (base : Heap) (k : Nat) (e : FnE) : Prop :=
  e.l ≤ k ∧ ∃ f, mg e.x = some (.ref f) ∧ PySem.W.keepIn K (.ref f) = true ∧ FnS P w K mg base e.l f e.n e.ks e.S
theorem FnEOk.mono {j k : Nat} {e : FnE} (h : FnEOk P w K mg base j e) (l : j ≤ k) : FnEOk P w K mg base k e := ⟨Nat.le_trans h.1 l, h.2⟩
/-- where a def's lambdas are kept -/
def TabOk (K : PySem.W.Frag) (mg : Str → Option Value) (base : Heap) (f : Addr) (qual : Str) (T : List (Addr × Str)) (p : Addr) : Prop :=
  ∃ c, (∀ oc od fd sl, K.lookup f = some ⟨oc, od, .func fd, sl⟩ → fd.code = .ref c) ∧ TabB base mg c p ∧ (p, qual ++ "<lambda>") ∈ T ∧ ∀ q ∈ T, q.1 = p → q.2 = qual ++ "<lambda>"
theorem fn_rule {x qual : Str} {params : Arguments} {body : List Stmt} {scope : Scope} {dvs : List V} {kws : List (Str × V)} {f : Addr} {fd : FuncData} {N ps : List Str} {n : Nat} {ks : List Str} {ix : List Nat} {k : Nat} {S : Acts → List V → Hp → VK → XK → Prop}
    (F : FunD K x qual params body scope dvs kws f fd) (Sc : FnScope N ps scope) (hb : ∀ (s : Shared) (us ws : List Value), us.length = n → ws.length = ks.length → BindsTo s fd ⟨us, ks.zip ws⟩ (ps.zip (pick (us ++ ws) ix)))
    (m : Md) (hm : MdOk K mg m) (fl : List FnE) (hfl : ∀ e ∈ fl, FnEOk P w K mg base k e) (ta : Bool) (hta : ta = true → lamRoom ≤ k) (T : List (Addr × Str)) (pt : Option Addr) (hP : ∀ p, pt = some p → TabOk K mg base f (qual ++ ".<locals>.") T p)
    (fuel : Nat) (hbody : ∀ (cells : List (Str × Addr)) (acts : Acts) (vs : List V) (H : Hp) (Q : VK) (E : XK), S acts vs H Q E → vs.length = ps.length ∧
      wSL (wS K fuel (gam m N fl (fun g tl => ta = true ∧ acts g tl) (qual ++ ".<locals>.") cells T pt) scope (fun cls d _ H' => E cls d H')) body ⟨fun _ H' => Q .non H', Q, fun _ _ => False, fun _ _ => False⟩ (start N vs) H) :
    FnS P w K mg base (k + 1) f n ks (fun acts vs zs H Q E => S acts (pick (vs ++ zs) ix) H Q E) := by
  obtain ⟨oc, od, dV, kV, doc, pm, an, cdv, ct, osl, rfl, lk, hcd, hD, hK⟩ := F.ex
  intro A outer s H us ws vs zs Q E acts hr e0 r rz l1 l2 ha hS
  have lu : us.length = n := r.length.symm.trans l1
  have lw : ws.length = ks.length := rz.length.symm.trans l2
  have rr := pick_rel (r.append rz) ix
  have len : ∀ cells, _ := fun cells => (hbody cells acts _ H Q E hS).1
  refine run_ofS (N := N) (ps := ps) (us := pick (us ++ ws) ix) (vs := pick (vs ++ zs) ix) lk hcd Sc hr.r e0 (hb s us ws lu lw) rr (len []) fun hr2 => ?_
  have g : GoodS k (gam m N fl (fun g tl => ta = true ∧ acts g tl) (qual ++ ".<locals>.") (cellsFrom (s.heap.objs.size + 1) scope.names []) T pt) scope (fun cls d _ H' => E cls d H')
      (cxOf (L2.CX P w) P w K mg base N qual scope f cdv A outer s H E) := {
    calm := rfl
    sc := rfl
    N := rfl
    nd := Sc.nd
    room := ⟨hr2, hr.g⟩
    fn := fun y j js p h => by
      obtain ⟨e, he, rfl, rfl, rfl, rfl⟩ := fnLook_ok h
      exact hfl e he
    gv := fun y v h => hm.gv (y, v) (lookup_mem' h)
    free := fun y h => hm.free y (List.contains_iff_mem.mp h)
    exc := fun y C h => hm.exc (y, C) (lookup_mem' h)
    act := fun g tl h => ha g tl h.2
    aex := fun _ => ⟨rfl, rfl, rfl⟩
    aek := fun ⟨_, _, h, _⟩ => hta h
    pass := passes_of rfl
    takes := takes_of rfl rfl rfl rfl
    lam := fun p hp => by
      obtain ⟨c, h1, h2, h3, h4⟩ := hP p hp
      exact ⟨c, h2, h1 _ _ _ _ lk, h3, h4, rfl, rfl⟩
    hs := rfl
    hf := rfl
    fnok := fun _ => rfl }
  exact ⟨_, pss_w (sndS fuel g), (hbody _ acts _ H Q E hS).2⟩
/-- a weaker promise -/
theorem FnS.imp {k : Nat} {f : Addr} {n : Nat} {ks : List Str} {S S' : SpG} (F : FnS P w K mg base k f n ks S) (h : ∀ acts vs zs H Q E, vs.length = n → zs.length = ks.length → S' acts vs zs H Q E → S acts vs zs H Q E) : FnS P w K mg base k f n ks S' :=
  fun A outer s H us ws vs zs Q E acts hr e0 r rz l1 l2 ha hS => F A outer s H us ws vs zs Q E acts hr e0 r rz l1 l2 ha (h _ _ _ _ _ _ l1 l2 hS)
end
end G

set_option Elab.async false
set_option linter.all false
set_option maxRecDepth 100000
set_option maxHeartbeats 8000000
namespace G
open PySem PySem.Spec PyProof.Rows L2 LamX
/-! ## loops by an invariant -/
def ForGo (J : It) (g : TG) (tb : TS) (D : Ends) (σ : L2.St) (H : Hp) : Prop := ∃ W : Nat → Nat → L2.St → Hp → Prop, (∃ m, W 0 m σ H) ∧ ∀ i m σ H, W i m σ H →
  (J.stop i H ∧ D.nx σ H) ∨ (J.go i H ∧ ∃ N : L2.St → Hp → Prop, (∀ σ' H', N σ' H' → ∃ m', m' < m ∧ W (i + 1) m' σ' H') ∧ ∀ x H', J.yld i H x H' → g x σ H' fun σ2 H2 => tb { D with nx := N, ct := N, bk := D.nx } σ2 H2)
theorem for_go (wi : TI) (g : TG) (tb : TS) (D : Ends) (σ : L2.St) (H : Hp) : tFor wi g tb D σ H = wi σ H fun J H1 => ForGo J g tb D σ H1 := rfl
theorem go_rng {n ix : Nat} {lo : Int} {tb : TS} {D : Ends} {σ : L2.St} {H : Hp} (P : Nat → L2.St → Hp → Prop) (h0 : P 0 σ H)
    (hs : ∀ i σ H, i < n → P i σ H → tb { D with nx := P (i + 1), ct := P (i + 1), bk := D.nx } (σ.set ix (some (.int (lo + i)))) H) (he : ∀ σ H, P n σ H → D.nx σ H) : ForGo (Itr lo n) (gName ix) tb D σ H := by
  refine ⟨fun i m σ H => P i σ H ∧ i + m = n, ⟨n, h0, by omega⟩, fun i m σ H ⟨h, e⟩ => ?_⟩
  by_cases c : i < n
  · refine .inr ⟨c, P (i + 1), fun σ' H' q => ⟨m - 1, by omega, q, by omega⟩, fun x H' ⟨e1, e2⟩ => ?_⟩
    subst e1 e2
    exact hs i σ H' c h
  · have : i = n := by omega
    subst this
    exact .inl ⟨Nat.le_refl _, he σ H h⟩
theorem SqL.one {K : PySem.W.Frag} {H : Hp} {a : Addr} {xs ys : List V} (hk : K.lookup a = none) (h1 : SqL K H a xs) (h2 : SqL K H a ys) : xs = ys := by
  rcases h1 with h1 | ⟨o, _, _, e, _⟩
  · rcases h2 with h2 | ⟨o, _, _, e, _⟩
    · rcases h1 with h1 | ⟨o1, h1⟩ <;> rcases h2 with h2 | ⟨o2, h2⟩ <;> (rw [h1] at h2; first | (cases h2; rfl) | cases h2)
    · rw [hk] at e; cases e
  · rw [hk] at e; cases e
/-! a comprehension over a list that is tracked, over a range -/
def LcGo (J : It) (g : TG) (tt : TT) (te : TE) (vs : List Nat) (σ : L2.St) (Q : VK) (H1 : Hp) : Prop := ∀ D, H1 D = none → ∃ W : Nat → Nat → Hp → Prop, (∃ m, W 0 m (upd H1 D (.lst []))) ∧ ∀ i m H, W i m H →
  (J.stop i H ∧ Q (.ref D) H) ∨ (J.go i H ∧ ∃ Nx : Hp → Prop, (∀ H', Nx H' → ∃ m', m' < m ∧ W (i + 1) m' H') ∧ ∀ x H', J.yld i H x H' → g x (wipe σ vs) H' fun σ2 H2 => wipe σ2 vs = wipe σ vs ∧ tt σ2 H2 fun b H3 =>
    if b = true then te σ2 H3 fun y H4 => ∃ acc, H4 D = some (.lst acc) ∧ acc.length < sizeLine ∧ Nx (upd H4 D (.lst (acc ++ [y]))) else Nx H3)
theorem lc_go (wi : TI) (g : TG) (tt : TT) (te : TE) (vs : List Nat) (σ : L2.St) (H : Hp) (Q : VK) : tLc wi g tt te vs σ H Q = wi σ H fun J H1 => LcGo J g tt te vs σ Q H1 := rfl
theorem wipe_one {σ : L2.St} {ix : Nat} {x : V} : wipe ((wipe σ [ix]).set ix (some x)) [ix] = wipe σ [ix] := by
  show ((σ.set ix none).set ix (some x)).set ix none = σ.set ix none
  rw [List.set_set, List.set_set]
/-- what a comprehension's turn leaves -/
def Lp (D : Addr) (P : Addr → Nat → List V → Hp → Prop) (i : Nat) (H : Hp) : Prop := ∃ acc, H D = some (.lst acc) ∧ acc.length ≤ i ∧ P D i acc H
theorem Lp.put {D : Addr} {P : Addr → Nat → List V → Hp → Prop} {i : Nat} {H : Hp} {acc : List V} {y : V} (hA : H D = some (.lst acc)) (hl : acc.length ≤ i) (hi : i < 16777215) (h : P D (i + 1) (acc ++ [y]) (upd H D (.lst (acc ++ [y])))) :
    ∃ acc', H D = some (.lst acc') ∧ acc'.length < sizeLine ∧ Lp D P (i + 1) (upd H D (.lst (acc' ++ [y]))) := by
  have sl : sizeLine = 16777216 := sizeLine_eq
  exact ⟨acc, hA, by omega, acc ++ [y], upd_same, by rw [List.length_append]; exact Nat.succ_le_succ hl, h⟩
theorem Lp.skip {D : Addr} {P : Addr → Nat → List V → Hp → Prop} {i : Nat} {H : Hp} {acc : List V} (hA : H D = some (.lst acc)) (hl : acc.length ≤ i) (h : P D (i + 1) acc H) : Lp D P (i + 1) H := ⟨acc, hA, Nat.le_succ_of_le hl, h⟩
theorem lc_rng {n ix : Nat} {lo : Int} {tt : TT} {te : TE} {σ : L2.St} {H : Hp} {Q : VK} (P : Addr → Nat → List V → Hp → Prop) (h0 : ∀ D, H D = none → P D 0 [] (upd H D (.lst [])))
    (hs : ∀ D i acc H, i < n → H D = some (.lst acc) → acc.length ≤ i → P D i acc H → tt ((wipe σ [ix]).set ix (some (.int (lo + i)))) H fun b H3 => if b = true then
      te ((wipe σ [ix]).set ix (some (.int (lo + i)))) H3 fun y H4 => ∃ acc, H4 D = some (.lst acc) ∧ acc.length < sizeLine ∧ Lp D P (i + 1) (upd H4 D (.lst (acc ++ [y]))) else Lp D P (i + 1) H3)
    (he : ∀ D acc H, acc.length ≤ n → H D = some (.lst acc) → P D n acc H → Q (.ref D) H) : LcGo (Itr lo n) (gName ix) tt te [ix] σ Q H := by
  intro D hD
  refine ⟨fun i m H => i + m = n ∧ Lp D P i H, ⟨n, by omega, [], upd_same, Nat.le_refl _, h0 D hD⟩, fun i m H ⟨e, acc, hA, hl, h⟩ => ?_⟩
  by_cases c : i < n
  · refine .inr ⟨c, fun H' => Lp D P (i + 1) H', fun H' q => ⟨m - 1, by omega, by omega, q⟩, fun x H' ⟨e1, e2⟩ => ?_⟩
    subst e1 e2
    exact ⟨wipe_one, hs D i acc H' c hA hl h⟩
  · have : i = n := by omega
    subst this
    exact .inl ⟨Nat.le_refl _, he D acc H hl hA h⟩
theorem lc_list {K : PySem.W.Frag} {a : Addr} (xs : List V) {ix : Nat} {tt : TT} {te : TE} {σ : L2.St} {H : Hp} {Q : VK} (P : Addr → Nat → List V → Hp → Prop) (h0 : ∀ D, H D = none → P D 0 [] (upd H D (.lst [])))
    (hl : ∀ D i acc H, P D i acc H → SqL K H a xs)
    (hs : ∀ D i acc H x, xs[i]? = some x → H D = some (.lst acc) → acc.length ≤ i → P D i acc H → tt ((wipe σ [ix]).set ix (some x)) H fun b H3 => if b = true then
      te ((wipe σ [ix]).set ix (some x)) H3 fun y H4 => ∃ acc, H4 D = some (.lst acc) ∧ acc.length < sizeLine ∧ Lp D P (i + 1) (upd H4 D (.lst (acc ++ [y]))) else Lp D P (i + 1) H3)
    (he : ∀ D acc H, acc.length ≤ xs.length → H D = some (.lst acc) → P D xs.length acc H → Q (.ref D) H) : LcGo (Itl K a) (gName ix) tt te [ix] σ Q H := by
  intro D hD
  refine ⟨fun i m H => i + m = xs.length ∧ Lp D P i H, ⟨xs.length, by omega, [], upd_same, Nat.le_refl _, h0 D hD⟩, fun i m H ⟨e, acc, hA, hz, h⟩ => ?_⟩
  by_cases c : i < xs.length
  · refine .inr ⟨⟨xs, xs[i], hl D i acc H h, List.getElem?_eq_getElem c⟩, fun H' => Lp D P (i + 1) H', fun H' q => ⟨m - 1, by omega, by omega, q⟩, fun x H' ⟨e1, e2⟩ => ?_⟩
    subst e1
    exact ⟨wipe_one, hs D i acc H' x (e2 xs (hl D i acc H' h)) hA hz h⟩
  · have : i = xs.length := by omega
    subst this
    exact .inl ⟨⟨xs, hl D _ acc H h, Nat.le_refl _⟩, he D acc H hz hA h⟩
end G

set_option Elab.async false
set_option linter.all false
set_option maxRecDepth 100000
set_option maxHeartbeats 8000000
namespace G
open PySem PySem.Spec PyProof.Rows L2 LamX
/-! ## texts: signs, lengths, what repr prints -/
theorem app_cps (a b : Str) : (a ++ b).cps.toList = a.cps.toList ++ b.cps.toList := by
  show (a.cps ++ b.cps).toList = _
  rw [Array.toList_append]
theorem len_cps (a : Str) : a.cps.toList.length = a.length := by
  show a.cps.toList.length = a.cps.size
  rw [Array.length_toList]
/-- of zeros and ones alone -/
def BitS (x : Str) : Prop := ∀ c ∈ x.cps.toList, c = 48 ∨ c = 49
theorem BitS.app {a b : Str} (ha : BitS a) (hb : BitS b) : BitS (a ++ b) := fun c hc => by
  rw [app_cps] at hc
  exact (List.mem_append.mp hc).elim (ha c) (hb c)
theorem bits_0 : BitS "0" := by
  intro c hc
  have e : (("0" : Str)).cps.toList = [48] := by decide +kernel
  rw [e] at hc
  exact .inl (by simpa using hc)
theorem bits_1 : BitS "1" := by
  intro c hc
  have e : (("1" : Str)).cps.toList = [49] := by decide +kernel
  rw [e] at hc
  exact .inr (by simpa using hc)
theorem bits_e : BitS "" := by
  intro c hc
  have e : (("" : Str)).cps.toList = [] := by decide +kernel
  rw [e] at hc
  exact nomatch hc
theorem len_e : ((("" : String) : Str)).length = 0 := by decide +kernel
theorem len_0 : ((("0" : String) : Str)).length = 1 := by decide +kernel
theorem len_1 : ((("1" : String) : Str)).length = 1 := by decide +kernel
def dig (i : Int) : Str := Str.ofString (toString (i % 2))
theorem dig_or (i : Int) : dig i = "0" ∨ dig i = "1" := by
  unfold dig
  rcases Int.emod_two_eq i with h | h <;> rw [h]
  · exact .inl rfl
  · exact .inr rfl
theorem dig_bit (i : Int) : BitS (dig i) := by
  rcases dig_or i with h | h <;> rw [h]
  · exact bits_0
  · exact bits_1
theorem dig_len (i : Int) : (dig i).length = 1 := by
  rcases dig_or i with h | h <;> rw [h]
  · exact len_0
  · exact len_1
/-- so many of the lowest bits, ahead of a text -/
def tw : Nat → Int → Str → Str
  | 0, _, acc => acc
  | n + 1, i, acc => tw n (i / 2) (dig i ++ acc)
theorem tw_len : ∀ (n : Nat) (i : Int) (acc : Str), (tw n i acc).length = n + acc.length
  | 0, _, acc => (Nat.zero_add _).symm
  | n + 1, i, acc => by
    show (tw n (i / 2) (dig i ++ acc)).length = _
    rw [tw_len n, strLen_append, dig_len]
    omega
theorem tw_bit : ∀ (n : Nat) (i : Int) (acc : Str), BitS acc → BitS (tw n i acc)
  | 0, _, _, h => h
  | n + 1, i, acc, h => tw_bit n (i / 2) _ ((dig_bit i).app h)
theorem tw_low : ∀ (n : Nat) (i q : Int) (acc : Str), tw n (i + 2 ^ n * q) acc = tw n i acc
  | 0, _, _, _ => rfl
  | n + 1, i, q, acc => by
    show tw n ((i + 2 ^ (n + 1) * q) / 2) (dig (i + 2 ^ (n + 1) * q) ++ acc) = tw n (i / 2) (dig i ++ acc)
    have e : (2 : Int) ^ (n + 1) * q = 2 * (2 ^ n * q) := by rw [Int.pow_succ, Int.mul_comm (2 ^ n) 2, Int.mul_assoc]
    have e1 : (i + 2 ^ (n + 1) * q) % 2 = i % 2 := by rw [e]; omega
    have e2 : (i + 2 ^ (n + 1) * q) / 2 = i / 2 + 2 ^ n * q := by rw [e]; omega
    have e3 : dig (i + 2 ^ (n + 1) * q) = dig i := by unfold dig; rw [e1]
    rw [e2, e3, tw_low n]
theorem tw_step : ∀ (n : Nat) (i : Int) (acc : Str), 0 ≤ i → tw (n + 1) i acc = dig (i / 2 ^ n) ++ tw n i acc
  | 0, i, acc, _ => by
    show dig i ++ acc = dig (i / 2 ^ 0) ++ acc
    rw [Int.pow_zero, Int.ediv_one]
  | n + 1, i, acc, h => by
    show tw (n + 1) (i / 2) (dig i ++ acc) = dig (i / 2 ^ (n + 1)) ++ tw n (i / 2) (dig i ++ acc)
    rw [tw_step n (i / 2) _ (by omega)]
    have e : i / 2 / 2 ^ n = i / 2 ^ (n + 1) := by
      rw [Int.ediv_ediv_of_nonneg (by decide : (0 : Int) ≤ 2), Int.pow_succ, Int.mul_comm]
    rw [e]
/-! so many ones -/
theorem fold_rep (x : Array Nat) : ∀ (n : Nat) (acc : Array Nat), ((List.replicate n x).foldl (· ++ ·) acc).toList = acc.toList ++ (List.replicate n x.toList).flatten
  | 0, acc => by simp
  | n + 1, acc => by
    rw [List.replicate_succ, List.foldl_cons, fold_rep x n, List.replicate_succ, List.flatten_cons, Array.toList_append, List.append_assoc]
def ones (n : Nat) : Str := Txt.mul "1" (n : Int)
theorem ones_cps (n : Nat) : (ones n).cps.toList = List.replicate n 49 := by
  have e1 : (("1" : Str)).cps.toList = [49] := by decide +kernel
  unfold ones Txt.mul
  by_cases h : (n : Int) < 1
  · rw [if_pos h]
    have : n = 0 := by omega
    subst this
    rfl
  · rw [if_neg h]
    by_cases h2 : n = 1
    · subst h2
      have ec : (((1 : Nat) : Int) == 1 || (("1" : Str)).length == 0) = true := rfl
      rw [if_pos ec]
      exact e1
    · have e0 : ((n : Int) == 1 || (("1" : Str)).length == 0) = false := by
        rw [len_1, Bool.or_eq_false_iff]
        exact ⟨beq_false_of_ne (by omega), rfl⟩
      rw [e0, if_neg (by simp)]
      show ((List.replicate (n : Int).toNat ("1" : Str).cps).foldl (· ++ ·) #[]).toList = _
      rw [fold_rep, e1]
      simp
theorem ones_len (n : Nat) : (ones n).length = n := by rw [← len_cps, ones_cps, List.length_replicate]
theorem ones_bit (n : Nat) : BitS (ones n) := fun c hc => by
  rw [ones_cps] at hc
  exact .inr (List.eq_of_mem_replicate hc)
theorem mul_ok1 {n : Nat} (h : n ≤ 1000000) : MulOk "1" (n : Int) := by
  refine ⟨?_, fun _ _ => ?_, fun _ _ => ?_⟩
  · rw [Bool.or_eq_false_iff]
    exact ⟨decide_eq_false (by omega), decide_eq_false (by omega)⟩
  · rw [len_1]
    have h1 : ¬ (n : Int) < 1 := by assumption
    have : (1 : Int) ≤ (2 ^ 63 - 1) / (n : Int) := by
      rw [Int.le_ediv_iff_mul_le (by omega)]
      omega
    omega
  · rw [len_1]
    exact decide_eq_false (by rw [sizeLine_eq]; omega)
/-! what repr prints is short -/
theorem textFrom_le : ∀ (ts : List Str) (k : Nat) (acc : Str), (textFrom k acc ts).length ≤ acc.length + piled ts
  | [], k, acc => Nat.le_add_right _ _
  | t :: r, k, acc => by
    have ih := textFrom_le r (k + 1) (acc ++ (if k > 0 then ", " else "" : String) ++ t)
    have e : (acc ++ (if k > 0 then ", " else "" : String) ++ t).length = acc.length + (if k > 0 then 2 else 0) + t.length := by
      rw [strLen_append, strLen_append]
      split <;> rfl
    rw [e] at ih
    show (textFrom (k + 1) (acc ++ (if k > 0 then ", " else "" : String) ++ t) r).length ≤ _
    have p : piled (t :: r) = t.length + 2 + piled r := rfl
    rw [p]
    have : (if k > 0 then 2 else 0 : Nat) ≤ 2 := by split <;> omega
    omega
theorem listText_le (ts : List Str) : (listText ts).length ≤ piled ts + 2 := by
  unfold listText
  have h := textFrom_le ts 0 "["
  have e1 : ((("[" : String) : Str)).length = 1 := by decide +kernel
  have e2 : ((("]" : String) : Str)).length = 1 := by decide +kernel
  rw [strLen_append, e2]
  rw [e1] at h
  omega
theorem int_shown_le {i : Int} (h : i.natAbs < 10 ^ 20) : (Str.ofString (toString i)).length ≤ 21 := by
  rw [PySem.ofString_length]
  exact int_text_length_le10 (k := 20) (by decide) h
theorem bit_shown_le {x : Str} (h : BitS x) : (reprText x).length ≤ 10 * x.length + 2 := PySem.StrLaws.reprText_len x fun c hc => by
  rcases h c hc with e | e <;> rw [e] <;> decide
/-! ## strip -/
theorem take_all {p : Nat → Bool} : ∀ {l : List Nat}, (∀ c ∈ l, p c = true) → l.takeWhile p = l
  | [], _ => rfl
  | c :: r, h => by
    rw [List.takeWhile_cons, if_pos (h c List.mem_cons_self), take_all fun d hd => h d (List.mem_cons_of_mem _ hd)]
theorem take_lt {p : Nat → Bool} {c : Nat} (hp : p c = false) : ∀ {l : List Nat}, c ∈ l → (l.takeWhile p).length < l.length
  | d :: r, h => by
    rw [List.takeWhile_cons]
    by_cases q : p d = true
    · rw [if_pos q, List.length_cons, List.length_cons]
      rcases List.mem_cons.mp h with e | h
      · rw [← e, hp] at q
        cases q
      · exact Nat.succ_lt_succ (take_lt hp h)
    · rw [if_neg q]
      exact Nat.succ_pos _
theorem mem_drop {p : Nat → Bool} {c : Nat} (hp : p c = false) : ∀ {l : List Nat}, c ∈ l → c ∈ l.drop (l.takeWhile p).length
  | d :: r, h => by
    rw [List.takeWhile_cons]
    by_cases q : p d = true
    · rw [if_pos q, List.length_cons, List.drop_succ_cons]
      rcases List.mem_cons.mp h with e | h
      · rw [← e, hp] at q
        cases q
      · exact mem_drop hp h
    · rw [if_neg q]
      exact h
theorem strip_all {x y : Str} (h : ∀ c ∈ x.cps.toList, y.cps.contains c = true) : Txt.stripChars x y = "" := by
  have e0 : (("" : Str)) = ⟨#[]⟩ := by decide +kernel
  have lo : stripLo y.cps.contains true x = x.length := by
    unfold stripLo
    rw [if_pos rfl]
    have : x.cps.toList.takeWhile y.cps.contains = x.cps.toList := take_all h
    rw [this, len_cps]
  unfold Txt.stripChars Txt.stripBy
  by_cases hx : x.length = 0
  · have ex : x = ⟨#[]⟩ := by
      cases x with
      | mk c =>
        have : c.size = 0 := hx
        rw [Array.eq_empty_of_size_eq_zero this]
    have ee : stripped y.cps.contains true true x = "" := by
      rw [e0, ex]
      unfold stripped Builtin.Str.strSub
      simp
    by_cases c : stripSame y.cps.contains true true x = true
    · rw [if_pos c, ex, e0]
    · rw [if_neg c, ee]
  · have hs : stripSame y.cps.contains true true x = false := by
      unfold stripSame
      rw [lo]
      rw [Bool.and_eq_false_iff]
      exact .inl (beq_false_of_ne hx)
    rw [hs, if_neg (by simp), e0]
    unfold stripped Builtin.Str.strSub
    rw [lo]
    refine congrArg Str.mk (Array.eq_empty_of_size_eq_zero ?_)
    rw [Array.size_extract]
    have q : x.cps.size = x.length := rfl
    rw [q]
    omega
/-- a sign of another kind stays -/
theorem strip_some {x y : Str} {c : Nat} (hc : c ∈ x.cps.toList) (h : y.cps.contains c = false) : Txt.stripChars x y ≠ "" := by
  intro e
  have e0 : (("" : Str)).length = 0 := len_e
  have hx : 0 < x.length := by
    rw [← len_cps]
    exact List.length_pos_of_mem hc
  unfold Txt.stripChars Txt.stripBy at e
  by_cases s : stripSame y.cps.contains true true x = true
  · rw [if_pos s] at e
    rw [e] at hx
    rw [e0] at hx
    omega
  · rw [if_neg s] at e
    have z := congrArg Str.length e
    rw [e0] at z
    unfold stripped Builtin.Str.strSub at z
    have m := mem_drop (p := y.cps.contains) h hc
    have lo : stripLo y.cps.contains true x = (x.cps.toList.takeWhile y.cps.contains).length := rfl
    rw [← lo] at m
    have t := take_lt (p := y.cps.contains) h (List.mem_reverse.mpr m)
    rw [List.length_reverse, List.length_drop, len_cps] at t
    have z2 : min (x.length - ((x.cps.toList.drop (stripLo y.cps.contains true x)).reverse.takeWhile y.cps.contains).length) x.length - stripLo y.cps.contains true x = 0 := by
      have q : (x.cps.extract (stripLo y.cps.contains true x) (stripHi y.cps.contains true x (stripLo y.cps.contains true x))).size = 0 := z
      rw [Array.size_extract] at q
      exact q
    omega
end G

set_option Elab.async false
set_option linter.all false
set_option maxRecDepth 100000
set_option maxHeartbeats 8000000
namespace G
open PySem PySem.Spec PyProof.Rows L2 LamX
/-! ## the laws' draws -/
abbrev kS (x : Str) : Key := .inr x
def dwL (La Ca : Addr) (left turn : Int) : List (Key × V) := [(kS "large", .ref La), (kS "cells", .ref Ca), (kS "left", .int left), (kS "turn", .int turn)]
theorem dw_large {La Ca : Addr} {l t : Int} : valV (dwL La Ca l t) (kS "large") = some (.ref La) := by rfl
theorem dw_cells {La Ca : Addr} {l t : Int} : valV (dwL La Ca l t) (kS "cells") = some (.ref Ca) := by rfl
theorem dw_left {La Ca : Addr} {l t : Int} : valV (dwL La Ca l t) (kS "left") = some (.int l) := by rfl
theorem dw_turn {La Ca : Addr} {l t : Int} : valV (dwL La Ca l t) (kS "turn") = some (.int t) := by rfl
theorem dw_left' {La Ca : Addr} {l t z : Int} : putK (dwL La Ca l t) (kS "left") (.int z) = dwL La Ca z t := by rfl
theorem dw_turn' {La Ca : Addr} {l t z : Int} : putK (dwL La Ca l t) (kS "turn") (.int z) = dwL La Ca l z := by rfl
theorem dw_new {La Ca : Addr} : mergeK [] [(kS "large", .ref La), (kS "cells", .ref Ca), (kS "left", .int 0), (kS "turn", .int 0)] = dwL La Ca 0 0 := by rfl

theorem sub_k {K : PySem.W.Frag} {H : Hp} {a : Addr} {kvs : List (Key × V)} {x : Str} {v : V} {Q : VK} (e : H a = some (.dK kvs)) (h : valV kvs (kS x) = some v) (q : Q v H) : G.rSub2 K (.ref a) (.str x) H Q :=
  .inr ⟨a, v, rfl, .inl ⟨kvs, kS x, .inl e, rfl, h.symm⟩, q⟩
theorem put_k {H : Hp} {a : Addr} {kvs : List (Key × V)} {x : Str} {v : V} {Q : Hp → Prop} (e : H a = some (.dK kvs)) (hl : kvs.length < sizeLine) (q : Q (upd H a (.dK (putK kvs (kS x) v)))) : G.rPut (.ref a) (.str x) v H Q :=
  .inr ⟨a, _, rfl, .inl ⟨kvs, kS x, e, rfl, hl, rfl⟩, q⟩
theorem eq_int {K : PySem.W.Frag} {H : Hp} {i j : Int} {Q : VK} (q : Q (.bl (decide (i = j))) H) : G.rCmp K .Eq (.int i) (.int j) H Q := .inl ⟨rfl, by
  have e : decide (V.int i = V.int j) = decide (i = j) := by rw [Bool.eq_iff_iff]; simp
  show Q (.bl (decide (V.int i = V.int j))) H
  rw [e]
  exact q⟩
theorem ne_str {K : PySem.W.Frag} {H : Hp} {i j : Str} {Q : VK} (q : Q (.bl (!decide (i = j))) H) : G.rCmp K .NotEq (.str i) (.str j) H Q := .inl ⟨rfl, by
  have e : decide (V.str i = V.str j) = decide (i = j) := by rw [Bool.eq_iff_iff]; simp
  show Q (.bl (!decide (V.str i = V.str j))) H
  rw [e]
  exact q⟩
theorem eq_str {K : PySem.W.Frag} {H : Hp} {i j : Str} {Q : VK} (q : Q (.bl (decide (i = j))) H) : G.rCmp K .Eq (.str i) (.str j) H Q := .inl ⟨rfl, by
  have e : decide (V.str i = V.str j) = decide (i = j) := by rw [Bool.eq_iff_iff]; simp
  show Q (.bl (decide (V.str i = V.str j))) H
  rw [e]
  exact q⟩
theorem dp_ints {K : PySem.W.Frag} {H : Hp} : ∀ zs : List Int, DpAll K H (zs.map V.int) (zs.map PyData.int)
  | [] => .nil
  | z :: r => .cons (.int z) (dp_ints r)
theorem lay_ints : ∀ zs : List Int, PyData.canLayAll0 (zs.map PyData.int) = true
  | [] => rfl
  | z :: r => by
    show (PyData.canLay0 (.int z) && PyData.canLayAll0 (r.map PyData.int)) = true
    rw [lay_ints r]
    rfl
theorem deep_ints : ∀ zs : List Int, PyData.depthAll (zs.map PyData.int) = 0
  | [] => rfl
  | z :: r => by
    show max 0 (PyData.depthAll (r.map PyData.int)) = 0
    rw [deep_ints r]
    rfl
theorem shaped_ints (zs : List Int) : SeqAt.shaped (.list (zs.map PyData.int)) = true := by
  show (PyData.canLayAll0 (zs.map PyData.int) && decide (PyData.depthAll (zs.map PyData.int) + 1 ≤ 64)) = true
  rw [lay_ints, deep_ints]
  rfl
/-- a list of ints != [] -/
theorem ne_nil {K : PySem.W.Frag} {H : Hp} {a b : Addr} {zs : List Int} {Q : VK} (ha : SqL K H a (zs.map V.int)) (hb : H b = some (.lst [])) (q : Q (.bl (!zs.isEmpty)) H) : G.rCmp K .NotEq (.ref a) (.ref b) H Q := by
  refine .inr ⟨_, .list [], .lst ha (dp_ints zs), .lst (.inl (.inl hb)) .nil, shaped_ints zs, rfl, ?_⟩
  have e : PyData.eqv (.list (zs.map PyData.int)) (.list []) = zs.isEmpty := by cases zs <;> rfl
  rw [e]
  exact q
theorem ix_ok {K : PySem.W.Frag} {H : Hp} {a : Addr} {xs : List V} {i : Int} {v : V} {Q : VK} (ha : SqL K H a xs) (h0 : 0 ≤ i) (h : xs[i.toNat]? = some v) (q : Q v H) : G.rSub2 K (.ref a) (.int i) H Q := by
  refine .inl (.inl ⟨a, xs, i, v, rfl, rfl, ha, ?_, q⟩)
  obtain ⟨hl, _⟩ := List.getElem?_eq_some_iff.mp h
  unfold atI ixN
  rw [if_pos h0, if_pos (by omega)]
  exact h

/-- what a draw leaves alone -/
def Dr (st La : Addr) (H H' : Hp) : Prop := ∀ b o, H b = some o → b ≠ st → b ≠ La → H' b = some o
theorem Dr.refl (st La : Addr) (H : Hp) : Dr st La H H := fun _ _ h _ _ => h
theorem Dr.trans {st La : Addr} {H H1 H2 : Hp} (a : Dr st La H H1) (b : Dr st La H1 H2) : Dr st La H H2 := fun c o h n m => b c o (a c o h n m) n m
theorem Dr.new {st La p : Addr} {H H1 : Hp} {o : HO} (a : Dr st La H H1) (n : H1 p = none) : Dr st La H (upd H1 p o) := fun c o h n1 m => by
  have q := a c o h n1 m
  rw [upd_ne (ne_of_none q n)]
  exact q
theorem Dr.put {st La : Addr} {H H1 : Hp} {o : HO} (a : Dr st La H H1) : Dr st La H (upd H1 st o) := fun c o h n1 m => by
  rw [upd_ne n1]
  exact a c o h n1 m
theorem Dr.pop {st La : Addr} {H H1 : Hp} {o : HO} (a : Dr st La H H1) : Dr st La H (upd H1 La o) := fun c o h n1 m => by
  rw [upd_ne m]
  exact a c o h n1 m
/-- the state, in full -/
structure DrwF (st La Ca : Addr) (cs : List Int) (H : Hp) (ls : List Int) (left turn : Int) : Prop where
  st : H st = some (.dK (dwL La Ca left turn))
  la : H La = some (.lst (ls.map V.int))
  ca : H Ca = some (.lst (cs.map V.int))
  ne : La ≠ Ca
  l0 : 0 ≤ left
  ls0 : ∀ z ∈ ls, 0 ≤ z
  lsl : ls.length ≤ 1000000
  csl : cs.length ≤ 1000000
  t0 : 0 ≤ turn
section
variable {st La Ca p : Addr} {cs ls : List Int} {H : Hp} {left turn : Int} {o : HO}
theorem DrwF.n1 (d : DrwF st La Ca cs H ls left turn) : st ≠ La := fun e => by
  have z := d.st
  rw [e, d.la] at z
  cases z
theorem DrwF.n2 (d : DrwF st La Ca cs H ls left turn) : st ≠ Ca := fun e => by
  have z := d.st
  rw [e, d.ca] at z
  cases z
theorem DrwF.new (d : DrwF st La Ca cs H ls left turn) (n : H p = none) : DrwF st La Ca cs (upd H p o) ls left turn :=
  { d with
    st := by rw [upd_ne (ne_of_none d.st n)]; exact d.st
    la := by rw [upd_ne (ne_of_none d.la n)]; exact d.la
    ca := by rw [upd_ne (ne_of_none d.ca n)]; exact d.ca }
theorem DrwF.setl {z : Int} (d : DrwF st La Ca cs H ls left turn) (hz : 0 ≤ z) : DrwF st La Ca cs (upd H st (.dK (putK (dwL La Ca left turn) (kS "left") (.int z)))) ls z turn :=
  { d with
    st := by rw [upd_same, dw_left']
    la := by rw [upd_ne (Ne.symm d.n1)]; exact d.la
    ca := by rw [upd_ne (Ne.symm d.n2)]; exact d.ca
    l0 := hz }
theorem DrwF.sett {z : Int} (d : DrwF st La Ca cs H ls left turn) (hz : 0 ≤ z) : DrwF st La Ca cs (upd H st (.dK (putK (dwL La Ca left turn) (kS "turn") (.int z)))) ls left z :=
  { d with
    st := by rw [upd_same, dw_turn']
    la := by rw [upd_ne (Ne.symm d.n1)]; exact d.la
    ca := by rw [upd_ne (Ne.symm d.n2)]; exact d.ca
    t0 := hz }
theorem DrwF.pop {z : Int} (d : DrwF st La Ca cs H (z :: ls) left turn) : DrwF st La Ca cs (upd H La (.lst (ls.map V.int))) ls left turn :=
  { d with
    st := by rw [upd_ne d.n1]; exact d.st
    la := upd_same
    ca := by rw [upd_ne (Ne.symm d.ne)]; exact d.ca
    ls0 := fun x hx => d.ls0 x (List.mem_cons_of_mem _ hx)
    lsl := by have := d.lsl; rw [List.length_cons] at this; omega }
end
/-- the state: at most t turns behind it -/
def Drw (st La Ca : Addr) (H : Hp) (t : Int) : Prop := ∃ cs ls left turn, DrwF st La Ca cs H ls left turn ∧ turn ≤ t
theorem Drw.new {st La Ca p : Addr} {H : Hp} {t : Int} {o : HO} (d : Drw st La Ca H t) (n : H p = none) : Drw st La Ca (upd H p o) t := by
  obtain ⟨cs, ls, left, turn, d, h⟩ := d
  exact ⟨cs, ls, left, turn, d.new n, h⟩
theorem Drw.mono {st La Ca : Addr} {H : Hp} {t u : Int} (d : Drw st La Ca H t) (h : t ≤ u) : Drw st La Ca H u := by
  obtain ⟨cs, ls, left, turn, d, h1⟩ := d
  exact ⟨cs, ls, left, turn, d, Int.le_trans h1 h⟩
def spDraw : SpG := fun _ vs zs H Q _ => ∃ st La Ca n t, vs ++ zs = [.ref st, .int n] ∧ 0 < n ∧ n ≤ 2 ^ 29 ∧ t ≤ 2 ^ 40 ∧ Drw st La Ca H t ∧ ∀ r H', 0 ≤ r → r < n → Drw st La Ca H' (t + 1) → Dr st La H H' → Q (.int r) H'
def rdDraw1 (K : PySem.W.Frag) : TS := (tWhile (tAnd (tTest (tOp (G.rCmp K .Eq) (tOp (G.rSub2 K) (tVar 0) (tC (.str "left"))) (tC (.int 0)))) (tTest (tOp (G.rCmp K .NotEq) (tOp (G.rSub2 K) (tVar 0) (tC (.str "large"))) (tLst tNil))))
  (tAsg (tBM K "list" rPopAt (tOp (G.rSub2 K) (tVar 0) (tC (.str "large"))) (tCons (tC (.int 0)) tNil)) (gSub (tVar 0) (tC (.str "left")) G.rPut)))
def rdDraw2 (K : PySem.W.Frag) : TS :=
  (tSeq (tIfS (tTest (tOp (G.rCmp K .Gt) (tOp (G.rSub2 K) (tVar 0) (tC (.str "left"))) (tC (.int 0))))
  (tSeq (tAsg (tOp (G.rBin K .Mod) (tCB G.rInt1 (tCons (tOp (G.rSub2 K) (tVar 0) (tC (.str "left"))) tNil)) (tVar 1)) (gName 2))
  (tSeq (tAsg (tOp (G.rBin K .FloorDiv) (tOp (G.rSub2 K) (tVar 0) (tC (.str "left"))) (tVar 1)) (gSub (tVar 0) (tC (.str "left")) G.rPut))
  (tRet (tVar 2))))
  tNext)
  (tSeq (tAsg (tOp (G.rBin K .Add) (tOp (G.rSub2 K) (tVar 0) (tC (.str "turn"))) (tC (.int 1))) (gName 3))
  (tSeq (tAsg (tVar 3) (gSub (tVar 0) (tC (.str "turn")) G.rPut))
  (tSeq (tAsg (tIf (tTest (tOp (G.rCmp K .NotEq) (tOp (G.rSub2 K) (tVar 0) (tC (.str "cells"))) (tLst tNil))) (tOp (G.rSub2 K) (tOp (G.rSub2 K) (tVar 0) (tC (.str "cells"))) (tOp (G.rBin K .Mod) (tCB G.rInt1 (tCons (tVar 3) tNil)) (tCB (G.rLen K) (tCons (tOp (G.rSub2 K) (tVar 0) (tC (.str "cells"))) tNil)))) (tC (.int 0))) (gName 4))
  (tSeq (tAsg (tOp (G.rBin K .Mod) (tCB G.rInt1 (tCons (tOp (G.rBin K .Pow) (tOp (G.rBin K .Add) (tOp (G.rBin K .Add) (tOp (G.rBin K .Mod) (tCB G.rInt1 (tCons (tVar 4) tNil)) (tC (.int 2147483563))) (tOp (G.rBin K .Mult) (tC (.int 40692)) (tVar 3))) (tC (.int 24681))) (tC (.int 3))) tNil)) (tC (.int 2147483629))) (gName 5))
  (tRet (tOp (G.rBin K .Mod) (tCB G.rInt1 (tCons (tOp (G.rBin K .FloorDiv) (tOp (G.rBin K .Mod) (tCB G.rInt1 (tCons (tOp (G.rBin K .Pow) (tOp (G.rBin K .Add) (tVar 5) (tOp (G.rBin K .Mult) (tC (.int 104917)) (tVar 3))) (tC (.int 5))) tNil)) (tC (.int 2147483579))) (tC (.int 29))) tNil)) (tVar 1))))))))
def rdDraw (K : PySem.W.Frag) : TS := tSeq (rdDraw1 K) (rdDraw2 K)

theorem gt_int {K : PySem.W.Frag} {H : Hp} {i j : Int} {Q : VK} (q : Q (.bl (decide (j < i))) H) : G.rCmp K .Gt (.int i) (.int j) H Q := q
theorem div_int {K : PySem.W.Frag} {H : Hp} {i j : Int} {Q : VK} (h0 : 0 < j) (h1 : j < 1073741824) (q : Q (.int (i / j)) H) : G.rBin K .FloorDiv (.int i) (.int j) H Q := ⟨.inl ⟨h0, h1⟩, q⟩
theorem mod_int {K : PySem.W.Frag} {H : Hp} {i j : Int} {Q : VK} (h0 : 0 < j) (q : Q (.int (i % j)) H) : G.rBin K .Mod (.int i) (.int j) H Q := ⟨h0, q⟩
theorem mul_int {K : PySem.W.Frag} {H : Hp} {i j : Int} {Q : VK} (h0 : -18446744073709551616 < i) (h1 : i < 18446744073709551616) (q : Q (.int (i * j)) H) : G.rBin K .Mult (.int i) (.int j) H Q := ⟨.inl (.inl ⟨by omega, by omega⟩), q⟩
theorem pow_int {K : PySem.W.Frag} {H : Hp} {i j : Int} {Q : VK} (h0 : 0 ≤ j) (h1 : j ≤ 1000000) (h2 : i.natAbs < 18446744073709551616) (q : Q (.int (i ^ j.toNat)) H) : G.rBin K .Pow (.int i) (.int j) H Q := ⟨⟨h0, h1, h2⟩, q⟩
theorem int_1 {H : Hp} {i : Int} {Q : VK} (q : Q (.int i) H) : G.rInt1 [.int i] H Q := q
theorem add_int {K : PySem.W.Frag} {H : Hp} {i j : Int} {Q : VK} (q : Q (.int (i + j)) H) : G.rBin K .Add (.int i) (.int j) H Q := q
theorem sub_int {K : PySem.W.Frag} {H : Hp} {i j : Int} {Q : VK} (q : Q (.int (i - j)) H) : G.rBin K .Sub (.int i) (.int j) H Q := q
theorem mix_ok {K : PySem.W.Frag} {H : Hp} {c u n : Int} {Q : VK} (n0 : 0 < n) (u0 : 0 ≤ u) (u1 : u < 2 ^ 41) (q : ∀ r, 0 ≤ r → r < n → Q (.int r) H) :
    G.rInt1 [V.int c] H fun x H1 => rBin K .Mod x (V.int 2147483563) H1 fun x H1 => rBin K .Mult (V.int 40692) (V.int u) H1 fun y H2 => rBin K .Add x y H2 fun x H1 => rBin K .Add x (V.int 24681) H1 fun x H1 =>
      rBin K .Pow x (V.int 3) H1 fun x H1 => G.rInt1 [x] H1 fun x H1 => rBin K .Mod x (V.int 2147483629) H1 fun x H1 => rBin K .Mult (V.int 104917) (V.int u) H1 fun y H2 => rBin K .Add x y H2 fun x H1 =>
      rBin K .Pow x (V.int 5) H1 fun x H1 => G.rInt1 [x] H1 fun x H1 => rBin K .Mod x (V.int 2147483579) H1 fun x H1 => rBin K .FloorDiv x (V.int 29) H1 fun x H1 => G.rInt1 [x] H1 fun x H1 => rBin K .Mod x (V.int n) H1 Q := by
  have h1 : 0 ≤ c % 2147483563 := Int.emod_nonneg _ (by decide)
  have h2 : c % 2147483563 < 2147483563 := Int.emod_lt_of_pos _ (by decide)
  refine int_1 (mod_int (by decide) (mul_int (by decide) (by decide) (add_int (add_int (pow_int (by decide) (by decide) (by omega) (int_1 (mod_int (by decide) (mul_int (by decide) (by decide) (add_int ?_)))))))))
  have h3 := Int.emod_nonneg ((c % 2147483563 + 40692 * u + 24681) ^ (3 : Int).toNat) (by decide : (2147483629 : Int) ≠ 0)
  have h4 := Int.emod_lt_of_pos ((c % 2147483563 + 40692 * u + 24681) ^ (3 : Int).toNat) (by decide : (0 : Int) < 2147483629)
  revert h3 h4
  generalize (c % 2147483563 + 40692 * u + 24681) ^ (3 : Int).toNat % 2147483629 = m
  intro h3 h4
  exact pow_int (by decide) (by decide) (by omega) (int_1 (mod_int (by decide) (div_int (by decide) (by decide) (int_1 (mod_int n0 (q _ (Int.emod_nonneg _ (by omega)) (Int.emod_lt_of_pos _ n0)))))))
theorem draw2_ok {K : PySem.W.Frag} {st La Ca : Addr} {n t : Int} {H H1 : Hp} {cs ls : List Int} {left turn : Int} {Q : VK} {nx : L2.St → Hp → Prop} (n0 : 0 < n) (n1 : n ≤ 2 ^ 29) (tl : t ≤ 2 ^ 40) (d : DrwF st La Ca cs H1 ls left turn) (ht : turn ≤ t)
    (fr : Dr st La H H1) (q : ∀ r H', 0 ≤ r → r < n → Drw st La Ca H' (t + 1) → Dr st La H H' → Q (.int r) H') :
    rdDraw2 K ⟨nx, Q, fun _ _ => False, fun _ _ => False⟩ [some (.ref st), some (.int n), none, none, none, none] H1 := by
  unfold rdDraw2
  simp only [tSeq, tWhile, tAnd, tTest, tOp, tVar, tC, tLst, tNil, tAsg, tBM, tCons, gSub, tIfS, tCB, gName, tRet, tNext, tIf, List.getElem?_cons_zero, List.getElem?_cons_succ, List.set_cons_zero, List.set_cons_succ, Option.some.injEq, exists_eq_left']
  have sl : sizeLine = 16777216 := sizeLine_eq
  have d4 : ∀ l t, (dwL La Ca l t).length < sizeLine := fun l t => by rw [sl]; show 4 < 16777216; decide
  refine sub_k d.st dw_left (gt_int ⟨_, rfl, ?_⟩)
  by_cases c : 0 < left
  · rw [if_pos (decide_eq_true c)]
    refine sub_k d.st dw_left (int_1 (mod_int n0 ?_))
    refine sub_k d.st dw_left (div_int n0 (by omega) ?_)
    refine put_k d.st (d4 _ _) ?_
    exact q _ _ (Int.emod_nonneg _ (by omega)) (Int.emod_lt_of_pos _ n0) ⟨cs, ls, _, turn, d.setl (Int.ediv_nonneg (by omega) (by omega)), by omega⟩ fr.put
  · rw [if_neg (by simpa using c)]
    refine sub_k d.st dw_turn ?_
    show G.rPut (.ref st) (.str "turn") (.int (turn + 1)) H1 _
    refine put_k d.st (d4 _ _) ?_
    have t0 := d.t0
    have d2 := d.sett (z := turn + 1) (by omega)
    have f2 : Dr st La H (upd H1 st (.dK (putK (dwL La Ca left turn) (kS "turn") (.int (turn + 1))))) := fr.put
    rw [dw_turn'] at d2 f2 ⊢
    refine sub_k d2.st dw_cells ⟨by rw [sl]; decide, fun p hp => ?_⟩
    have d3 := d2.new (o := .lst []) hp
    have f3 := f2.new (o := .lst []) hp
    refine ne_nil (.inl (.inl d3.ca)) upd_same ⟨_, rfl, ?_⟩
    have u1 : turn + 1 < 2 ^ 41 := by omega
    have fin : ∀ r, 0 ≤ r → r < n → Q (.int r) (upd (upd H1 st (.dK (dwL La Ca left (turn + 1)))) p (.lst [])) := fun r h0 h1 => q r _ h0 h1 ⟨cs, ls, left, turn + 1, d3, by omega⟩ f3
    cases cs with
    | nil =>
      rw [if_neg (by simp)]
      exact mix_ok (c := 0) n0 (by omega) u1 fin
    | cons z zs =>
      rw [if_pos (by simp)]
      refine sub_k d3.st dw_cells (int_1 (sub_k d3.st dw_cells (.inl ⟨_, (z :: zs).length, rfl, .inl ⟨_, .inl (.inl d3.ca), by rw [List.length_map]⟩, mod_int (by rw [List.length_cons]; omega) ?_⟩)))
      have hk : (0 : Int) ≤ (turn + 1) % ((z :: zs).length : Int) := Int.emod_nonneg _ (by rw [List.length_cons]; omega)
      have hk2 : (turn + 1) % ((z :: zs).length : Int) < ((z :: zs).length : Int) := Int.emod_lt_of_pos _ (by rw [List.length_cons]; omega)
      have hk3 : ((turn + 1) % ((z :: zs).length : Int)).toNat < (z :: zs).length := by omega
      refine ix_ok (.inl (.inl d3.ca)) hk (v := .int ((z :: zs)[((turn + 1) % ((z :: zs).length : Int)).toNat])) (by rw [List.getElem?_map, List.getElem?_eq_getElem hk3]; rfl) ?_
      exact mix_ok n0 (by omega) u1 fin
theorem draw_ok {K : PySem.W.Frag} {N : List Str} (hN : N.length = 6) {acts : Acts} {vs : List V} {H : Hp} {Q : VK} {E : XK} {nx : L2.St → Hp → Prop} (h : spDraw acts vs [] H Q E) :
    rdDraw K ⟨nx, Q, fun _ _ => False, fun _ _ => False⟩ (L2.start N vs) H := by
  obtain ⟨st, La, Ca, n, t, e, n0, n1, tl, ⟨cs, ls, left, turn, d, ht⟩, q⟩ := h
  rw [List.append_nil] at e
  subst e
  have eN : L2.start N [.ref st, .int n] = [some (.ref st), some (.int n), none, none, none, none] := by
    unfold L2.start
    rw [hN]
    rfl
  rw [eN]
  unfold rdDraw rdDraw1
  simp only [tSeq, tWhile, tAnd, tTest, tOp, tVar, tC, tLst, tNil, tAsg, tBM, tCons, gSub, tIfS, tCB, gName, tRet, tNext, tIf, List.getElem?_cons_zero, List.getElem?_cons_succ, Option.some.injEq, exists_eq_left']
  have sl : sizeLine = 16777216 := sizeLine_eq
  have d4 : ∀ l t, (dwL La Ca l t).length < sizeLine := fun l t => by rw [sl]; show 4 < 16777216; decide
  refine ⟨fun m σ H' => ∃ ls left, ls.length = m ∧ σ = [some (.ref st), some (.int n), none, none, none, none] ∧ DrwF st La Ca cs H' ls left turn ∧ Dr st La H H', ⟨_, ls, left, rfl, rfl, d, Dr.refl _ _ _⟩, ?_⟩
  rintro m σ H1 ⟨ls, left, rfl, rfl, d, fr⟩
  simp only [List.getElem?_cons_zero, List.getElem?_cons_succ, Option.some.injEq, exists_eq_left']
  refine sub_k d.st dw_left (eq_int ⟨_, rfl, ?_⟩)
  by_cases c : left = 0
  · rw [if_pos (decide_eq_true c)]
    refine sub_k d.st dw_large ⟨by rw [sl]; decide, fun p hp => ?_⟩
    have d2 := d.new (o := .lst []) hp
    have f2 := fr.new (o := .lst []) hp
    refine ne_nil (.inl (.inl d2.la)) upd_same ⟨_, rfl, ?_⟩
    cases ls with
    | nil =>
      rw [if_neg (by simp)]
      exact draw2_ok n0 n1 tl d2 ht f2 q
    | cons z ls =>
      rw [if_pos (by simp)]
      refine ⟨fun σ H' => ∃ left, σ = [some (.ref st), some (.int n), none, none, none, none] ∧ DrwF st La Ca cs H' ls left turn ∧ Dr st La H H', fun σ' H' ⟨l, h1, h2, h3⟩ => ⟨_, Nat.lt_succ_self _, ls, l, rfl, h1, h2, h3⟩, ?_⟩
      refine sub_k d2.st dw_large ⟨.inl ⟨rfl, _, .inl (.inl d2.la)⟩, La, _, 0, 0, .int z, rfl, rfl, d2.la, by decide, by decide, seqIndex_of (Int.le_refl 0) (by rw [List.length_map, List.length_cons]; omega), rfl, ?_⟩
      have d3 := d2.pop
      have f3 := f2.pop (o := .lst (ls.map V.int))
      refine put_k (kvs := dwL La Ca left turn) d3.st (d4 _ _) ⟨z, rfl, d3.setl (d2.ls0 z List.mem_cons_self), f3.put⟩
  · rw [if_neg (by simpa using c), if_neg (by simp)]
    exact draw2_ok n0 n1 tl d ht fr q
end G

set_option Elab.async false
set_option linter.all false
set_option maxRecDepth 100000
set_option maxHeartbeats 8000000
namespace G
open PySem PySem.Spec PyProof.Rows L2 LamX
/-! ## the laws' picks, their beginning, what they catch -/
def spPick : SpG := fun _ vs zs H Q _ => ∃ st La Ca t a xs, vs ++ zs = [.ref st, .ref a] ∧ t ≤ 2 ^ 40 ∧ Drw st La Ca H t ∧ a ≠ La ∧ H a = some (.lst xs) ∧ 0 < xs.length ∧ xs.length ≤ 1000000 ∧
  ∀ x H', x ∈ xs → Drw st La Ca H' (t + 1) → Dr st La H H' → Q x H'
def rdPick (K : PySem.W.Frag) (acts : Acts) (W : WX) : TS :=
  (tRet (tOp (G.rSub2 K) (tVar 1) (tFn spDraw (fun _ _ => acts) W (tCons (tVar 0) (tCons (tCB (G.rLen K) (tCons (tVar 1) tNil)) tNil)) tNil 2 0)))
theorem Drw.full {st La Ca : Addr} {H : Hp} {t : Int} (d : Drw st La Ca H t) : ∃ l u, H st = some (.dK (dwL La Ca l u)) := by
  obtain ⟨_, _, l, u, d, _⟩ := d
  exact ⟨l, u, d.st⟩
theorem pick_ok {K : PySem.W.Frag} {N : List Str} (hN : N.length = 2) {acts acts' : Acts} {W : WX} {vs : List V} {H : Hp} {Q : VK} {E : XK} {nx : L2.St → Hp → Prop} (h : spPick acts vs [] H Q E) :
    rdPick K acts' W ⟨nx, Q, fun _ _ => False, fun _ _ => False⟩ (L2.start N vs) H := by
  obtain ⟨st, La, Ca, t, a, xs, e, tl, d, na, ha, l0, l1, q⟩ := h
  rw [List.append_nil] at e
  subst e
  have eN : L2.start N [.ref st, .ref a] = [some (.ref st), some (.ref a)] := by
    unfold L2.start
    rw [hN]
    rfl
  rw [eN]
  unfold rdPick
  simp only [tOp, tVar, tNil, tCons, tCB, tRet, tFn, List.getElem?_cons_zero, List.getElem?_cons_succ, Option.some.injEq, exists_eq_left']
  refine .inl ⟨_, xs.length, rfl, .inl ⟨_, .inl (.inl ha), rfl⟩, rfl, rfl, ?_⟩
  refine ⟨st, La, Ca, xs.length, t, rfl, by omega, by omega, tl, d, fun r H' h0 h1 d' f' => ?_⟩
  have ns : a ≠ st := fun e => by
    obtain ⟨l, u, z⟩ := d.full
    rw [← e, ha] at z
    cases z
  have h2 : r.toNat < xs.length := by omega
  refine ix_ok (.inl (.inl (f' a _ ha ns na))) h0 (List.getElem?_eq_getElem h2) (q _ _ (List.getElem_mem h2) d' f')
/-! ### the beginning -/
def spBegun (K : PySem.W.Frag) : SpG := fun _ vs us H Q _ => ∃ (a : Addr) (zs : List Int), vs ++ us = [.ref a] ∧ SqL K H a (zs.map V.int) ∧ zs.length ≤ 1000000 ∧
  ∀ st La Ca H', H st = none → H La = none → Same H H' → Drw st La Ca H' 0 → Q (.ref st) H'
def rdBegun (K : PySem.W.Frag) : TS :=
  (tSeq (tAsg (tLc (iSeq K (tVar 0)) (gName 2) tYes (tCB G.rAbs1 (tCons (tVar 2) tNil)) [2]) (gName 1))
  (tSeq (tAsg (tLc (iSeq K (tVar 1)) (gName 2) (tTest (tOp (G.rCmp K .GtE) (tVar 2) (tOp (G.rBin K .Pow) (tC (.int 10)) (tC (.int 18))))) (tOp (G.rBin K .Sub) (tVar 2) (tOp (G.rBin K .Pow) (tC (.int 10)) (tC (.int 18)))) [2]) (gName 3))
  (tRet (tDisp [((tC (.str "large")), (tVar 3)), ((tC (.str "cells")), (tVar 1)), ((tC (.str "left")), (tC (.int 0))), ((tC (.str "turn")), (tC (.int 0)))]))))
theorem sql_same {K : PySem.W.Frag} {H H' : Hp} {a : Addr} {xs : List V} (h : SqL K H a xs) (e : Same H H') : SqL K H' a xs := by
  rcases h with (h | ⟨o, h⟩) | h
  · exact .inl (.inl (e _ _ h))
  · exact .inl (.inr ⟨o, e _ _ h⟩)
  · exact .inr h
theorem same_new {H H' : Hp} {p : Addr} {o : HO} (e : Same H H') (n : H p = none) : Same H (upd H' p o) := fun b u h => by
  rw [upd_ne (ne_of_none h n)]
  exact e b u h
theorem ge_int {K : PySem.W.Frag} {H : Hp} {i j : Int} {Q : VK} (q : Q (.bl (decide (j ≤ i))) H) : G.rCmp K .GtE (.int i) (.int j) H Q := q
theorem begun_ok {K : PySem.W.Frag} {N : List Str} (hN : N.length = 4) {acts : Acts} {vs : List V} {H : Hp} {Q : VK} {E : XK} {nx : L2.St → Hp → Prop} (h : spBegun K acts vs [] H Q E) :
    rdBegun K ⟨nx, Q, fun _ _ => False, fun _ _ => False⟩ (L2.start N vs) H := by
  obtain ⟨a, zs, e, ha, hl, q⟩ := h
  rw [List.append_nil] at e
  subst e
  have eN : L2.start N [.ref a] = [some (.ref a), none, none, none] := by
    unfold L2.start
    rw [hN]
    rfl
  rw [eN]
  unfold rdBegun
  simp only [tSeq, tAsg, lc_go, iSeq, iList, tVar, tC, gName, tRet, List.getElem?_cons_zero, List.getElem?_cons_succ, List.set_cons_zero, List.set_cons_succ, Option.some.injEq, exists_eq_left']
  refine .inl ⟨a, rfl, ⟨_, ha⟩, ?_⟩
  refine lc_list (zs.map V.int) (fun D i acc H' => H D = none ∧ Same H H' ∧ ∃ cs : List Int, acc = cs.map V.int ∧ ∀ z ∈ cs, 0 ≤ z) (fun D hD => ⟨hD, same_new (Same.refl H) hD, [], rfl, fun z hz => nomatch hz⟩) (fun D i acc H' h => sql_same ha h.2.1) ?_ ?_
  · rintro D i acc H' x hx hA hz ⟨hD, hS, cs, rfl, h0⟩
    rw [List.getElem?_map] at hx
    obtain ⟨z, hz2, rfl⟩ := Option.map_eq_some_iff.mp hx
    have hi : i < zs.length := (List.getElem?_eq_some_iff.mp hz2).1
    show tCB G.rAbs1 (tCons (tVar 2) tNil) [some (.ref a), none, some (.int z), none] H' _
    simp only [tCB, tCons, tVar, tNil, List.getElem?_cons_zero, List.getElem?_cons_succ, Option.some.injEq, exists_eq_left']
    refine Lp.put hA hz (by omega) ⟨hD, same_new hS hD, cs ++ [_], by rw [List.map_append]; rfl, fun w hw => ?_⟩
    rcases List.mem_append.mp hw with h | h
    · exact h0 w h
    · rw [List.mem_singleton.mp h]
      split <;> omega
  · rintro Ca acc H1 hl2 hA ⟨hD, hS, cs, rfl, h0⟩
    rw [List.length_map, List.length_map] at hl2
    refine .inl ⟨Ca, rfl, ⟨_, .inl (.inl hA)⟩, ?_⟩
    refine lc_list (cs.map V.int) (fun D i acc H' => H1 D = none ∧ Same H1 H' ∧ ∃ ls : List Int, acc = ls.map V.int ∧ ∀ z ∈ ls, 0 ≤ z) (fun D hD => ⟨hD, same_new (Same.refl H1) hD, [], rfl, fun z hz => nomatch hz⟩) (fun D i acc H' h => .inl (.inl (h.2.1 _ _ hA))) ?_ ?_
    · rintro D i acc H' x hx hB hz ⟨hD, hS, ls, rfl, h0⟩
      rw [List.getElem?_map] at hx
      obtain ⟨z, hz2, rfl⟩ := Option.map_eq_some_iff.mp hx
      have hi : i < cs.length := (List.getElem?_eq_some_iff.mp hz2).1
      show tTest (tOp (G.rCmp K .GtE) (tVar 2) (tOp (G.rBin K .Pow) (tC (.int 10)) (tC (.int 18)))) [some (.ref a), some (.ref Ca), some (.int z), none] H' _
      simp only [tTest, tOp, tVar, tC, List.getElem?_cons_zero, List.getElem?_cons_succ, Option.some.injEq, exists_eq_left']
      refine pow_int (by decide) (by decide) (by decide) (ge_int ⟨_, rfl, ?_⟩)
      by_cases c : (10 : Int) ^ (18 : Int).toNat ≤ z
      · rw [if_pos (decide_eq_true c)]
        show tOp (G.rBin K .Sub) (tVar 2) (tOp (G.rBin K .Pow) (tC (.int 10)) (tC (.int 18))) [some (.ref a), some (.ref Ca), some (.int z), none] H' _
        simp only [tTest, tOp, tVar, tC, List.getElem?_cons_zero, List.getElem?_cons_succ, Option.some.injEq, exists_eq_left']
        refine pow_int (by decide) (by decide) (by decide) (sub_int ?_)
        refine Lp.put hB hz (by omega) ⟨hD, same_new hS hD, ls ++ [_], by rw [List.map_append]; rfl, fun w hw => ?_⟩
        rcases List.mem_append.mp hw with h | h
        · exact h0 w h
        · rw [List.mem_singleton.mp h]
          omega
      · rw [if_neg (by simpa using c)]
        exact Lp.skip hB hz ⟨hD, hS, ls, rfl, h0⟩
    · rintro La acc H2 hl3 hB ⟨hD2, hS2, ls, rfl, h02⟩
      rw [List.length_map, List.length_map] at hl3
      have hC := hS2 _ _ hA
      have sl : sizeLine = 16777216 := sizeLine_eq
      intro st hst
      show tPairs _ _ _ _
      simp only [tPairs, tC, tVar, List.getElem?_cons_zero, List.getElem?_cons_succ, List.set_cons_zero, List.set_cons_succ, Option.some.injEq, exists_eq_left']
      refine ⟨upd_same, [(kS "large", .ref La), (kS "cells", .ref Ca), (kS "left", .int 0), (kS "turn", .int 0)], rfl, Nat.le_of_ble_eq_true rfl, ?_⟩
      have nLa : La ≠ st := ne_of_none hB hst
      have nCa : Ca ≠ st := ne_of_none hC hst
      have nLC : La ≠ Ca := fun e => by rw [e, hA] at hD2; cases hD2
      have n0 : ∀ b, H2 b = none → H b = none := fun b n => by
        cases z : H b with
        | none => rfl
        | some o => rw [hS2 _ _ (hS _ _ z)] at n; cases n
      rw [dw_new, upd_upd]
      refine q st La Ca _ (n0 st hst) ?_ (same_new (hS.trans hS2) (n0 st hst)) ⟨cs, ls, 0, 0, ?_, Int.le_refl 0⟩
      · cases z : H La with
        | none => rfl
        | some o => rw [hS _ _ z] at hD2; cases hD2
      · exact ⟨upd_same, by rw [upd_ne nLa]; exact hB, by rw [upd_ne nCa]; exact hC, nLC, Int.le_refl 0, h02, by omega, by omega, Int.le_refl 0⟩
/-! ### what is caught -/
def spCaught (K : PySem.W.Frag) : SpG := fun acts vs zs H Q E => ∃ (f : Addr) (tl : TL), vs ++ zs = [.ref f] ∧ acts f tl ∧
  tl (fun cls d H' => ∃ b, PySem.W.exmOne K cls (.ref (He.ga K "ReelError")) = some b ∧ (b = true → ∀ a, H' a = none → Q (.ref a) (upd H' a (ExT cls d a))) ∧ (b = false → E cls d H')) H fun _ H' => Q .non H'
def rdCaught (K : PySem.W.Frag) (acts : Acts) (W : WX) : TS :=
  (tSeq (tAsg (tC .non) (gName 1))
  (tSeq (fun D σ H => (tDrop (tThunk 0 acts (wKeep K (.ref (He.ga K "ReelError")) 2 (tAsg (tVar 2) (gName 1)) W D))) D σ H)
  (tRet (tVar 1))))
theorem caught_ok {K : PySem.W.Frag} {N : List Str} (hN : N.length = 3) {acts : Acts} {vs : List V} {H : Hp} {Q : VK} {E : XK} {nx : L2.St → Hp → Prop} (h : spCaught K acts vs [] H Q E) :
    rdCaught K (fun g tl => true = true ∧ acts g tl) (fun cls d _ H' => E cls d H') ⟨nx, Q, fun _ _ => False, fun _ _ => False⟩ (L2.start N vs) H := by
  obtain ⟨f, tl, e, ha, ht⟩ := h
  rw [List.append_nil] at e
  subst e
  have eN : L2.start N [.ref f] = [some (.ref f), none, none] := by
    unfold L2.start
    rw [hN]
    rfl
  rw [eN]
  unfold rdCaught
  simp only [tSeq, tAsg, tC, tDrop, tThunk, wKeep, tVar, gName, tRet, List.getElem?_cons_zero, List.getElem?_cons_succ, List.set_cons_zero, List.set_cons_succ, Option.some.injEq, exists_eq_left']
  refine ⟨f, tl, rfl, ⟨trivial, ha⟩, ?_⟩
  unfold WE wKeep
  simp only [tAsg, tVar, gName, tRet, List.getElem?_cons_zero, List.getElem?_cons_succ, List.set_cons_zero, List.set_cons_succ, Option.some.injEq, exists_eq_left']
  exact ht
/-! ### a pick from a list that was just made -/
theorem pick_new {st La Ca p : Addr} {H : Hp} {t : Int} {xs : List V} {acts : Acts} {Q : VK} {E : XK} (d : Drw st La Ca H t) (tl : t ≤ 2 ^ 40) (hp : H p = none) (l0 : 0 < xs.length) (l1 : xs.length ≤ 1000000)
    (q : ∀ x H', x ∈ xs → Drw st La Ca H' (t + 1) → Dr st La H H' → Q x H') : spPick acts [.ref st, .ref p] [] (upd H p (.lst xs)) Q E := by
  refine ⟨st, La, Ca, t, p, xs, rfl, tl, d.new hp, fun e => ?_, upd_same, l0, l1, fun x H' hx d' f' => q x H' hx d' (((Dr.refl st La H).new hp).trans f')⟩
  obtain ⟨_, _, _, _, z, _⟩ := d
  rw [e, z.la] at hp
  cases hp
/-! ### what a law's lambdas leave alone: all but the state, its list, the tables -/
def DrN (st La : Addr) (H H' : Hp) : Prop := ∀ b o, H b = some o → b ≠ st → b ≠ La → (∀ ps, o ≠ .tbl ps) → H' b = some o
theorem DrN.refl (st La : Addr) (H : Hp) : DrN st La H H := fun _ _ h _ _ _ => h
theorem DrN.trans {st La : Addr} {H H1 H2 : Hp} (a : DrN st La H H1) (b : DrN st La H1 H2) : DrN st La H H2 := fun c o h n m k => b c o (a c o h n m k) n m k
theorem Dr.n {st La : Addr} {H H' : Hp} (a : Dr st La H H') : DrN st La H H' := fun b o h n m _ => a b o h n m
theorem ext_n {st La : Addr} {H H' : Hp} (a : ExtN H H') : DrN st La H H' := fun b o h _ _ k => a b o h k
theorem DrN.new {st La p : Addr} {H H1 : Hp} {o : HO} (a : DrN st La H H1) (n : H1 p = none) : DrN st La H (upd H1 p o) := fun c u h n1 m k => by
  have q := a c u h n1 m k
  rw [upd_ne (ne_of_none q n)]
  exact q
section
variable {st La Ca a : Addr} {H H' : Hp} {t u : Int}
theorem Drw.la (d : Drw st La Ca H t) : ∃ xs, H La = some (.lst xs) := by
  obtain ⟨_, _, _, _, z, _⟩ := d
  exact ⟨_, z.la⟩
theorem Drw.keepT (d : Drw st La Ca H t) (n : DrN st La H H') {xs : List V} (h : H a = some (.tup xs)) : H' a = some (.tup xs) := by
  obtain ⟨l, v, z⟩ := d.full
  obtain ⟨ys, z2⟩ := d.la
  exact n a _ h (fun e => by rw [e, z] at h; cases h) (fun e => by rw [e, z2] at h; cases h) fun _ e => by cases e
theorem Drw.keepX (d : Drw st La Ca H t) (n : DrN st La H H') {φ : Heap → Prop} (h : H a = some (.ext φ)) : H' a = some (.ext φ) := by
  obtain ⟨l, v, z⟩ := d.full
  obtain ⟨ys, z2⟩ := d.la
  exact n a _ h (fun e => by rw [e, z] at h; cases h) (fun e => by rw [e, z2] at h; cases h) fun _ e => by cases e
theorem Drw.keepL (d : Drw st La Ca H t) (n : DrN st La H H') {xs : List V} (ha : a ≠ La) (h : H a = some (.lst xs)) : H' a = some (.lst xs) := by
  obtain ⟨l, v, z⟩ := d.full
  exact n a _ h (fun e => by rw [e, z] at h; cases h) ha fun _ e => by cases e
theorem Drw.ext (d : Drw st La Ca H t) (n : ExtN H H') : Drw st La Ca H' t := by
  obtain ⟨cs, ls, l, v, z, h⟩ := d
  exact ⟨cs, ls, l, v, { z with st := n _ _ z.st (fun _ e => by cases e), la := n _ _ z.la (fun _ e => by cases e), ca := n _ _ z.ca (fun _ e => by cases e) }, h⟩
theorem tabs_new {T : List (Addr × Str)} {p : Addr} {o : HO} (h : Tabs T H) (n : H p = none) : Tabs T (upd H p o) := fun q hq => (h q hq).ext fun b u e => by
  rw [upd_ne (ne_of_none e n)]
  exact e
theorem tabs_dr {T : List (Addr × Str)} (h : Tabs T H) (d : Drw st La Ca H t) (n : Dr st La H H') : Tabs T H' := fun q hq => by
  obtain ⟨ps, h1, h2, h3⟩ := h q hq
  obtain ⟨l, v, z⟩ := d.full
  obtain ⟨ys, z2⟩ := d.la
  refine ⟨ps, n _ _ h1 (fun e => by rw [e, z] at h1; cases h1) (fun e => by rw [e, z2] at h1; cases h1), h2, fun pos cv hc => ?_⟩
  obtain ⟨c, e1, e2⟩ := h3 pos cv hc
  exact ⟨c, e1, d.keepX n.n e2⟩
end
/-! ### what is caught of a lambda -/
/-- how an error that leaves the lambda ends: kept, if it is the package's -/
def ErrK (K : PySem.W.Frag) (Q : VK) (E : XK) : XK := fun cls d H' => ∃ b, PySem.W.exmOne K cls (.ref (He.ga K "ReelError")) = some b ∧ (b = true → ∀ a, H' a = none → Q (.ref a) (upd H' a (ExT cls d a))) ∧ (b = false → E cls d H')
def tCaught (K : PySem.W.Frag) (acts : L2.St → Hp → Acts) (W : WX) (t : TE) : TE := tFn (spCaught K) acts W (tCons t tNil) tNil 1 0
theorem caught_lam {K : PySem.W.Frag} {n : Nat} {Γ : Gam} {sc scope : Scope} {body : Expr} {σ : L2.St} {H : Hp} {Q : VK} {W : WX} {lm : WX → TE} (hP : Γ.P.isSome = true) (L : lamSB sc scope = true) (hq : ∀ W', wE K n Γ.low scope W' body = lm W')
    (hT : Tabs Γ.T H) (go : ∀ H2, ExtN H H2 → Tabs Γ.T H2 → lm (fun cls d _ H' => ErrK K Q (WE W σ) cls d H') σ H2 fun _ H' => Q .non H') :
    tCaught K (actsAt Γ sc fun s W b => wE K n Γ.low s W b) W (tLamV Γ.qual Γ.cells Γ.T body scope) σ H Q := by
  refine ⟨hT, fun f c' o H1 hE hT1 nf hL hc => ?_⟩
  refine ⟨rfl, rfl, f, fun E H' Q' => H' c' = some (CodeO c' (Γ.qual ++ "<lambda>")) ∧ wE K n Γ.low scope (fun cls d _ H'' => E cls d H'') body σ H' Q', rfl, ?_, ?_⟩
  · unfold actsAt
    cases e : Γ.P with
    | none => rw [e] at hP; cases hP
    | some p => exact .inr ⟨o, body, scope, c', hP, L, upd_same, hL, rfl⟩
  · refine ⟨by rw [upd_ne (ne_of_none hc nf)]; exact hc, ?_⟩
    rw [hq]
    exact go _ (fun b u e k => by
      have z := hE b u e k
      rw [upd_ne (ne_of_none z nf)]
      exact z) (tabs_new hT1 nf)
end G

set_option Elab.async false
set_option linter.all false
set_option maxRecDepth 100000
set_option maxHeartbeats 8000000
namespace Pk
open PySem PySem.Spec PyProof.Rows L2 LamX G
/-! ## values of any kind -/
/-- none, a bool, an int, a text, a list, a tuple, a dict -/
def Kd (H : Hp) : V → Prop
  | .non => True
  | .bl _ => True
  | .int _ => True
  | .str _ => True
  | .ref a => (∃ xs, H a = some (.lst xs)) ∨ (∃ xs, H a = some (.tup xs)) ∨ ∃ kvs, H a = some (.dK kvs)
  | _ => False
def isTy (n : String) : V → Bool
  | .bl _ => n == "bool" || n == "int"
  | .int _ => n == "int"
  | .str _ => n == "str"
  | _ => false
theorem kit_b {K : PySem.W.Frag} : PySem.W.kitOne K (.type "bool") (.type "int") = some true ∧ PySem.W.kitOne K (.type "bool") (.type "bool") = some true ∧ PySem.W.kitOne K (.type "bool") (.type "str") = some false := ⟨rfl, rfl, rfl⟩
theorem isX_kd {K : PySem.W.Frag} {H : Hp} {x : V} {n : String} {Q : VK} (hn : n = "int" ∨ n = "bool" ∨ n = "str") (k : Kd H x) (q : Q (.bl (isTy n x)) H) : G.rIsX K [x, .ty n] H Q := by
  refine .inl ?_
  have go : ∀ (t : String) (b : Bool), TyOf K H x (.type t) → PySem.W.kitOne K (.type t) (.type n) = some b → b = isTy n x → rIsi K [x, .ty n] H Q := fun t b h1 h2 h3 => ⟨x, .ty n, _, .type n, b, rfl, .ty n, .base h1, h2, by rw [h3]; exact q⟩
  cases x with
  | non => rcases hn with rfl | rfl | rfl <;> exact go _ _ .non rfl rfl
  | bl b => rcases hn with rfl | rfl | rfl <;> exact go _ _ (.bl b) rfl rfl
  | int i => rcases hn with rfl | rfl | rfl <;> exact go _ _ (.int i) rfl rfl
  | str y => rcases hn with rfl | rfl | rfl <;> exact go _ _ (.str y) rfl rfl
  | ref a =>
    rcases k with ⟨xs, h⟩ | ⟨xs, h⟩ | ⟨kvs, h⟩
    · rcases hn with rfl | rfl | rfl <;> exact go _ _ (.lst h) rfl rfl
    · rcases hn with rfl | rfl | rfl <;> exact go _ _ (.tup h) rfl rfl
    · rcases hn with rfl | rfl | rfl <;> exact go _ _ (.dK h) rfl rfl
  | _ => exact k.elim
def isNum : V → Bool
  | .int _ => true
  | _ => false
def btw (x : V) (lo hi : Int) : Bool := match x with
  | .int i => decide (lo ≤ i) && decide (i ≤ hi)
  | _ => false
theorem isNum_eq (x : V) : isNum x = (isTy "int" x && !isTy "bool" x) := by cases x <;> rfl
theorem btw_int {x : V} {lo hi : Int} (h : btw x lo hi = true) : ∃ i, x = .int i ∧ lo ≤ i ∧ i ≤ hi := by
  cases x with
  | int i =>
    have z : (decide (lo ≤ i) && decide (i ≤ hi)) = true := h
    rw [Bool.and_eq_true, decide_eq_true_eq, decide_eq_true_eq] at z
    exact ⟨i, rfl, z.1, z.2⟩
  | _ => cases h
theorem btw_of {i lo hi : Int} (h1 : lo ≤ i) (h2 : i ≤ hi) : btw (.int i) lo hi = true := by
  show (decide (lo ≤ i) && decide (i ≤ hi)) = true
  rw [decide_eq_true h1, decide_eq_true h2]
  rfl
def isBits : V → Bool
  | .str a => decide (Txt.stripChars a "01" = "")
  | _ => false
def foldZ (i : Int) : Int := if 0 < i then 2 * i - 1 else -2 * i
def unfoldZ (i : Int) : Int := if i % 2 = 1 then (i + 1) / 2 else -(i / 2)
def many (i : Int) : Nat := (foldZ i + 1).toNat.log2
def longW (i : Int) : Str := ones (many i) ++ "0" ++ tw (many i) (foldZ i + 1) ""
def gradeW (i g : Int) : Str := if foldZ i / 2 ^ g.toNat < 12 then ones (foldZ i / 2 ^ g.toNat).toNat ++ "0" ++ tw g.toNat (foldZ i % 2 ^ g.toNat) "" else ones 12 ++ tw 16 (foldZ i) ""
/-! ## what each def promises -/
abbrev SpD := List V → Hp → VK → XK → Prop
abbrev bad (K : PySem.W.Frag) (x : Str) : Value := .ref (He.ga K x)
def sp_is_number : SpD := fun vs H Q _ => ∃ x, vs = [x] ∧ Kd H x ∧ Q (.bl (isNum x)) H
def sp_is_between : SpD := fun vs H Q _ => ∃ x lo hi, vs = [x, .int lo, .int hi] ∧ Kd H x ∧ Q (.bl (btw x lo hi)) H
def sp_is_told : SpD := fun vs H Q _ => ∃ x, vs = [x] ∧ Kd H x ∧ Q (.bl (btw x (-32767) 32767)) H
def sp_is_bits : SpD := fun vs H Q _ => ∃ x, vs = [x] ∧ Kd H x ∧ (∀ a, x = .str a → a.length ≤ 1000000) ∧ Q (.bl (isBits x)) H
def sp_need (K : PySem.W.Frag) (C : Str) (lo hi : Int) : SpD := fun vs H Q E => ∃ x, vs = [x] ∧ Kd H x ∧ (btw x lo hi = true → Q .non H) ∧ (btw x lo hi = false → E (bad K C) none H)
def sp_fold : SpD := fun vs H Q _ => ∃ i, vs = [.int i] ∧ -1000000000000 < i ∧ i < 1000000000000 ∧ Q (.int (foldZ i)) H
def sp_unfold : SpD := fun vs H Q _ => ∃ i, vs = [.int i] ∧ Q (.int (unfoldZ i)) H
def sp_folded (K : PySem.W.Frag) : SpD := fun vs H Q E => ∃ x, vs = [x] ∧ Kd H x ∧ (∀ i, x = .int i → -32767 ≤ i → i ≤ 32767 → Q (.int (foldZ i)) H) ∧ (btw x (-32767) 32767 = false → E (bad K "BadNumber") none H)
def sp_unfolded (K : PySem.W.Frag) : SpD := fun vs H Q E => ∃ x, vs = [x] ∧ Kd H x ∧ (∀ i, x = .int i → 0 ≤ i → i ≤ 65534 → Q (.int (unfoldZ i)) H) ∧ (btw x 0 65534 = false → E (bad K "BadNumber") none H)
def sp_in_twos : SpD := fun vs H Q _ => ∃ i k, vs = [.int i, .int k] ∧ 0 ≤ k ∧ k ≤ 100 ∧ Q (.str (tw k.toNat i "")) H
def sp_fixed_bits (K : PySem.W.Frag) : SpD := fun vs H Q E => ∃ x y, vs = [x, y] ∧ Kd H x ∧ Kd H y ∧ (∀ i k, x = .int i → y = .int k → 1 ≤ k → k ≤ 16 → 0 ≤ i → i < 2 ^ k.toNat → Q (.str (tw k.toNat i "")) H) ∧ (btw y 1 16 = false → E (bad K "BadMany") none H) ∧
  (∀ k, y = .int k → 1 ≤ k → k ≤ 16 → btw x 0 (2 ^ k.toNat - 1) = false → E (bad K "BadNumber") none H)
def sp_long_word : SpD := fun vs H Q _ => ∃ i, vs = [.int i] ∧ -32768 < i ∧ i < 32768 ∧ Q (.str (longW i)) H
def sp_long_bits (K : PySem.W.Frag) : SpD := fun vs H Q E => ∃ x, vs = [x] ∧ Kd H x ∧ (∀ i, x = .int i → -32767 ≤ i → i ≤ 32767 → Q (.str (longW i)) H) ∧ (btw x (-32767) 32767 = false → E (bad K "BadNumber") none H)
def sp_grade_word : SpD := fun vs H Q _ => ∃ i g, vs = [.int i, .int g] ∧ -32768 < i ∧ i < 32768 ∧ 0 ≤ g ∧ g ≤ 7 ∧ Q (.str (gradeW i g)) H
def sp_grade_bits (K : PySem.W.Frag) : SpD := fun vs H Q E => ∃ x y, vs = [x, y] ∧ Kd H x ∧ Kd H y ∧ (∀ i g, x = .int i → y = .int g → -32767 ≤ i → i ≤ 32767 → 0 ≤ g → g ≤ 7 → Q (.str (gradeW i g)) H) ∧ (btw x (-32767) 32767 = false → E (bad K "BadNumber") none H) ∧
  (btw x (-32767) 32767 = true → btw y 0 7 = false → E (bad K "BadGrade") none H)
abbrev sh (s : SpD) (ix : List Nat) : SpG := fun _ vs zs H Q E => s (pick (vs ++ zs) ix) H Q E
abbrev S_is_number (_ : PySem.W.Frag) : SpG := sh sp_is_number [0]
abbrev S_is_between (_ : PySem.W.Frag) : SpG := sh sp_is_between [0, 1, 2]
abbrev S_is_told (_ : PySem.W.Frag) : SpG := sh sp_is_told [0]
abbrev S_is_bits (_ : PySem.W.Frag) : SpG := sh sp_is_bits [0]
abbrev S_need_told (K : PySem.W.Frag) : SpG := sh (sp_need K "BadNumber" (-32767) 32767) [0]
abbrev S_need_grade (K : PySem.W.Frag) : SpG := sh (sp_need K "BadGrade" 0 7) [0]
abbrev S_need_many (K : PySem.W.Frag) : SpG := sh (sp_need K "BadMany" 1 16) [0]
abbrev S_fold (_ : PySem.W.Frag) : SpG := sh sp_fold [0]
abbrev S_unfold (_ : PySem.W.Frag) : SpG := sh sp_unfold [0]
abbrev S_folded (K : PySem.W.Frag) : SpG := sh (sp_folded K) [0]
abbrev S_unfolded (K : PySem.W.Frag) : SpG := sh (sp_unfolded K) [0]
abbrev S_in_twos (_ : PySem.W.Frag) : SpG := sh sp_in_twos [0, 1]
abbrev S_fixed_bits (K : PySem.W.Frag) : SpG := sh (sp_fixed_bits K) [0, 1]
abbrev S_long_word (_ : PySem.W.Frag) : SpG := sh sp_long_word [0]
abbrev S_long_bits (K : PySem.W.Frag) : SpG := sh (sp_long_bits K) [0]
abbrev S_grade_word (_ : PySem.W.Frag) : SpG := sh sp_grade_word [0, 1]
abbrev S_grade_bits (K : PySem.W.Frag) : SpG := sh (sp_grade_bits K) [0, 1]
abbrev S_folded_k0_number (K : PySem.W.Frag) : SpG := sh (sp_folded K) [0]
abbrev S_unfolded_k0_number (K : PySem.W.Frag) : SpG := sh (sp_unfolded K) [0]
abbrev S_long_bits_k0_number (K : PySem.W.Frag) : SpG := sh (sp_long_bits K) [0]
abbrev S_grade_bits_k0_grade_number (K : PySem.W.Frag) : SpG := sh (sp_grade_bits K) [1, 0]
abbrev S_fixed_bits_k0_many_number (K : PySem.W.Frag) : SpG := sh (sp_fixed_bits K) [1, 0]
abbrev S_is_bits_k0_thing (_ : PySem.W.Frag) : SpG := sh sp_is_bits [0]
/-! ## the readings -/
abbrev act_is_number (acts : Acts) : Acts := fun g tl => false = true ∧ acts g tl
def t_is_number (K : PySem.W.Frag) (cells : List (Str × Addr)) (acts : Acts) (T : List (Addr × Str)) (pt : Option Addr) (W : WX) : TS :=
  (tRet (tAndT K (tCB (G.rIsX K) (tCons (tVar 0) (tCons (tC (.ty "int")) tNil))) (tNotT K (tCB (G.rIsX K) (tCons (tVar 0) (tCons (tC (.ty "bool")) tNil))))))
abbrev act_is_between (acts : Acts) : Acts := fun g tl => false = true ∧ acts g tl
def t_is_between (K : PySem.W.Frag) (cells : List (Str × Addr)) (acts : Acts) (T : List (Addr × Str)) (pt : Option Addr) (W : WX) : TS :=
  (tRet (tAndT K (tFn (S_is_number K) (fun _ _ => act_is_between acts) W (tCons (tVar 0) tNil) tNil 1 0) (tChain (G.rCmp K .LtE) (G.rCmp K .LtE) (tVar 1) (tVar 0) (tVar 2))))
abbrev act_is_told (acts : Acts) : Acts := fun g tl => false = true ∧ acts g tl
def t_is_told (K : PySem.W.Frag) (cells : List (Str × Addr)) (acts : Acts) (T : List (Addr × Str)) (pt : Option Addr) (W : WX) : TS :=
  (tRet (tFn (S_is_between K) (fun _ _ => act_is_told acts) W (tCons (tVar 0) (tCons (tUn (rU fun i => .int (-i)) (tC (.int 32767))) (tCons (tC (.int 32767)) tNil))) tNil 3 0))
abbrev act_is_bits (acts : Acts) : Acts := fun g tl => false = true ∧ acts g tl
def t_is_bits (K : PySem.W.Frag) (cells : List (Str × Addr)) (acts : Acts) (T : List (Addr × Str)) (pt : Option Addr) (W : WX) : TS :=
  (tRet (tAndT K (tCB (G.rIsX K) (tCons (tVar 0) (tCons (tC (.ty "str")) tNil))) (tOp (G.rCmp K .Eq) (tBM K "str" G.rStripC (tVar 0) (tCons (tC (.str "01")) tNil)) (tC (.str "")))))
abbrev act_need_told (acts : Acts) : Acts := fun g tl => false = true ∧ acts g tl
def t_need_told (K : PySem.W.Frag) (cells : List (Str × Addr)) (acts : Acts) (T : List (Addr × Str)) (pt : Option Addr) (W : WX) : TS :=
  (tIfS (tNot (tTru K (tFn (S_is_told K) (fun _ _ => act_need_told acts) W (tCons (tVar 0) tNil) tNil 1 0)))
  (tRaise0 (He.ga K "BadNumber") W)
  tNext)
abbrev act_need_grade (acts : Acts) : Acts := fun g tl => false = true ∧ acts g tl
def t_need_grade (K : PySem.W.Frag) (cells : List (Str × Addr)) (acts : Acts) (T : List (Addr × Str)) (pt : Option Addr) (W : WX) : TS :=
  (tIfS (tNot (tTru K (tFn (S_is_between K) (fun _ _ => act_need_grade acts) W (tCons (tVar 0) (tCons (tC (.int 0)) (tCons (tC (.int 7)) tNil))) tNil 3 0)))
  (tRaise0 (He.ga K "BadGrade") W)
  tNext)
abbrev act_need_many (acts : Acts) : Acts := fun g tl => false = true ∧ acts g tl
def t_need_many (K : PySem.W.Frag) (cells : List (Str × Addr)) (acts : Acts) (T : List (Addr × Str)) (pt : Option Addr) (W : WX) : TS :=
  (tIfS (tNot (tTru K (tFn (S_is_between K) (fun _ _ => act_need_many acts) W (tCons (tVar 0) (tCons (tC (.int 1)) (tCons (tC (.int 16)) tNil))) tNil 3 0)))
  (tRaise0 (He.ga K "BadMany") W)
  tNext)
abbrev act_fold (acts : Acts) : Acts := fun g tl => false = true ∧ acts g tl
def t_fold (K : PySem.W.Frag) (cells : List (Str × Addr)) (acts : Acts) (T : List (Addr × Str)) (pt : Option Addr) (W : WX) : TS :=
  (tRet (tIf (tTest (tOp (G.rCmp K .Gt) (tVar 0) (tC (.int 0)))) (tOp (G.rBin K .Sub) (tOp (G.rBin K .Mult) (tC (.int 2)) (tVar 0)) (tC (.int 1))) (tOp (G.rBin K .Mult) (tUn (rU fun i => .int (-i)) (tC (.int 2))) (tVar 0))))
abbrev act_unfold (acts : Acts) : Acts := fun g tl => false = true ∧ acts g tl
def t_unfold (K : PySem.W.Frag) (cells : List (Str × Addr)) (acts : Acts) (T : List (Addr × Str)) (pt : Option Addr) (W : WX) : TS :=
  (tRet (tIf (tTest (tOp (G.rCmp K .Eq) (tOp (G.rBin K .Mod) (tVar 0) (tC (.int 2))) (tC (.int 1)))) (tOp (G.rBin K .FloorDiv) (tOp (G.rBin K .Add) (tVar 0) (tC (.int 1))) (tC (.int 2))) (tUn (rU fun i => .int (-i)) (tOp (G.rBin K .FloorDiv) (tVar 0) (tC (.int 2))))))
abbrev act_folded (acts : Acts) : Acts := fun g tl => false = true ∧ acts g tl
def t_folded (K : PySem.W.Frag) (cells : List (Str × Addr)) (acts : Acts) (T : List (Addr × Str)) (pt : Option Addr) (W : WX) : TS :=
  (tSeq (tDrop (tFn (S_need_told K) (fun _ _ => act_folded acts) W (tCons (tVar 0) tNil) tNil 1 0))
  (tRet (tFn (S_fold K) (fun _ _ => act_folded acts) W (tCons (tVar 0) tNil) tNil 1 0)))
abbrev act_unfolded (acts : Acts) : Acts := fun g tl => false = true ∧ acts g tl
def t_unfolded (K : PySem.W.Frag) (cells : List (Str × Addr)) (acts : Acts) (T : List (Addr × Str)) (pt : Option Addr) (W : WX) : TS :=
  (tSeq (tIfS (tNot (tTru K (tFn (S_is_between K) (fun _ _ => act_unfolded acts) W (tCons (tVar 0) (tCons (tC (.int 0)) (tCons (tC (.int 65534)) tNil))) tNil 3 0)))
  (tRaise0 (He.ga K "BadNumber") W)
  tNext)
  (tRet (tFn (S_unfold K) (fun _ _ => act_unfolded acts) W (tCons (tVar 0) tNil) tNil 1 0)))
abbrev act_in_twos (acts : Acts) : Acts := fun g tl => false = true ∧ acts g tl
def t_in_twos (K : PySem.W.Frag) (cells : List (Str × Addr)) (acts : Acts) (T : List (Addr × Str)) (pt : Option Addr) (W : WX) : TS :=
  (tSeq (tAsg (tC (.str "")) (gName 2))
  (tSeq (tFor (iRng1 (tCons (tVar 1) tNil)) (gName 3)
  (tSeq (tAsg (tOp (G.rBin K .Add) (tCB G.rStr1 (tCons (tOp (G.rBin K .Mod) (tVar 0) (tC (.int 2))) tNil)) (tVar 2)) (gName 2))
  (tAug 0 (tC (.int 2)) (G.rAug K .FloorDiv))))
  (tRet (tVar 2))))
abbrev act_fixed_bits (acts : Acts) : Acts := fun g tl => false = true ∧ acts g tl
def t_fixed_bits (K : PySem.W.Frag) (cells : List (Str × Addr)) (acts : Acts) (T : List (Addr × Str)) (pt : Option Addr) (W : WX) : TS :=
  (tSeq (tDrop (tFn (S_need_many K) (fun _ _ => act_fixed_bits acts) W (tCons (tVar 1) tNil) tNil 1 0))
  (tSeq (tIfS (tNot (tTru K (tFn (S_is_between K) (fun _ _ => act_fixed_bits acts) W (tCons (tVar 0) (tCons (tC (.int 0)) (tCons (tOp (G.rBin K .Sub) (tOp (G.rBin K .LShift) (tC (.int 1)) (tVar 1)) (tC (.int 1))) tNil))) tNil 3 0)))
  (tRaise0 (He.ga K "BadNumber") W)
  tNext)
  (tRet (tFn (S_in_twos K) (fun _ _ => act_fixed_bits acts) W (tCons (tVar 0) (tCons (tVar 1) tNil)) tNil 2 0))))
abbrev act_long_word (acts : Acts) : Acts := fun g tl => false = true ∧ acts g tl
def t_long_word (K : PySem.W.Frag) (cells : List (Str × Addr)) (acts : Acts) (T : List (Addr × Str)) (pt : Option Addr) (W : WX) : TS :=
  (tSeq (tPar 1 2 (tCons (tOp (G.rBin K .Add) (tFn (S_fold K) (fun _ _ => act_long_word acts) W (tCons (tVar 0) tNil) tNil 1 0) (tC (.int 1))) (tCons (tC (.int 0)) tNil)))
  (tSeq (tWhile (tTest (tOp (G.rCmp K .GtE) (tVar 1) (tOp (G.rBin K .LShift) (tC (.int 1)) (tOp (G.rBin K .Add) (tVar 2) (tC (.int 1))))))
  (tAug 2 (tC (.int 1)) (G.rAug K .Add)))
  (tRet (tOp (G.rBin K .Add) (tOp (G.rBin K .Add) (tOp (G.rBin K .Mult) (tC (.str "1")) (tVar 2)) (tC (.str "0"))) (tFn (S_in_twos K) (fun _ _ => act_long_word acts) W (tCons (tOp (G.rBin K .Sub) (tVar 1) (tOp (G.rBin K .LShift) (tC (.int 1)) (tVar 2))) (tCons (tVar 2) tNil)) tNil 2 0)))))
abbrev act_long_bits (acts : Acts) : Acts := fun g tl => false = true ∧ acts g tl
def t_long_bits (K : PySem.W.Frag) (cells : List (Str × Addr)) (acts : Acts) (T : List (Addr × Str)) (pt : Option Addr) (W : WX) : TS :=
  (tSeq (tDrop (tFn (S_need_told K) (fun _ _ => act_long_bits acts) W (tCons (tVar 0) tNil) tNil 1 0))
  (tRet (tFn (S_long_word K) (fun _ _ => act_long_bits acts) W (tCons (tVar 0) tNil) tNil 1 0)))
abbrev act_grade_word (acts : Acts) : Acts := fun g tl => false = true ∧ acts g tl
def t_grade_word (K : PySem.W.Frag) (cells : List (Str × Addr)) (acts : Acts) (T : List (Addr × Str)) (pt : Option Addr) (W : WX) : TS :=
  (tSeq (tAsg (tFn (S_fold K) (fun _ _ => act_grade_word acts) W (tCons (tVar 0) tNil) tNil 1 0) (gName 2))
  (tSeq (tAsg (tOp (G.rBin K .RShift) (tVar 2) (tVar 1)) (gName 3))
  (tSeq (tIfS (tTest (tOp (G.rCmp K .Lt) (tVar 3) (tC (.int 12))))
  (tRet (tOp (G.rBin K .Add) (tOp (G.rBin K .Add) (tOp (G.rBin K .Mult) (tC (.str "1")) (tVar 3)) (tC (.str "0"))) (tFn (S_in_twos K) (fun _ _ => act_grade_word acts) W (tCons (tOp (G.rBin K .Mod) (tVar 2) (tOp (G.rBin K .LShift) (tC (.int 1)) (tVar 1))) (tCons (tVar 1) tNil)) tNil 2 0)))
  tNext)
  (tRet (tOp (G.rBin K .Add) (tOp (G.rBin K .Mult) (tC (.str "1")) (tC (.int 12))) (tFn (S_in_twos K) (fun _ _ => act_grade_word acts) W (tCons (tVar 2) (tCons (tC (.int 16)) tNil)) tNil 2 0))))))
abbrev act_grade_bits (acts : Acts) : Acts := fun g tl => false = true ∧ acts g tl
def t_grade_bits (K : PySem.W.Frag) (cells : List (Str × Addr)) (acts : Acts) (T : List (Addr × Str)) (pt : Option Addr) (W : WX) : TS :=
  (tSeq (tDrop (tFn (S_need_told K) (fun _ _ => act_grade_bits acts) W (tCons (tVar 0) tNil) tNil 1 0))
  (tSeq (tDrop (tFn (S_need_grade K) (fun _ _ => act_grade_bits acts) W (tCons (tVar 1) tNil) tNil 1 0))
  (tRet (tFn (S_grade_word K) (fun _ _ => act_grade_bits acts) W (tCons (tVar 0) (tCons (tVar 1) tNil)) tNil 2 0))))

/-! ## each promise holds -/
abbrev Dd (Q : VK) : Ends := ⟨fun _ H' => Q .non H', Q, fun _ _ => False, fun _ _ => False⟩
abbrev Ww (E : XK) : WX := fun cls d _ H' => E cls d H'
section
variable {K : PySem.W.Frag} {cells : List (Str × Addr)} {acts : Acts} {T : List (Addr × Str)} {pt : Option Addr} {vs : List V} {H : Hp} {Q : VK} {E : XK}
theorem le_int {K : PySem.W.Frag} {H : Hp} {i j : Int} {Q : VK} (q : Q (.bl (decide (i ≤ j))) H) : G.rCmp K .LtE (.int i) (.int j) H Q := q
theorem ok_is_number (h : sp_is_number vs H Q E) : vs.length = 1 ∧ t_is_number K cells acts T pt (Ww E) (Dd Q) (L2.start ["thing"] vs) H := by
  obtain ⟨x, rfl, hk, q⟩ := h
  refine ⟨rfl, ?_⟩
  rw [show L2.start ["thing"] [x] = [some x] from rfl]
  unfold t_is_number
  simp only [tSeq, tWhile, tAnd, tOr, tNot, tTest, tTru, tOp, tUn, tVar, tC, tLst, tTup, tNil, tAsg, tBM, tBM0, tCons, gSub, tIfS, tCB, gName, tRet, tRetN, tNext, tIf, tFn, tDrop, tRaise0, tAndT, tOrT, tNotT, tChain, tAug, tPar, tPar3, for_go, lc_go, iRng1, iRng2, iSeq, List.getElem?_cons_zero, List.getElem?_cons_succ, List.set_cons_zero, List.set_cons_succ, Option.some.injEq, exists_eq_left']
  refine isX_kd (.inl rfl) hk ⟨_, rfl, ?_⟩
  rw [isNum_eq] at q
  by_cases c : isTy "int" x = true
  · rw [if_pos c]
    rw [c] at q
    exact isX_kd (.inr (.inl rfl)) hk ⟨_, rfl, q⟩
  · rw [if_neg c]
    rw [Bool.eq_false_iff.mpr c] at q ⊢
    exact q
theorem ok_is_between (h : sp_is_between vs H Q E) : vs.length = 3 ∧ t_is_between K cells acts T pt (Ww E) (Dd Q) (L2.start ["thing", "low", "high"] vs) H := by
  obtain ⟨x, lo, hi, rfl, hk, q⟩ := h
  refine ⟨rfl, ?_⟩
  rw [show L2.start ["thing", "low", "high"] [x, .int lo, .int hi] = [some x, some (.int lo), some (.int hi)] from rfl]
  unfold t_is_between
  simp only [tSeq, tWhile, tAnd, tOr, tNot, tTest, tTru, tOp, tUn, tVar, tC, tLst, tTup, tNil, tAsg, tBM, tBM0, tCons, gSub, tIfS, tCB, gName, tRet, tRetN, tNext, tIf, tFn, tDrop, tRaise0, tAndT, tOrT, tNotT, tChain, tAug, tPar, tPar3, for_go, lc_go, iRng1, iRng2, iSeq, List.getElem?_cons_zero, List.getElem?_cons_succ, List.set_cons_zero, List.set_cons_succ, Option.some.injEq, exists_eq_left']
  refine ⟨rfl, rfl, x, rfl, hk, _, rfl, ?_⟩
  cases x with
  | int i =>
    rw [if_pos (show isNum (.int i) = true from rfl)]
    refine le_int ⟨_, rfl, ?_⟩
    by_cases c : lo ≤ i
    · rw [if_pos (decide_eq_true c)]
      refine le_int ?_
      have e : btw (.int i) lo hi = decide (i ≤ hi) := by
        show (decide (lo ≤ i) && decide (i ≤ hi)) = _
        rw [decide_eq_true c, Bool.true_and]
      rw [e] at q
      exact q
    · rw [if_neg (by simpa using c)]
      have e : btw (.int i) lo hi = false := by
        show (decide (lo ≤ i) && decide (i ≤ hi)) = _
        rw [decide_eq_false c, Bool.false_and]
      rw [e] at q
      exact q
  | _ => exact q
theorem ok_is_told (h : sp_is_told vs H Q E) : vs.length = 1 ∧ t_is_told K cells acts T pt (Ww E) (Dd Q) (L2.start ["thing"] vs) H := by
  obtain ⟨x, rfl, hk, q⟩ := h
  refine ⟨rfl, ?_⟩
  rw [show L2.start ["thing"] [x] = [some x] from rfl]
  unfold t_is_told
  simp only [tSeq, tWhile, tAnd, tOr, tNot, tTest, tTru, tOp, tUn, tVar, tC, tLst, tTup, tNil, tAsg, tBM, tBM0, tCons, gSub, tIfS, tCB, gName, tRet, tRetN, tNext, tIf, tFn, tDrop, tRaise0, tAndT, tOrT, tNotT, tChain, tAug, tPar, tPar3, for_go, lc_go, iRng1, iRng2, iSeq, List.getElem?_cons_zero, List.getElem?_cons_succ, List.set_cons_zero, List.set_cons_succ, Option.some.injEq, exists_eq_left']
  exact ⟨32767, rfl, rfl, rfl, x, -32767, 32767, rfl, hk, q⟩
theorem ok_is_bits (h : sp_is_bits vs H Q E) : vs.length = 1 ∧ t_is_bits K cells acts T pt (Ww E) (Dd Q) (L2.start ["thing"] vs) H := by
  obtain ⟨x, rfl, hk, hl, q⟩ := h
  refine ⟨rfl, ?_⟩
  rw [show L2.start ["thing"] [x] = [some x] from rfl]
  unfold t_is_bits
  simp only [tSeq, tWhile, tAnd, tOr, tNot, tTest, tTru, tOp, tUn, tVar, tC, tLst, tTup, tNil, tAsg, tBM, tBM0, tCons, gSub, tIfS, tCB, gName, tRet, tRetN, tNext, tIf, tFn, tDrop, tRaise0, tAndT, tOrT, tNotT, tChain, tAug, tPar, tPar3, for_go, lc_go, iRng1, iRng2, iSeq, List.getElem?_cons_zero, List.getElem?_cons_succ, List.set_cons_zero, List.set_cons_succ, Option.some.injEq, exists_eq_left']
  refine isX_kd (.inr (.inr rfl)) hk ⟨_, rfl, ?_⟩
  cases x with
  | str a =>
    rw [if_pos (show isTy "str" (.str a) = true from rfl)]
    have l := hl a rfl
    have sl : sizeLine = 16777216 := sizeLine_eq
    exact ⟨rfl, a, "01", rfl, rfl, by omega, eq_str q⟩
  | _ => exact q
theorem need_ok {C : Str} {lo hi : Int} {x : V} {D : Ends} {σ : L2.St} (hk : Kd H x) (h1 : btw x lo hi = true → D.nx σ H) (h2 : btw x lo hi = false → E (bad K C) none H) :
    tIfS (fun _ H Q => ∃ k, TruV K (.bl (btw x lo hi)) H k ∧ Q (!k) H) (tRaise0 (He.ga K C) (Ww E)) tNext D σ H := by
  unfold tIfS
  refine ⟨_, rfl, ?_⟩
  cases c : btw x lo hi with
  | true => exact h1 c
  | false => exact h2 c
theorem ok_need_told (h : sp_need K "BadNumber" (-32767) 32767 vs H Q E) : vs.length = 1 ∧ t_need_told K cells acts T pt (Ww E) (Dd Q) (L2.start ["number"] vs) H := by
  obtain ⟨x, rfl, hk, h1, h2⟩ := h
  refine ⟨rfl, ?_⟩
  rw [show L2.start ["number"] [x] = [some x] from rfl]
  unfold t_need_told
  simp only [tSeq, tWhile, tAnd, tOr, tNot, tTest, tTru, tOp, tUn, tVar, tC, tLst, tTup, tNil, tAsg, tBM, tBM0, tCons, gSub, tIfS, tCB, gName, tRet, tRetN, tNext, tIf, tFn, tDrop, tRaise0, tAndT, tOrT, tNotT, tChain, tAug, tPar, tPar3, for_go, lc_go, iRng1, iRng2, iSeq, List.getElem?_cons_zero, List.getElem?_cons_succ, List.set_cons_zero, List.set_cons_succ, Option.some.injEq, exists_eq_left']
  refine ⟨rfl, rfl, x, rfl, hk, _, rfl, ?_⟩
  cases c : btw x (-32767) 32767 with
  | true => exact h1 c
  | false => exact h2 c
theorem ok_need_grade (h : sp_need K "BadGrade" 0 7 vs H Q E) : vs.length = 1 ∧ t_need_grade K cells acts T pt (Ww E) (Dd Q) (L2.start ["grade"] vs) H := by
  obtain ⟨x, rfl, hk, h1, h2⟩ := h
  refine ⟨rfl, ?_⟩
  rw [show L2.start ["grade"] [x] = [some x] from rfl]
  unfold t_need_grade
  simp only [tSeq, tWhile, tAnd, tOr, tNot, tTest, tTru, tOp, tUn, tVar, tC, tLst, tTup, tNil, tAsg, tBM, tBM0, tCons, gSub, tIfS, tCB, gName, tRet, tRetN, tNext, tIf, tFn, tDrop, tRaise0, tAndT, tOrT, tNotT, tChain, tAug, tPar, tPar3, for_go, lc_go, iRng1, iRng2, iSeq, List.getElem?_cons_zero, List.getElem?_cons_succ, List.set_cons_zero, List.set_cons_succ, Option.some.injEq, exists_eq_left']
  refine ⟨rfl, rfl, x, 0, 7, rfl, hk, _, rfl, ?_⟩
  cases c : btw x 0 7 with
  | true => exact h1 c
  | false => exact h2 c
theorem ok_need_many (h : sp_need K "BadMany" 1 16 vs H Q E) : vs.length = 1 ∧ t_need_many K cells acts T pt (Ww E) (Dd Q) (L2.start ["many"] vs) H := by
  obtain ⟨x, rfl, hk, h1, h2⟩ := h
  refine ⟨rfl, ?_⟩
  rw [show L2.start ["many"] [x] = [some x] from rfl]
  unfold t_need_many
  simp only [tSeq, tWhile, tAnd, tOr, tNot, tTest, tTru, tOp, tUn, tVar, tC, tLst, tTup, tNil, tAsg, tBM, tBM0, tCons, gSub, tIfS, tCB, gName, tRet, tRetN, tNext, tIf, tFn, tDrop, tRaise0, tAndT, tOrT, tNotT, tChain, tAug, tPar, tPar3, for_go, lc_go, iRng1, iRng2, iSeq, List.getElem?_cons_zero, List.getElem?_cons_succ, List.set_cons_zero, List.set_cons_succ, Option.some.injEq, exists_eq_left']
  refine ⟨rfl, rfl, x, 1, 16, rfl, hk, _, rfl, ?_⟩
  cases c : btw x 1 16 with
  | true => exact h1 c
  | false => exact h2 c
theorem fold_read {i : Int} {σ : L2.St} (h1 : -1000000000000 < i) (h2 : i < 1000000000000) (q : Q (.int (foldZ i)) H) (e : σ[0]? = some (some (.int i))) :
    (tIf (tTest (tOp (G.rCmp K .Gt) (tVar 0) (tC (.int 0)))) (tOp (G.rBin K .Sub) (tOp (G.rBin K .Mult) (tC (.int 2)) (tVar 0)) (tC (.int 1))) (tOp (G.rBin K .Mult) (tUn (rU fun i => .int (-i)) (tC (.int 2))) (tVar 0))) σ H Q := by
  simp only [tIf, tTest, tOp, tUn, tVar, tC, e, Option.some.injEq, exists_eq_left']
  refine gt_int ⟨_, rfl, ?_⟩
  unfold foldZ at q
  by_cases c : 0 < i
  · rw [if_pos (decide_eq_true c)]
    rw [if_pos c] at q
    exact mul_int (by decide) (by decide) (sub_int q)
  · rw [if_neg (by simpa using c)]
    rw [if_neg c] at q
    exact ⟨2, rfl, mul_int (by decide) (by decide) q⟩
theorem ok_fold (h : sp_fold vs H Q E) : vs.length = 1 ∧ t_fold K cells acts T pt (Ww E) (Dd Q) (L2.start ["number"] vs) H := by
  obtain ⟨i, rfl, h1, h2, q⟩ := h
  refine ⟨rfl, ?_⟩
  exact fold_read (K := K) h1 h2 q rfl
theorem ok_unfold (h : sp_unfold vs H Q E) : vs.length = 1 ∧ t_unfold K cells acts T pt (Ww E) (Dd Q) (L2.start ["number"] vs) H := by
  obtain ⟨i, rfl, q⟩ := h
  refine ⟨rfl, ?_⟩
  rw [show L2.start ["number"] [V.int i] = [some (.int i)] from rfl]
  unfold t_unfold
  simp only [tSeq, tWhile, tAnd, tOr, tNot, tTest, tTru, tOp, tUn, tVar, tC, tLst, tTup, tNil, tAsg, tBM, tBM0, tCons, gSub, tIfS, tCB, gName, tRet, tRetN, tNext, tIf, tFn, tDrop, tRaise0, tAndT, tOrT, tNotT, tChain, tAug, tPar, tPar3, for_go, lc_go, iRng1, iRng2, iSeq, List.getElem?_cons_zero, List.getElem?_cons_succ, List.set_cons_zero, List.set_cons_succ, Option.some.injEq, exists_eq_left']
  refine mod_int (by decide) (eq_int ⟨_, rfl, ?_⟩)
  unfold unfoldZ at q
  by_cases c : i % 2 = 1
  · rw [if_pos (decide_eq_true c)]
    rw [if_pos c] at q
    exact div_int (K := K) (by decide) (by decide) q
  · rw [if_neg (by simpa using c)]
    rw [if_neg c] at q
    exact div_int (K := K) (by decide) (by decide) ⟨_, rfl, q⟩
theorem ok_folded (h : sp_folded K vs H Q E) : vs.length = 1 ∧ t_folded K cells acts T pt (Ww E) (Dd Q) (L2.start ["number"] vs) H := by
  obtain ⟨x, rfl, hk, h1, h2⟩ := h
  refine ⟨rfl, ?_⟩
  rw [show L2.start ["number"] [x] = [some x] from rfl]
  unfold t_folded
  simp only [tSeq, tWhile, tAnd, tOr, tNot, tTest, tTru, tOp, tUn, tVar, tC, tLst, tTup, tNil, tAsg, tBM, tBM0, tCons, gSub, tIfS, tCB, gName, tRet, tRetN, tNext, tIf, tFn, tDrop, tRaise0, tAndT, tOrT, tNotT, tChain, tAug, tPar, tPar3, for_go, lc_go, iRng1, iRng2, iSeq, List.getElem?_cons_zero, List.getElem?_cons_succ, List.set_cons_zero, List.set_cons_succ, Option.some.injEq, exists_eq_left']
  refine ⟨rfl, rfl, x, rfl, hk, fun c => ?_, h2⟩
  obtain ⟨i, rfl, c1, c2⟩ := btw_int c
  exact ⟨rfl, rfl, i, rfl, by omega, by omega, h1 i rfl c1 c2⟩
theorem ok_unfolded (h : sp_unfolded K vs H Q E) : vs.length = 1 ∧ t_unfolded K cells acts T pt (Ww E) (Dd Q) (L2.start ["number"] vs) H := by
  obtain ⟨x, rfl, hk, h1, h2⟩ := h
  refine ⟨rfl, ?_⟩
  rw [show L2.start ["number"] [x] = [some x] from rfl]
  unfold t_unfolded
  simp only [tSeq, tWhile, tAnd, tOr, tNot, tTest, tTru, tOp, tUn, tVar, tC, tLst, tTup, tNil, tAsg, tBM, tBM0, tCons, gSub, tIfS, tCB, gName, tRet, tRetN, tNext, tIf, tFn, tDrop, tRaise0, tAndT, tOrT, tNotT, tChain, tAug, tPar, tPar3, for_go, lc_go, iRng1, iRng2, iSeq, List.getElem?_cons_zero, List.getElem?_cons_succ, List.set_cons_zero, List.set_cons_succ, Option.some.injEq, exists_eq_left']
  refine ⟨rfl, rfl, x, 0, 65534, rfl, hk, _, rfl, ?_⟩
  cases c : btw x 0 65534 with
  | true =>
    obtain ⟨i, rfl, c1, c2⟩ := btw_int c
    exact ⟨rfl, rfl, i, rfl, h1 i rfl c1 c2⟩
  | false => exact h2 c
theorem foldZ_bounds {i : Int} (h1 : -32768 < i) (h2 : i < 32768) : 0 ≤ foldZ i ∧ foldZ i ≤ 65534 := by
  unfold foldZ
  split <;> omega
theorem str_dig {H : Hp} {i : Int} {Q : VK} (q : Q (.str (dig i)) H) : G.rStr1 [.int (i % 2)] H Q := by
  refine ⟨?_, q⟩
  rcases Int.emod_two_eq i with h | h <;> rw [h] <;> decide
theorem add_str {K : PySem.W.Frag} {H : Hp} {a b : Str} {Q : VK} (h : a.length + b.length ≤ 100000) (q : Q (.str (a ++ b)) H) : G.rBin K .Add (.str a) (.str b) H Q :=
  ⟨Nat.le_trans h (by rw [sizeLine_eq]; decide), q⟩
theorem mul_ones {K : PySem.W.Frag} {H : Hp} {n : Nat} {Q : VK} (h : n ≤ 1000000) (q : Q (.str (ones n)) H) : G.rBin K .Mult (.str "1") (.int n) H Q := ⟨mul_ok1 h, q⟩
theorem shl_one {K : PySem.W.Frag} {H : Hp} {n : Nat} {j : Int} {Q : VK} (e : j = n) (h : n ≤ 1000000) (q : Q (.int (2 ^ n)) H) : G.rBin K .LShift (.int 1) (.int j) H Q := by
  subst e
  refine ⟨⟨by omega, by omega, by decide⟩, ?_⟩
  show Q (.int (1 * 2 ^ (n : Int).toNat)) H
  rw [Int.one_mul, Int.toNat_natCast]
  exact q
theorem log_le {t : Int} {j : Nat} (h : 0 < t) : j ≤ t.toNat.log2 ↔ (2 : Int) ^ j ≤ t := by
  rw [Nat.le_log2 (by omega)]
  have e : ((2 ^ j : Nat) : Int) = (2 : Int) ^ j := by rw [Int.natCast_pow]; rfl
  constructor
  · intro z
    rw [← e]
    omega
  · intro z
    rw [← e] at z
    omega
theorem log_small {t : Int} {k : Nat} (h : 0 < t) (h2 : t < 2 ^ (k + 1)) : t.toNat.log2 ≤ k := by
  have : ¬ (k + 1 ≤ t.toNat.log2) := fun z => by
    rw [log_le h] at z
    omega
  omega
theorem ok_in_twos (h : sp_in_twos vs H Q E) : vs.length = 2 ∧ t_in_twos K cells acts T pt (Ww E) (Dd Q) (L2.start ["number", "many", "found", "turn"] vs) H := by
  obtain ⟨i, k, rfl, h0, h1, q⟩ := h
  refine ⟨rfl, ?_⟩
  rw [show L2.start ["number", "many", "found", "turn"] [V.int i, V.int k] = [some (.int i), some (.int k), none, none] from rfl]
  unfold t_in_twos
  simp only [tSeq, tWhile, tAnd, tOr, tNot, tTest, tTru, tOp, tUn, tVar, tC, tLst, tTup, tNil, tAsg, tBM, tBM0, tCons, gSub, tIfS, tCB, gName, tRet, tRetN, tNext, tIf, tFn, tDrop, tRaise0, tAndT, tOrT, tNotT, tChain, tAug, tPar, tPar3, for_go, lc_go, iRng1, iRng2, iSeq, List.getElem?_cons_zero, List.getElem?_cons_succ, List.set_cons_zero, List.set_cons_succ, Option.some.injEq, exists_eq_left']
  refine ⟨k, rfl, by omega, by omega, ?_⟩
  refine go_rng (fun m σ H' => H' = H ∧ ∃ (a : Int) (acc : Str) (tn : Option V), σ = [some (.int a), some (.int k), some (.str acc), tn] ∧ acc.length = m ∧ tw (k.toNat - m) a acc = tw k.toNat i "") ⟨rfl, i, "", none, rfl, len_e, rfl⟩ ?_ ?_
  · rintro m σ H' hm ⟨rfl, a, acc, tn, rfl, hl, ht⟩
    simp only [tSeq, tWhile, tAnd, tOr, tNot, tTest, tTru, tOp, tUn, tVar, tC, tLst, tTup, tNil, tAsg, tBM, tBM0, tCons, gSub, tIfS, tCB, gName, tRet, tRetN, tNext, tIf, tFn, tDrop, tRaise0, tAndT, tOrT, tNotT, tChain, tAug, tPar, tPar3, for_go, lc_go, iRng1, iRng2, iSeq, List.getElem?_cons_zero, List.getElem?_cons_succ, List.set_cons_zero, List.set_cons_succ, Option.some.injEq, exists_eq_left']
    refine mod_int (by decide) (str_dig (add_str (by rw [dig_len]; omega) ⟨⟨by decide, by decide⟩, rfl, a / 2, dig a ++ acc, _, rfl, by rw [strLen_append, dig_len]; omega, ?_⟩))
    rw [← ht]
    have e : k.toNat - m = (k.toNat - (m + 1)) + 1 := by omega
    rw [e]
    rfl
  · rintro σ H' ⟨rfl, a, acc, tn, rfl, hl, ht⟩
    simp only [tSeq, tWhile, tAnd, tOr, tNot, tTest, tTru, tOp, tUn, tVar, tC, tLst, tTup, tNil, tAsg, tBM, tBM0, tCons, gSub, tIfS, tCB, gName, tRet, tRetN, tNext, tIf, tFn, tDrop, tRaise0, tAndT, tOrT, tNotT, tChain, tAug, tPar, tPar3, for_go, lc_go, iRng1, iRng2, iSeq, List.getElem?_cons_zero, List.getElem?_cons_succ, List.set_cons_zero, List.set_cons_succ, Option.some.injEq, exists_eq_left']
    rw [Nat.sub_self] at ht
    rw [← ht] at q
    exact q
theorem ok_long_word (h : sp_long_word vs H Q E) : vs.length = 1 ∧ t_long_word K cells acts T pt (Ww E) (Dd Q) (L2.start ["number", "told", "many"] vs) H := by
  obtain ⟨i, rfl, h1, h2, q⟩ := h
  refine ⟨rfl, ?_⟩
  rw [show L2.start ["number", "told", "many"] [V.int i] = [some (.int i), none, none] from rfl]
  unfold t_long_word
  simp only [tSeq, tWhile, tAnd, tOr, tNot, tTest, tTru, tOp, tUn, tVar, tC, tLst, tTup, tNil, tAsg, tBM, tBM0, tCons, gSub, tIfS, tCB, gName, tRet, tRetN, tNext, tIf, tFn, tDrop, tRaise0, tAndT, tOrT, tNotT, tChain, tAug, tPar, tPar3, for_go, lc_go, iRng1, iRng2, iSeq, List.getElem?_cons_zero, List.getElem?_cons_succ, List.set_cons_zero, List.set_cons_succ, Option.some.injEq, exists_eq_left']
  obtain ⟨b1, b2⟩ := foldZ_bounds h1 h2
  refine ⟨rfl, rfl, i, rfl, by omega, by omega, add_int ⟨_, _, rfl, ?_⟩⟩
  have tp : 0 < foldZ i + 1 := by omega
  have L : (foldZ i + 1).toNat.log2 ≤ 16 := log_small tp (by omega)
  refine ⟨fun m σ H' => H' = H ∧ ∃ j : Nat, σ = [some (.int i), some (.int (foldZ i + 1)), some (.int j)] ∧ j + m = many i, ⟨many i, rfl, 0, rfl, by omega⟩, ?_⟩
  rintro m σ H' ⟨rfl, j, rfl, hj⟩
  have L2' : j ≤ 16 := by unfold many at hj; omega
  simp only [tSeq, tWhile, tAnd, tOr, tNot, tTest, tTru, tOp, tUn, tVar, tC, tLst, tTup, tNil, tAsg, tBM, tBM0, tCons, gSub, tIfS, tCB, gName, tRet, tRetN, tNext, tIf, tFn, tDrop, tRaise0, tAndT, tOrT, tNotT, tChain, tAug, tPar, tPar3, for_go, lc_go, iRng1, iRng2, iSeq, List.getElem?_cons_zero, List.getElem?_cons_succ, List.set_cons_zero, List.set_cons_succ, Option.some.injEq, exists_eq_left']
  refine add_int (shl_one (n := j + 1) (by omega) (by omega) (ge_int ⟨_, rfl, ?_⟩))
  by_cases c : (2 : Int) ^ (j + 1) ≤ foldZ i + 1
  · rw [if_pos (decide_eq_true c)]
    have c2 := (log_le tp).mpr c
    refine ⟨fun σ H' => H' = _ ∧ σ = [some (.int i), some (.int (foldZ i + 1)), some (.int (j + 1 : Nat))], fun σ' H2 ⟨e1, e2⟩ => ⟨m - 1, by unfold many at hj; omega, e1, j + 1, e2, by unfold many at hj ⊢; omega⟩, ?_⟩
    exact ⟨rfl, rfl⟩
  · rw [if_neg (by simpa using c)]
    have ej : j = many i := by
      have z : ¬ (j + 1 ≤ many i) := fun z => c ((log_le tp).mp z)
      omega
    subst ej
    refine mul_ones (by omega) (add_str (by rw [ones_len, len_0]; omega) ?_)
    refine shl_one rfl (by omega) (sub_int ⟨rfl, rfl, _, _, rfl, by omega, by omega, ?_⟩)
    have et : tw (many i : Int).toNat (foldZ i + 1 - 2 ^ many i) "" = tw (many i) (foldZ i + 1) "" := by
      rw [Int.toNat_natCast]
      have z := tw_low (many i) (foldZ i + 1) (-1) ""
      rw [Int.mul_neg, Int.mul_one] at z
      exact z
    rw [et]
    refine add_str ?_ q
    rw [strLen_append, ones_len, len_0, tw_len, len_e]
    omega
theorem ok_long_bits (h : sp_long_bits K vs H Q E) : vs.length = 1 ∧ t_long_bits K cells acts T pt (Ww E) (Dd Q) (L2.start ["number"] vs) H := by
  obtain ⟨x, rfl, hk, h1, h2⟩ := h
  refine ⟨rfl, ?_⟩
  rw [show L2.start ["number"] [x] = [some x] from rfl]
  unfold t_long_bits
  simp only [tSeq, tWhile, tAnd, tOr, tNot, tTest, tTru, tOp, tUn, tVar, tC, tLst, tTup, tNil, tAsg, tBM, tBM0, tCons, gSub, tIfS, tCB, gName, tRet, tRetN, tNext, tIf, tFn, tDrop, tRaise0, tAndT, tOrT, tNotT, tChain, tAug, tPar, tPar3, for_go, lc_go, iRng1, iRng2, iSeq, List.getElem?_cons_zero, List.getElem?_cons_succ, List.set_cons_zero, List.set_cons_succ, Option.some.injEq, exists_eq_left']
  refine ⟨rfl, rfl, x, rfl, hk, fun c => ?_, h2⟩
  obtain ⟨i, rfl, c1, c2⟩ := btw_int c
  exact ⟨rfl, rfl, i, rfl, by omega, by omega, h1 i rfl c1 c2⟩
theorem ok_fixed_bits (h : sp_fixed_bits K vs H Q E) : vs.length = 2 ∧ t_fixed_bits K cells acts T pt (Ww E) (Dd Q) (L2.start ["number", "many"] vs) H := by
  obtain ⟨x, y, rfl, hk, hy, h1, h2, h3⟩ := h
  refine ⟨rfl, ?_⟩
  rw [show L2.start ["number", "many"] [x, y] = [some x, some y] from rfl]
  unfold t_fixed_bits
  simp only [tSeq, tWhile, tAnd, tOr, tNot, tTest, tTru, tOp, tUn, tVar, tC, tLst, tTup, tNil, tAsg, tBM, tBM0, tCons, gSub, tIfS, tCB, gName, tRet, tRetN, tNext, tIf, tFn, tDrop, tRaise0, tAndT, tOrT, tNotT, tChain, tAug, tPar, tPar3, for_go, lc_go, iRng1, iRng2, iSeq, List.getElem?_cons_zero, List.getElem?_cons_succ, List.set_cons_zero, List.set_cons_succ, Option.some.injEq, exists_eq_left']
  refine ⟨rfl, rfl, y, rfl, hy, fun c => ?_, h2⟩
  obtain ⟨k, rfl, c1, c2⟩ := btw_int c
  refine shl_one (n := k.toNat) (by omega) (by omega) (sub_int ⟨rfl, rfl, x, 0, _, rfl, hk, _, rfl, ?_⟩)
  cases c3 : btw x 0 (2 ^ k.toNat - 1) with
  | true =>
    obtain ⟨i, rfl, d1, d2⟩ := btw_int c3
    exact ⟨rfl, rfl, i, k, rfl, by omega, by omega, h1 i k rfl rfl c1 c2 d1 (by omega)⟩
  | false => exact h3 k rfl c1 c2 c3
theorem lt_int {K : PySem.W.Frag} {H : Hp} {i j : Int} {Q : VK} (q : Q (.bl (decide (i < j))) H) : G.rCmp K .Lt (.int i) (.int j) H Q := q
theorem ok_grade_word (h : sp_grade_word vs H Q E) : vs.length = 2 ∧ t_grade_word K cells acts T pt (Ww E) (Dd Q) (L2.start ["number", "grade", "told", "ones"] vs) H := by
  obtain ⟨i, g, rfl, h1, h2, g0, g1, q⟩ := h
  refine ⟨rfl, ?_⟩
  rw [show L2.start ["number", "grade", "told", "ones"] [V.int i, V.int g] = [some (.int i), some (.int g), none, none] from rfl]
  unfold t_grade_word
  simp only [tSeq, tWhile, tAnd, tOr, tNot, tTest, tTru, tOp, tUn, tVar, tC, tLst, tTup, tNil, tAsg, tBM, tBM0, tCons, gSub, tIfS, tCB, gName, tRet, tRetN, tNext, tIf, tFn, tDrop, tRaise0, tAndT, tOrT, tNotT, tChain, tAug, tPar, tPar3, for_go, lc_go, iRng1, iRng2, iSeq, List.getElem?_cons_zero, List.getElem?_cons_succ, List.set_cons_zero, List.set_cons_succ, Option.some.injEq, exists_eq_left']
  obtain ⟨b1, b2⟩ := foldZ_bounds h1 h2
  refine ⟨rfl, rfl, i, rfl, by omega, by omega, ⟨g0, lt_int ⟨_, rfl, ?_⟩⟩⟩
  have p0 : (0 : Int) < 2 ^ g.toNat := Int.pow_pos (by decide)
  have o0 : 0 ≤ foldZ i / 2 ^ g.toNat := Int.ediv_nonneg b1 (Int.le_of_lt p0)
  unfold gradeW at q
  by_cases c : foldZ i / 2 ^ g.toNat < 12
  · rw [if_pos (decide_eq_true c)]
    rw [if_pos c] at q
    obtain ⟨n, hn⟩ : ∃ n : Nat, foldZ i / 2 ^ g.toNat = n := ⟨_, (Int.toNat_of_nonneg o0).symm⟩
    rw [hn] at q c ⊢
    refine mul_ones (by omega) (add_str (by rw [ones_len, len_0]; omega) ?_)
    refine shl_one (n := g.toNat) (by omega) (by omega) (mod_int p0 ⟨rfl, rfl, _, _, rfl, by omega, by omega, ?_⟩)
    rw [Int.toNat_natCast] at q
    refine add_str ?_ q
    rw [strLen_append, ones_len, len_0, tw_len, len_e]
    omega
  · rw [if_neg (by simpa using c)]
    rw [if_neg c] at q
    refine mul_ones (n := 12) (by omega) ⟨rfl, rfl, _, 16, rfl, by omega, by omega, ?_⟩
    refine add_str ?_ q
    rw [ones_len, tw_len, len_e]
    show 12 + (16 + 0) ≤ _
    decide
theorem ok_grade_bits (h : sp_grade_bits K vs H Q E) : vs.length = 2 ∧ t_grade_bits K cells acts T pt (Ww E) (Dd Q) (L2.start ["number", "grade"] vs) H := by
  obtain ⟨x, y, rfl, hk, hy, h1, h2, h3⟩ := h
  refine ⟨rfl, ?_⟩
  rw [show L2.start ["number", "grade"] [x, y] = [some x, some y] from rfl]
  unfold t_grade_bits
  simp only [tSeq, tWhile, tAnd, tOr, tNot, tTest, tTru, tOp, tUn, tVar, tC, tLst, tTup, tNil, tAsg, tBM, tBM0, tCons, gSub, tIfS, tCB, gName, tRet, tRetN, tNext, tIf, tFn, tDrop, tRaise0, tAndT, tOrT, tNotT, tChain, tAug, tPar, tPar3, for_go, lc_go, iRng1, iRng2, iSeq, List.getElem?_cons_zero, List.getElem?_cons_succ, List.set_cons_zero, List.set_cons_succ, Option.some.injEq, exists_eq_left']
  refine ⟨rfl, rfl, x, rfl, hk, fun c => ?_, h2⟩
  refine ⟨rfl, rfl, y, rfl, hy, fun d => ?_, h3 c⟩
  obtain ⟨i, rfl, c1, c2⟩ := btw_int c
  obtain ⟨g, rfl, d1, d2⟩ := btw_int d
  exact ⟨rfl, rfl, i, g, rfl, by omega, by omega, d1, d2, h1 i g rfl rfl c1 c2 d1 d2⟩
end
end Pk

set_option Elab.async false
set_option linter.all false
set_option maxRecDepth 100000
set_option maxHeartbeats 8000000
namespace K01
open PySem PySem.Spec PyProof.Rows L2 LamX G Pk
/-! ### the text -/
def topS (i : Nat) : Stmt := PySem.Challenge.pw_pricedreels_k01_numbers_written_in_bits.main.body.getD i (.Pass ⟨0, 0, 0, 0⟩)
abbrev st_is_number : Stmt := topS 11
theorem sc_is_number : FnScope ["thing"] ["thing"] (defScope st_is_number) := ⟨rfl, rfl, rfl, by decide +kernel, rfl, by decide +kernel, by decide +kernel⟩
abbrev st_is_between : Stmt := topS 12
theorem sc_is_between : FnScope ["thing", "low", "high"] ["thing", "low", "high"] (defScope st_is_between) := ⟨rfl, rfl, rfl, by decide +kernel, rfl, by decide +kernel, by decide +kernel⟩
abbrev st_is_told : Stmt := topS 13
theorem sc_is_told : FnScope ["thing"] ["thing"] (defScope st_is_told) := ⟨rfl, rfl, rfl, by decide +kernel, rfl, by decide +kernel, by decide +kernel⟩
abbrev st_is_bits : Stmt := topS 14
theorem sc_is_bits : FnScope ["thing"] ["thing"] (defScope st_is_bits) := ⟨rfl, rfl, rfl, by decide +kernel, rfl, by decide +kernel, by decide +kernel⟩
abbrev st_need_told : Stmt := topS 15
theorem sc_need_told : FnScope ["number"] ["number"] (defScope st_need_told) := ⟨rfl, rfl, rfl, by decide +kernel, rfl, by decide +kernel, by decide +kernel⟩
abbrev st_need_grade : Stmt := topS 16
theorem sc_need_grade : FnScope ["grade"] ["grade"] (defScope st_need_grade) := ⟨rfl, rfl, rfl, by decide +kernel, rfl, by decide +kernel, by decide +kernel⟩
abbrev st_need_many : Stmt := topS 17
theorem sc_need_many : FnScope ["many"] ["many"] (defScope st_need_many) := ⟨rfl, rfl, rfl, by decide +kernel, rfl, by decide +kernel, by decide +kernel⟩
abbrev st_fold : Stmt := topS 18
theorem sc_fold : FnScope ["number"] ["number"] (defScope st_fold) := ⟨rfl, rfl, rfl, by decide +kernel, rfl, by decide +kernel, by decide +kernel⟩
abbrev st_unfold : Stmt := topS 19
theorem sc_unfold : FnScope ["number"] ["number"] (defScope st_unfold) := ⟨rfl, rfl, rfl, by decide +kernel, rfl, by decide +kernel, by decide +kernel⟩
abbrev st_folded : Stmt := topS 20
theorem sc_folded : FnScope ["number"] ["number"] (defScope st_folded) := ⟨rfl, rfl, rfl, by decide +kernel, rfl, by decide +kernel, by decide +kernel⟩
abbrev st_unfolded : Stmt := topS 21
theorem sc_unfolded : FnScope ["number"] ["number"] (defScope st_unfolded) := ⟨rfl, rfl, rfl, by decide +kernel, rfl, by decide +kernel, by decide +kernel⟩
abbrev st_in_twos : Stmt := topS 22
theorem sc_in_twos : FnScope ["number", "many", "found", "turn"] ["number", "many"] (defScope st_in_twos) := ⟨rfl, rfl, rfl, by decide +kernel, rfl, by decide +kernel, by decide +kernel⟩
abbrev st_fixed_bits : Stmt := topS 23
theorem sc_fixed_bits : FnScope ["number", "many"] ["number", "many"] (defScope st_fixed_bits) := ⟨rfl, rfl, rfl, by decide +kernel, rfl, by decide +kernel, by decide +kernel⟩
abbrev st_long_word : Stmt := topS 24
theorem sc_long_word : FnScope ["number", "told", "many"] ["number"] (defScope st_long_word) := ⟨rfl, rfl, rfl, by decide +kernel, rfl, by decide +kernel, by decide +kernel⟩
abbrev st_long_bits : Stmt := topS 25
theorem sc_long_bits : FnScope ["number"] ["number"] (defScope st_long_bits) := ⟨rfl, rfl, rfl, by decide +kernel, rfl, by decide +kernel, by decide +kernel⟩
abbrev st_grade_word : Stmt := topS 26
theorem sc_grade_word : FnScope ["number", "grade", "told", "ones"] ["number", "grade"] (defScope st_grade_word) := ⟨rfl, rfl, rfl, by decide +kernel, rfl, by decide +kernel, by decide +kernel⟩
abbrev st_grade_bits : Stmt := topS 27
theorem sc_grade_bits : FnScope ["number", "grade"] ["number", "grade"] (defScope st_grade_bits) := ⟨rfl, rfl, rfl, by decide +kernel, rfl, by decide +kernel, by decide +kernel⟩
abbrev st__law_begun : Stmt := topS 29
theorem sc__law_begun : FnScope ["_law_script", "_law_cells_here", "_law_cell", "_law_large"] ["_law_script"] (defScope st__law_begun) := ⟨rfl, rfl, rfl, by decide +kernel, rfl, by decide +kernel, by decide +kernel⟩
abbrev st__law_draw : Stmt := topS 30
theorem sc__law_draw : FnScope ["_law_state", "_law_size_here", "_law_found", "_law_turn", "_law_cell", "_law_mixed"] ["_law_state", "_law_size_here"] (defScope st__law_draw) := ⟨rfl, rfl, rfl, by decide +kernel, rfl, by decide +kernel, by decide +kernel⟩
abbrev st__law_pick : Stmt := topS 31
theorem sc__law_pick : FnScope ["_law_state", "_law_several"] ["_law_state", "_law_several"] (defScope st__law_pick) := ⟨rfl, rfl, rfl, by decide +kernel, rfl, by decide +kernel, by decide +kernel⟩
abbrev st__law_caught : Stmt := topS 32
theorem sc__law_caught : FnScope ["_law_work", "_law_caught_here", "_law_error"] ["_law_work"] (defScope st__law_caught) := ⟨rfl, rfl, rfl, by decide +kernel, rfl, by decide +kernel, by decide +kernel⟩
abbrev st__law_two : Stmt := topS 33
theorem sc__law_two : FnScope ["_law_size_here", "_law_found", "_law_turn"] ["_law_size_here"] (defScope st__law_two) := ⟨rfl, rfl, rfl, by decide +kernel, rfl, by decide +kernel, by decide +kernel⟩
abbrev st__law_fold : Stmt := topS 34
theorem sc__law_fold : FnScope ["_law_item_here"] ["_law_item_here"] (defScope st__law_fold) := ⟨rfl, rfl, rfl, by decide +kernel, rfl, by decide +kernel, by decide +kernel⟩
abbrev st__law_twos : Stmt := topS 35
theorem sc__law_twos : FnScope ["_law_item_here", "_law_size_here", "_law_found", "_law_turn"] ["_law_item_here", "_law_size_here"] (defScope st__law_twos) := ⟨rfl, rfl, rfl, by decide +kernel, rfl, by decide +kernel, by decide +kernel⟩
abbrev st__law_long : Stmt := topS 36
theorem sc__law_long : FnScope ["_law_item_here", "_law_told", "_law_tail"] ["_law_item_here"] (defScope st__law_long) := ⟨rfl, rfl, rfl, by decide +kernel, rfl, by decide +kernel, by decide +kernel⟩
abbrev st__law_graded : Stmt := topS 37
theorem sc__law_graded : FnScope ["_law_item_here", "_law_rung", "_law_told", "_law_ones"] ["_law_item_here", "_law_rung"] (defScope st__law_graded) := ⟨rfl, rfl, rfl, by decide +kernel, rfl, by decide +kernel, by decide +kernel⟩
abbrev st__law_item : Stmt := topS 38
theorem sc__law_item : FnScope ["_law_state", "_law_power", "_law_some"] ["_law_state"] (defScope st__law_item) := ⟨rfl, rfl, rfl, by decide +kernel, rfl, by decide +kernel, by decide +kernel⟩
abbrev st__law_refused : Stmt := topS 39
theorem sc__law_refused : FnScope ["_law_state", "_law_item_here", "_law_rung", "_law_odd", "_law_wrong", "_law_none", "_law_errors", "_law_error"] ["_law_state", "_law_item_here", "_law_rung"] (defScope st__law_refused) := ⟨rfl, rfl, rfl, by decide +kernel, rfl, by decide +kernel, by decide +kernel⟩
abbrev st_law : Stmt := topS 40
theorem sc_law : FnScope ["_law_script", "_law_state", "_law_turn", "_law_item_here", "_law_rung", "_law_size_here", "_law_told", "_law_part", "_law_nearer", "_law_signs", "_law_spot", "_law_odd"] ["_law_script"] (defScope st_law) := ⟨rfl, rfl, rfl, by decide +kernel, rfl, by decide +kernel, by decide +kernel⟩
def mdOf (K : PySem.W.Frag) : Md := { free := ["abs", "bool", "int", "isinstance", "len", "min", "range", "repr", "str"], gv := [("BadGrade", .ref (He.ga K "BadGrade")), ("BadMany", .ref (He.ga K "BadMany")), ("BadNumber", .ref (He.ga K "BadNumber")), ("MANY_ONES", (.int 12)), ("MOST_FIXED", (.int 16)), ("MOST_FOLDED", (.int 65534)), ("MOST_GRADE", (.int 7)), ("MOST_TOLD", (.int 32767))], exc := [("BadGrade", He.ga K "BadGrade"), ("BadMany", He.ga K "BadMany"), ("BadNumber", He.ga K "BadNumber"), ("ReelError", He.ga K "ReelError")] }

/-! ### the law's own defs: what they promise -/
abbrev tT (K : PySem.W.Frag) : Addr := (He.cT K ("_law_refused", none)).2
abbrev TT (K : PySem.W.Frag) : List (Addr × Str) := [(tT K, ("_law_refused" ++ ".<locals>." : Str) ++ "<lambda>")]
/-- the package's classes, as the law asks of them -/
structure Ck (K : PySem.W.Frag) (C : Str) : Prop where
  exm : PySem.W.exmOne K (bad K C) (.ref (He.ga K "ReelError")) = some true
  ex : ExcC K (He.ga K C)
  one : PySem.W.kitOne K (bad K C) (bad K C) = some true
def sp_two : SpD := fun vs H Q _ => ∃ k, vs = [.int k] ∧ 0 ≤ k ∧ k ≤ 60 ∧ Q (.int (2 ^ k.toNat)) H
def sp_graded : SpD := fun vs H Q _ => ∃ i g, vs = [.int i, .int g] ∧ -32768 < i ∧ i < 32768 ∧ 0 ≤ g ∧ g ≤ 7 ∧ Q (.str (gradeW i g)) H
def sp_item : SpD := fun vs H Q _ => ∃ st La Ca t, vs = [.ref st] ∧ t ≤ 2 ^ 39 ∧ Drw st La Ca H t ∧ ∀ i H', -32767 ≤ i → i ≤ 32767 → Drw st La Ca H' (t + 4) → Dr st La H H' → Q (.int i) H'
def sp_refused (K : PySem.W.Frag) : SpD := fun vs H Q _ => ∃ st La Ca t i g, vs = [.ref st, .int i, .int g] ∧ t ≤ 2 ^ 39 ∧ -32767 ≤ i ∧ i ≤ 32767 ∧ Drw st La Ca H t ∧ Tabs (TT K) H ∧
  ∀ H', Drw st La Ca H' (t + 5) → DrN st La H H' → Tabs (TT K) H' → Q (.bl true) H'
def sp_law (K : PySem.W.Frag) : SpD := fun vs H Q _ => ∃ (a : Addr) (zs : List Int), vs = [.ref a] ∧ SqL K H a (zs.map V.int) ∧ zs.length ≤ 1000 ∧ Tabs (TT K) H ∧ ∀ H', Q (.bl true) H'
abbrev S__law_begun (K : PySem.W.Frag) : SpG := spBegun K
abbrev S__law_draw (_ : PySem.W.Frag) : SpG := spDraw
abbrev S__law_pick (_ : PySem.W.Frag) : SpG := spPick
abbrev S__law_caught (K : PySem.W.Frag) : SpG := spCaught K
abbrev S__law_two (_ : PySem.W.Frag) : SpG := sh sp_two [0]
abbrev S__law_fold (_ : PySem.W.Frag) : SpG := sh sp_fold [0]
abbrev S__law_twos (_ : PySem.W.Frag) : SpG := sh sp_in_twos [0, 1]
abbrev S__law_long (_ : PySem.W.Frag) : SpG := sh sp_long_word [0]
abbrev S__law_graded (_ : PySem.W.Frag) : SpG := sh sp_graded [0, 1]
abbrev S__law_item (_ : PySem.W.Frag) : SpG := sh sp_item [0]
abbrev S__law_refused (K : PySem.W.Frag) : SpG := sh (sp_refused K) [0, 1, 2]
abbrev S_law (K : PySem.W.Frag) : SpG := sh (sp_law K) [0]
-- READING is_number
abbrev fl_is_number (K : PySem.W.Frag) : List FnE := []
abbrev gm_is_number (K : PySem.W.Frag) (cells : List (Str × Addr)) (acts : Acts) (T : List (Addr × Str)) (pt : Option Addr) : Gam := gam (mdOf K) ["thing"] (fl_is_number K) (act_is_number acts) ("is_number" ++ ".<locals>." : Str) cells T pt
theorem eq_is_number (K : PySem.W.Frag) (cells : List (Str × Addr)) (acts : Acts) (T : List (Addr × Str)) (W : WX) : wSL (wS K 40 (gm_is_number K cells acts T none) (defScope st_is_number) W) (defBody st_is_number) = t_is_number K cells acts T none W := by kernel_rfl
-- READING is_between
abbrev fl_is_between (K : PySem.W.Frag) : List FnE := [⟨"is_number", 1, [], 1, S_is_number K⟩]
abbrev gm_is_between (K : PySem.W.Frag) (cells : List (Str × Addr)) (acts : Acts) (T : List (Addr × Str)) (pt : Option Addr) : Gam := gam (mdOf K) ["thing", "low", "high"] (fl_is_between K) (act_is_between acts) ("is_between" ++ ".<locals>." : Str) cells T pt
theorem eq_is_between (K : PySem.W.Frag) (cells : List (Str × Addr)) (acts : Acts) (T : List (Addr × Str)) (W : WX) : wSL (wS K 40 (gm_is_between K cells acts T none) (defScope st_is_between) W) (defBody st_is_between) = t_is_between K cells acts T none W := by kernel_rfl
-- READING is_told
abbrev fl_is_told (K : PySem.W.Frag) : List FnE := [⟨"is_between", 3, [], 2, S_is_between K⟩]
abbrev gm_is_told (K : PySem.W.Frag) (cells : List (Str × Addr)) (acts : Acts) (T : List (Addr × Str)) (pt : Option Addr) : Gam := gam (mdOf K) ["thing"] (fl_is_told K) (act_is_told acts) ("is_told" ++ ".<locals>." : Str) cells T pt
theorem eq_is_told (K : PySem.W.Frag) (cells : List (Str × Addr)) (acts : Acts) (T : List (Addr × Str)) (W : WX) : wSL (wS K 40 (gm_is_told K cells acts T none) (defScope st_is_told) W) (defBody st_is_told) = t_is_told K cells acts T none W := by kernel_rfl
-- READING is_bits
abbrev fl_is_bits (K : PySem.W.Frag) : List FnE := []
abbrev gm_is_bits (K : PySem.W.Frag) (cells : List (Str × Addr)) (acts : Acts) (T : List (Addr × Str)) (pt : Option Addr) : Gam := gam (mdOf K) ["thing"] (fl_is_bits K) (act_is_bits acts) ("is_bits" ++ ".<locals>." : Str) cells T pt
theorem eq_is_bits (K : PySem.W.Frag) (cells : List (Str × Addr)) (acts : Acts) (T : List (Addr × Str)) (W : WX) : wSL (wS K 40 (gm_is_bits K cells acts T none) (defScope st_is_bits) W) (defBody st_is_bits) = t_is_bits K cells acts T none W := by kernel_rfl
-- READING need_told
abbrev fl_need_told (K : PySem.W.Frag) : List FnE := [⟨"is_told", 1, [], 3, S_is_told K⟩]
abbrev gm_need_told (K : PySem.W.Frag) (cells : List (Str × Addr)) (acts : Acts) (T : List (Addr × Str)) (pt : Option Addr) : Gam := gam (mdOf K) ["number"] (fl_need_told K) (act_need_told acts) ("need_told" ++ ".<locals>." : Str) cells T pt
theorem eq_need_told (K : PySem.W.Frag) (cells : List (Str × Addr)) (acts : Acts) (T : List (Addr × Str)) (W : WX) : wSL (wS K 40 (gm_need_told K cells acts T none) (defScope st_need_told) W) (defBody st_need_told) = t_need_told K cells acts T none W := by kernel_rfl
-- READING need_grade
abbrev fl_need_grade (K : PySem.W.Frag) : List FnE := [⟨"is_between", 3, [], 2, S_is_between K⟩]
abbrev gm_need_grade (K : PySem.W.Frag) (cells : List (Str × Addr)) (acts : Acts) (T : List (Addr × Str)) (pt : Option Addr) : Gam := gam (mdOf K) ["grade"] (fl_need_grade K) (act_need_grade acts) ("need_grade" ++ ".<locals>." : Str) cells T pt
theorem eq_need_grade (K : PySem.W.Frag) (cells : List (Str × Addr)) (acts : Acts) (T : List (Addr × Str)) (W : WX) : wSL (wS K 40 (gm_need_grade K cells acts T none) (defScope st_need_grade) W) (defBody st_need_grade) = t_need_grade K cells acts T none W := by kernel_rfl
-- READING need_many
abbrev fl_need_many (K : PySem.W.Frag) : List FnE := [⟨"is_between", 3, [], 2, S_is_between K⟩]
abbrev gm_need_many (K : PySem.W.Frag) (cells : List (Str × Addr)) (acts : Acts) (T : List (Addr × Str)) (pt : Option Addr) : Gam := gam (mdOf K) ["many"] (fl_need_many K) (act_need_many acts) ("need_many" ++ ".<locals>." : Str) cells T pt
theorem eq_need_many (K : PySem.W.Frag) (cells : List (Str × Addr)) (acts : Acts) (T : List (Addr × Str)) (W : WX) : wSL (wS K 40 (gm_need_many K cells acts T none) (defScope st_need_many) W) (defBody st_need_many) = t_need_many K cells acts T none W := by kernel_rfl
-- READING fold
abbrev fl_fold (K : PySem.W.Frag) : List FnE := []
abbrev gm_fold (K : PySem.W.Frag) (cells : List (Str × Addr)) (acts : Acts) (T : List (Addr × Str)) (pt : Option Addr) : Gam := gam (mdOf K) ["number"] (fl_fold K) (act_fold acts) ("fold" ++ ".<locals>." : Str) cells T pt
theorem eq_fold (K : PySem.W.Frag) (cells : List (Str × Addr)) (acts : Acts) (T : List (Addr × Str)) (W : WX) : wSL (wS K 40 (gm_fold K cells acts T none) (defScope st_fold) W) (defBody st_fold) = t_fold K cells acts T none W := by kernel_rfl
-- READING unfold
abbrev fl_unfold (K : PySem.W.Frag) : List FnE := []
abbrev gm_unfold (K : PySem.W.Frag) (cells : List (Str × Addr)) (acts : Acts) (T : List (Addr × Str)) (pt : Option Addr) : Gam := gam (mdOf K) ["number"] (fl_unfold K) (act_unfold acts) ("unfold" ++ ".<locals>." : Str) cells T pt
theorem eq_unfold (K : PySem.W.Frag) (cells : List (Str × Addr)) (acts : Acts) (T : List (Addr × Str)) (W : WX) : wSL (wS K 40 (gm_unfold K cells acts T none) (defScope st_unfold) W) (defBody st_unfold) = t_unfold K cells acts T none W := by kernel_rfl
-- READING folded
abbrev fl_folded (K : PySem.W.Frag) : List FnE := [⟨"need_told", 1, [], 4, S_need_told K⟩, ⟨"fold", 1, [], 1, S_fold K⟩]
abbrev gm_folded (K : PySem.W.Frag) (cells : List (Str × Addr)) (acts : Acts) (T : List (Addr × Str)) (pt : Option Addr) : Gam := gam (mdOf K) ["number"] (fl_folded K) (act_folded acts) ("folded" ++ ".<locals>." : Str) cells T pt
theorem eq_folded (K : PySem.W.Frag) (cells : List (Str × Addr)) (acts : Acts) (T : List (Addr × Str)) (W : WX) : wSL (wS K 40 (gm_folded K cells acts T none) (defScope st_folded) W) (defBody st_folded) = t_folded K cells acts T none W := by kernel_rfl
-- READING unfolded
abbrev fl_unfolded (K : PySem.W.Frag) : List FnE := [⟨"is_between", 3, [], 2, S_is_between K⟩, ⟨"unfold", 1, [], 1, S_unfold K⟩]
abbrev gm_unfolded (K : PySem.W.Frag) (cells : List (Str × Addr)) (acts : Acts) (T : List (Addr × Str)) (pt : Option Addr) : Gam := gam (mdOf K) ["number"] (fl_unfolded K) (act_unfolded acts) ("unfolded" ++ ".<locals>." : Str) cells T pt
theorem eq_unfolded (K : PySem.W.Frag) (cells : List (Str × Addr)) (acts : Acts) (T : List (Addr × Str)) (W : WX) : wSL (wS K 40 (gm_unfolded K cells acts T none) (defScope st_unfolded) W) (defBody st_unfolded) = t_unfolded K cells acts T none W := by kernel_rfl
-- READING in_twos
abbrev fl_in_twos (K : PySem.W.Frag) : List FnE := []
abbrev gm_in_twos (K : PySem.W.Frag) (cells : List (Str × Addr)) (acts : Acts) (T : List (Addr × Str)) (pt : Option Addr) : Gam := gam (mdOf K) ["number", "many", "found", "turn"] (fl_in_twos K) (act_in_twos acts) ("in_twos" ++ ".<locals>." : Str) cells T pt
theorem eq_in_twos (K : PySem.W.Frag) (cells : List (Str × Addr)) (acts : Acts) (T : List (Addr × Str)) (W : WX) : wSL (wS K 40 (gm_in_twos K cells acts T none) (defScope st_in_twos) W) (defBody st_in_twos) = t_in_twos K cells acts T none W := by kernel_rfl
-- READING fixed_bits
abbrev fl_fixed_bits (K : PySem.W.Frag) : List FnE := [⟨"need_many", 1, [], 3, S_need_many K⟩, ⟨"is_between", 3, [], 2, S_is_between K⟩, ⟨"in_twos", 2, [], 1, S_in_twos K⟩]
abbrev gm_fixed_bits (K : PySem.W.Frag) (cells : List (Str × Addr)) (acts : Acts) (T : List (Addr × Str)) (pt : Option Addr) : Gam := gam (mdOf K) ["number", "many"] (fl_fixed_bits K) (act_fixed_bits acts) ("fixed_bits" ++ ".<locals>." : Str) cells T pt
theorem eq_fixed_bits (K : PySem.W.Frag) (cells : List (Str × Addr)) (acts : Acts) (T : List (Addr × Str)) (W : WX) : wSL (wS K 40 (gm_fixed_bits K cells acts T none) (defScope st_fixed_bits) W) (defBody st_fixed_bits) = t_fixed_bits K cells acts T none W := by kernel_rfl
-- READING long_word
abbrev fl_long_word (K : PySem.W.Frag) : List FnE := [⟨"fold", 1, [], 1, S_fold K⟩, ⟨"in_twos", 2, [], 1, S_in_twos K⟩]
abbrev gm_long_word (K : PySem.W.Frag) (cells : List (Str × Addr)) (acts : Acts) (T : List (Addr × Str)) (pt : Option Addr) : Gam := gam (mdOf K) ["number", "told", "many"] (fl_long_word K) (act_long_word acts) ("long_word" ++ ".<locals>." : Str) cells T pt
theorem eq_long_word (K : PySem.W.Frag) (cells : List (Str × Addr)) (acts : Acts) (T : List (Addr × Str)) (W : WX) : wSL (wS K 40 (gm_long_word K cells acts T none) (defScope st_long_word) W) (defBody st_long_word) = t_long_word K cells acts T none W := by kernel_rfl
-- READING long_bits
abbrev fl_long_bits (K : PySem.W.Frag) : List FnE := [⟨"need_told", 1, [], 4, S_need_told K⟩, ⟨"long_word", 1, [], 2, S_long_word K⟩]
abbrev gm_long_bits (K : PySem.W.Frag) (cells : List (Str × Addr)) (acts : Acts) (T : List (Addr × Str)) (pt : Option Addr) : Gam := gam (mdOf K) ["number"] (fl_long_bits K) (act_long_bits acts) ("long_bits" ++ ".<locals>." : Str) cells T pt
theorem eq_long_bits (K : PySem.W.Frag) (cells : List (Str × Addr)) (acts : Acts) (T : List (Addr × Str)) (W : WX) : wSL (wS K 40 (gm_long_bits K cells acts T none) (defScope st_long_bits) W) (defBody st_long_bits) = t_long_bits K cells acts T none W := by kernel_rfl
-- READING grade_word
abbrev fl_grade_word (K : PySem.W.Frag) : List FnE := [⟨"fold", 1, [], 1, S_fold K⟩, ⟨"in_twos", 2, [], 1, S_in_twos K⟩]
abbrev gm_grade_word (K : PySem.W.Frag) (cells : List (Str × Addr)) (acts : Acts) (T : List (Addr × Str)) (pt : Option Addr) : Gam := gam (mdOf K) ["number", "grade", "told", "ones"] (fl_grade_word K) (act_grade_word acts) ("grade_word" ++ ".<locals>." : Str) cells T pt
theorem eq_grade_word (K : PySem.W.Frag) (cells : List (Str × Addr)) (acts : Acts) (T : List (Addr × Str)) (W : WX) : wSL (wS K 40 (gm_grade_word K cells acts T none) (defScope st_grade_word) W) (defBody st_grade_word) = t_grade_word K cells acts T none W := by kernel_rfl
-- READING grade_bits
abbrev fl_grade_bits (K : PySem.W.Frag) : List FnE := [⟨"need_told", 1, [], 4, S_need_told K⟩, ⟨"need_grade", 1, [], 3, S_need_grade K⟩, ⟨"grade_word", 2, [], 2, S_grade_word K⟩]
abbrev gm_grade_bits (K : PySem.W.Frag) (cells : List (Str × Addr)) (acts : Acts) (T : List (Addr × Str)) (pt : Option Addr) : Gam := gam (mdOf K) ["number", "grade"] (fl_grade_bits K) (act_grade_bits acts) ("grade_bits" ++ ".<locals>." : Str) cells T pt
theorem eq_grade_bits (K : PySem.W.Frag) (cells : List (Str × Addr)) (acts : Acts) (T : List (Addr × Str)) (W : WX) : wSL (wS K 40 (gm_grade_bits K cells acts T none) (defScope st_grade_bits) W) (defBody st_grade_bits) = t_grade_bits K cells acts T none W := by kernel_rfl
-- READING _law_begun
abbrev fl__law_begun (K : PySem.W.Frag) : List FnE := []
abbrev act__law_begun (acts : Acts) : Acts := fun g tl => false = true ∧ acts g tl
abbrev gm__law_begun (K : PySem.W.Frag) (cells : List (Str × Addr)) (acts : Acts) (T : List (Addr × Str)) (pt : Option Addr) : Gam := gam (mdOf K) ["_law_script", "_law_cells_here", "_law_cell", "_law_large"] (fl__law_begun K) (act__law_begun acts) ("_law_begun" ++ ".<locals>." : Str) cells T pt
def t__law_begun (K : PySem.W.Frag) (cells : List (Str × Addr)) (acts : Acts) (T : List (Addr × Str)) (pt : Option Addr) (W : WX) : TS :=
  (tSeq (tAsg (tLc (iSeq K (tVar 0)) (gName 2) tYes (tCB G.rAbs1 (tCons (tVar 2) tNil)) [2]) (gName 1))
  (tSeq (tAsg (tLc (iSeq K (tVar 1)) (gName 2) (tTest (tOp (G.rCmp K .GtE) (tVar 2) (tOp (G.rBin K .Pow) (tC (.int 10)) (tC (.int 18))))) (tOp (G.rBin K .Sub) (tVar 2) (tOp (G.rBin K .Pow) (tC (.int 10)) (tC (.int 18)))) [2]) (gName 3))
  (tRet (tDisp [((tC (.str "large")), (tVar 3)), ((tC (.str "cells")), (tVar 1)), ((tC (.str "left")), (tC (.int 0))), ((tC (.str "turn")), (tC (.int 0)))]))))
theorem eq__law_begun (K : PySem.W.Frag) (cells : List (Str × Addr)) (acts : Acts) (T : List (Addr × Str)) (W : WX) : wSL (wS K 40 (gm__law_begun K cells acts T none) (defScope st__law_begun) W) (defBody st__law_begun) = t__law_begun K cells acts T none W := by kernel_rfl
-- READING _law_draw
abbrev fl__law_draw (K : PySem.W.Frag) : List FnE := []
abbrev act__law_draw (acts : Acts) : Acts := fun g tl => false = true ∧ acts g tl
abbrev gm__law_draw (K : PySem.W.Frag) (cells : List (Str × Addr)) (acts : Acts) (T : List (Addr × Str)) (pt : Option Addr) : Gam := gam (mdOf K) ["_law_state", "_law_size_here", "_law_found", "_law_turn", "_law_cell", "_law_mixed"] (fl__law_draw K) (act__law_draw acts) ("_law_draw" ++ ".<locals>." : Str) cells T pt
def t__law_draw (K : PySem.W.Frag) (cells : List (Str × Addr)) (acts : Acts) (T : List (Addr × Str)) (pt : Option Addr) (W : WX) : TS :=
  (tSeq (tWhile (tAnd (tTest (tOp (G.rCmp K .Eq) (tOp (G.rSub2 K) (tVar 0) (tC (.str "left"))) (tC (.int 0)))) (tTest (tOp (G.rCmp K .NotEq) (tOp (G.rSub2 K) (tVar 0) (tC (.str "large"))) (tLst tNil))))
  (tAsg (tBM K "list" rPopAt (tOp (G.rSub2 K) (tVar 0) (tC (.str "large"))) (tCons (tC (.int 0)) tNil)) (gSub (tVar 0) (tC (.str "left")) G.rPut)))
  (tSeq (tIfS (tTest (tOp (G.rCmp K .Gt) (tOp (G.rSub2 K) (tVar 0) (tC (.str "left"))) (tC (.int 0))))
  (tSeq (tAsg (tOp (G.rBin K .Mod) (tCB G.rInt1 (tCons (tOp (G.rSub2 K) (tVar 0) (tC (.str "left"))) tNil)) (tVar 1)) (gName 2))
  (tSeq (tAsg (tOp (G.rBin K .FloorDiv) (tOp (G.rSub2 K) (tVar 0) (tC (.str "left"))) (tVar 1)) (gSub (tVar 0) (tC (.str "left")) G.rPut))
  (tRet (tVar 2))))
  tNext)
  (tSeq (tAsg (tOp (G.rBin K .Add) (tOp (G.rSub2 K) (tVar 0) (tC (.str "turn"))) (tC (.int 1))) (gName 3))
  (tSeq (tAsg (tVar 3) (gSub (tVar 0) (tC (.str "turn")) G.rPut))
  (tSeq (tAsg (tIf (tTest (tOp (G.rCmp K .NotEq) (tOp (G.rSub2 K) (tVar 0) (tC (.str "cells"))) (tLst tNil))) (tOp (G.rSub2 K) (tOp (G.rSub2 K) (tVar 0) (tC (.str "cells"))) (tOp (G.rBin K .Mod) (tCB G.rInt1 (tCons (tVar 3) tNil)) (tCB (G.rLen K) (tCons (tOp (G.rSub2 K) (tVar 0) (tC (.str "cells"))) tNil)))) (tC (.int 0))) (gName 4))
  (tSeq (tAsg (tOp (G.rBin K .Mod) (tCB G.rInt1 (tCons (tOp (G.rBin K .Pow) (tOp (G.rBin K .Add) (tOp (G.rBin K .Add) (tOp (G.rBin K .Mod) (tCB G.rInt1 (tCons (tVar 4) tNil)) (tC (.int 2147483563))) (tOp (G.rBin K .Mult) (tC (.int 40692)) (tVar 3))) (tC (.int 24681))) (tC (.int 3))) tNil)) (tC (.int 2147483629))) (gName 5))
  (tRet (tOp (G.rBin K .Mod) (tCB G.rInt1 (tCons (tOp (G.rBin K .FloorDiv) (tOp (G.rBin K .Mod) (tCB G.rInt1 (tCons (tOp (G.rBin K .Pow) (tOp (G.rBin K .Add) (tVar 5) (tOp (G.rBin K .Mult) (tC (.int 104917)) (tVar 3))) (tC (.int 5))) tNil)) (tC (.int 2147483579))) (tC (.int 29))) tNil)) (tVar 1)))))))))
theorem eq__law_draw (K : PySem.W.Frag) (cells : List (Str × Addr)) (acts : Acts) (T : List (Addr × Str)) (W : WX) : wSL (wS K 40 (gm__law_draw K cells acts T none) (defScope st__law_draw) W) (defBody st__law_draw) = t__law_draw K cells acts T none W := by kernel_rfl
-- READING _law_pick
abbrev fl__law_pick (K : PySem.W.Frag) : List FnE := [⟨"_law_draw", 2, [], 1, S__law_draw K⟩]
abbrev act__law_pick (acts : Acts) : Acts := fun g tl => false = true ∧ acts g tl
abbrev gm__law_pick (K : PySem.W.Frag) (cells : List (Str × Addr)) (acts : Acts) (T : List (Addr × Str)) (pt : Option Addr) : Gam := gam (mdOf K) ["_law_state", "_law_several"] (fl__law_pick K) (act__law_pick acts) ("_law_pick" ++ ".<locals>." : Str) cells T pt
def t__law_pick (K : PySem.W.Frag) (cells : List (Str × Addr)) (acts : Acts) (T : List (Addr × Str)) (pt : Option Addr) (W : WX) : TS :=
  (tRet (tOp (G.rSub2 K) (tVar 1) (tFn (S__law_draw K) (fun _ _ => act__law_pick acts) W (tCons (tVar 0) (tCons (tCB (G.rLen K) (tCons (tVar 1) tNil)) tNil)) tNil 2 0)))
theorem eq__law_pick (K : PySem.W.Frag) (cells : List (Str × Addr)) (acts : Acts) (T : List (Addr × Str)) (W : WX) : wSL (wS K 40 (gm__law_pick K cells acts T none) (defScope st__law_pick) W) (defBody st__law_pick) = t__law_pick K cells acts T none W := by kernel_rfl
-- READING _law_caught
abbrev fl__law_caught (K : PySem.W.Frag) : List FnE := []
abbrev act__law_caught (acts : Acts) : Acts := fun g tl => true = true ∧ acts g tl
abbrev gm__law_caught (K : PySem.W.Frag) (cells : List (Str × Addr)) (acts : Acts) (T : List (Addr × Str)) (pt : Option Addr) : Gam := gam (mdOf K) ["_law_work", "_law_caught_here", "_law_error"] (fl__law_caught K) (act__law_caught acts) ("_law_caught" ++ ".<locals>." : Str) cells T pt
def t__law_caught (K : PySem.W.Frag) (cells : List (Str × Addr)) (acts : Acts) (T : List (Addr × Str)) (pt : Option Addr) (W : WX) : TS :=
  (tSeq (tAsg (tC .non) (gName 1))
  (tSeq (fun D σ H => (tDrop (tThunk 0 (act__law_caught acts) (wKeep K (.ref (He.ga K "ReelError")) 2 (tAsg (tVar 2) (gName 1)) W D))) D σ H)
  (tRet (tVar 1))))
theorem eq__law_caught (K : PySem.W.Frag) (cells : List (Str × Addr)) (acts : Acts) (T : List (Addr × Str)) (W : WX) : wSL (wS K 40 (gm__law_caught K cells acts T none) (defScope st__law_caught) W) (defBody st__law_caught) = t__law_caught K cells acts T none W := by kernel_rfl
-- READING _law_two
abbrev fl__law_two (K : PySem.W.Frag) : List FnE := []
abbrev act__law_two (acts : Acts) : Acts := fun g tl => false = true ∧ acts g tl
abbrev gm__law_two (K : PySem.W.Frag) (cells : List (Str × Addr)) (acts : Acts) (T : List (Addr × Str)) (pt : Option Addr) : Gam := gam (mdOf K) ["_law_size_here", "_law_found", "_law_turn"] (fl__law_two K) (act__law_two acts) ("_law_two" ++ ".<locals>." : Str) cells T pt
def t__law_two (K : PySem.W.Frag) (cells : List (Str × Addr)) (acts : Acts) (T : List (Addr × Str)) (pt : Option Addr) (W : WX) : TS :=
  (tSeq (tAsg (tC (.int 1)) (gName 1))
  (tSeq (tFor (iRng1 (tCons (tVar 0) tNil)) (gName 2)
  (tAsg (tOp (G.rBin K .Mult) (tVar 1) (tC (.int 2))) (gName 1)))
  (tRet (tVar 1))))
theorem eq__law_two (K : PySem.W.Frag) (cells : List (Str × Addr)) (acts : Acts) (T : List (Addr × Str)) (W : WX) : wSL (wS K 40 (gm__law_two K cells acts T none) (defScope st__law_two) W) (defBody st__law_two) = t__law_two K cells acts T none W := by kernel_rfl
-- READING _law_fold
abbrev fl__law_fold (K : PySem.W.Frag) : List FnE := []
abbrev act__law_fold (acts : Acts) : Acts := fun g tl => false = true ∧ acts g tl
abbrev gm__law_fold (K : PySem.W.Frag) (cells : List (Str × Addr)) (acts : Acts) (T : List (Addr × Str)) (pt : Option Addr) : Gam := gam (mdOf K) ["_law_item_here"] (fl__law_fold K) (act__law_fold acts) ("_law_fold" ++ ".<locals>." : Str) cells T pt
def t__law_fold (K : PySem.W.Frag) (cells : List (Str × Addr)) (acts : Acts) (T : List (Addr × Str)) (pt : Option Addr) (W : WX) : TS :=
  (tRet (tIf (tTest (tOp (G.rCmp K .Gt) (tVar 0) (tC (.int 0)))) (tOp (G.rBin K .Sub) (tOp (G.rBin K .Mult) (tC (.int 2)) (tVar 0)) (tC (.int 1))) (tOp (G.rBin K .Sub) (tC (.int 0)) (tOp (G.rBin K .Mult) (tC (.int 2)) (tVar 0)))))
theorem eq__law_fold (K : PySem.W.Frag) (cells : List (Str × Addr)) (acts : Acts) (T : List (Addr × Str)) (W : WX) : wSL (wS K 40 (gm__law_fold K cells acts T none) (defScope st__law_fold) W) (defBody st__law_fold) = t__law_fold K cells acts T none W := by kernel_rfl
-- READING _law_twos
abbrev fl__law_twos (K : PySem.W.Frag) : List FnE := []
abbrev act__law_twos (acts : Acts) : Acts := fun g tl => false = true ∧ acts g tl
abbrev gm__law_twos (K : PySem.W.Frag) (cells : List (Str × Addr)) (acts : Acts) (T : List (Addr × Str)) (pt : Option Addr) : Gam := gam (mdOf K) ["_law_item_here", "_law_size_here", "_law_found", "_law_turn"] (fl__law_twos K) (act__law_twos acts) ("_law_twos" ++ ".<locals>." : Str) cells T pt
def t__law_twos (K : PySem.W.Frag) (cells : List (Str × Addr)) (acts : Acts) (T : List (Addr × Str)) (pt : Option Addr) (W : WX) : TS :=
  (tSeq (tAsg (tC (.str "")) (gName 2))
  (tSeq (tFor (iRng1 (tCons (tVar 1) tNil)) (gName 3)
  (tSeq (tAsg (tOp (G.rBin K .Add) (tCB G.rStr1 (tCons (tOp (G.rBin K .Mod) (tCB G.rInt1 (tCons (tVar 0) tNil)) (tC (.int 2))) tNil)) (tVar 2)) (gName 2))
  (tAsg (tOp (G.rBin K .FloorDiv) (tVar 0) (tC (.int 2))) (gName 0))))
  (tRet (tVar 2))))
theorem eq__law_twos (K : PySem.W.Frag) (cells : List (Str × Addr)) (acts : Acts) (T : List (Addr × Str)) (W : WX) : wSL (wS K 40 (gm__law_twos K cells acts T none) (defScope st__law_twos) W) (defBody st__law_twos) = t__law_twos K cells acts T none W := by kernel_rfl
-- READING _law_long
abbrev fl__law_long (K : PySem.W.Frag) : List FnE := [⟨"_law_fold", 1, [], 1, S__law_fold K⟩]
abbrev act__law_long (acts : Acts) : Acts := fun g tl => false = true ∧ acts g tl
abbrev gm__law_long (K : PySem.W.Frag) (cells : List (Str × Addr)) (acts : Acts) (T : List (Addr × Str)) (pt : Option Addr) : Gam := gam (mdOf K) ["_law_item_here", "_law_told", "_law_tail"] (fl__law_long K) (act__law_long acts) ("_law_long" ++ ".<locals>." : Str) cells T pt
def t__law_long (K : PySem.W.Frag) (cells : List (Str × Addr)) (acts : Acts) (T : List (Addr × Str)) (pt : Option Addr) (W : WX) : TS :=
  (tSeq (tPar 1 2 (tCons (tOp (G.rBin K .Add) (tFn (S__law_fold K) (fun _ _ => act__law_long acts) W (tCons (tVar 0) tNil) tNil 1 0) (tC (.int 1))) (tCons (tC (.str "")) tNil)))
  (tSeq (tWhile (tTest (tOp (G.rCmp K .Gt) (tVar 1) (tC (.int 1))))
  (tSeq (tAsg (tOp (G.rBin K .Add) (tCB G.rStr1 (tCons (tOp (G.rBin K .Mod) (tCB G.rInt1 (tCons (tVar 1) tNil)) (tC (.int 2))) tNil)) (tVar 2)) (gName 2))
  (tAsg (tOp (G.rBin K .FloorDiv) (tVar 1) (tC (.int 2))) (gName 1))))
  (tRet (tOp (G.rBin K .Add) (tOp (G.rBin K .Add) (tOp (G.rBin K .Mult) (tC (.str "1")) (tCB (G.rLen K) (tCons (tVar 2) tNil))) (tC (.str "0"))) (tVar 2)))))
theorem eq__law_long (K : PySem.W.Frag) (cells : List (Str × Addr)) (acts : Acts) (T : List (Addr × Str)) (W : WX) : wSL (wS K 40 (gm__law_long K cells acts T none) (defScope st__law_long) W) (defBody st__law_long) = t__law_long K cells acts T none W := by kernel_rfl
-- READING _law_graded
abbrev fl__law_graded (K : PySem.W.Frag) : List FnE := [⟨"_law_fold", 1, [], 1, S__law_fold K⟩, ⟨"_law_two", 1, [], 1, S__law_two K⟩, ⟨"_law_twos", 2, [], 1, S__law_twos K⟩]
abbrev act__law_graded (acts : Acts) : Acts := fun g tl => false = true ∧ acts g tl
abbrev gm__law_graded (K : PySem.W.Frag) (cells : List (Str × Addr)) (acts : Acts) (T : List (Addr × Str)) (pt : Option Addr) : Gam := gam (mdOf K) ["_law_item_here", "_law_rung", "_law_told", "_law_ones"] (fl__law_graded K) (act__law_graded acts) ("_law_graded" ++ ".<locals>." : Str) cells T pt
def t__law_graded (K : PySem.W.Frag) (cells : List (Str × Addr)) (acts : Acts) (T : List (Addr × Str)) (pt : Option Addr) (W : WX) : TS :=
  (tSeq (tAsg (tFn (S__law_fold K) (fun _ _ => act__law_graded acts) W (tCons (tVar 0) tNil) tNil 1 0) (gName 2))
  (tSeq (tAsg (tOp (G.rBin K .FloorDiv) (tVar 2) (tFn (S__law_two K) (fun _ _ => act__law_graded acts) W (tCons (tVar 1) tNil) tNil 1 0)) (gName 3))
  (tSeq (tIfS (tTest (tOp (G.rCmp K .Lt) (tVar 3) (tC (.int 12))))
  (tRet (tOp (G.rBin K .Add) (tOp (G.rBin K .Add) (tOp (G.rBin K .Mult) (tC (.str "1")) (tVar 3)) (tC (.str "0"))) (tFn (S__law_twos K) (fun _ _ => act__law_graded acts) W (tCons (tOp (G.rBin K .Mod) (tCB G.rInt1 (tCons (tVar 2) tNil)) (tFn (S__law_two K) (fun _ _ => act__law_graded acts) W (tCons (tVar 1) tNil) tNil 1 0)) (tCons (tVar 1) tNil)) tNil 2 0)))
  tNext)
  (tRet (tOp (G.rBin K .Add) (tOp (G.rBin K .Mult) (tC (.str "1")) (tC (.int 12))) (tFn (S__law_twos K) (fun _ _ => act__law_graded acts) W (tCons (tVar 2) (tCons (tC (.int 16)) tNil)) tNil 2 0))))))
theorem eq__law_graded (K : PySem.W.Frag) (cells : List (Str × Addr)) (acts : Acts) (T : List (Addr × Str)) (W : WX) : wSL (wS K 40 (gm__law_graded K cells acts T none) (defScope st__law_graded) W) (defBody st__law_graded) = t__law_graded K cells acts T none W := by kernel_rfl
-- READING _law_item
abbrev fl__law_item (K : PySem.W.Frag) : List FnE := [⟨"_law_two", 1, [], 1, S__law_two K⟩, ⟨"_law_draw", 2, [], 1, S__law_draw K⟩, ⟨"_law_pick", 2, [], 2, S__law_pick K⟩]
abbrev act__law_item (acts : Acts) : Acts := fun g tl => false = true ∧ acts g tl
abbrev gm__law_item (K : PySem.W.Frag) (cells : List (Str × Addr)) (acts : Acts) (T : List (Addr × Str)) (pt : Option Addr) : Gam := gam (mdOf K) ["_law_state", "_law_power", "_law_some"] (fl__law_item K) (act__law_item acts) ("_law_item" ++ ".<locals>." : Str) cells T pt
def t__law_item (K : PySem.W.Frag) (cells : List (Str × Addr)) (acts : Acts) (T : List (Addr × Str)) (pt : Option Addr) (W : WX) : TS :=
  (tSeq (tAsg (tFn (S__law_two K) (fun _ _ => act__law_item acts) W (tCons (tFn (S__law_draw K) (fun _ _ => act__law_item acts) W (tCons (tVar 0) (tCons (tC (.int 15)) tNil)) tNil 2 0) tNil) tNil 1 0) (gName 1))
  (tSeq (tAsg (tLst (tCons (tC (.int 0)) (tCons (tC (.int 1)) (tCons (tUn (rU fun i => .int (-i)) (tC (.int 1))) (tCons (tC (.int 2)) (tCons (tUn (rU fun i => .int (-i)) (tC (.int 2))) (tCons (tOp (G.rBin K .Sub) (tFn (S__law_draw K) (fun _ _ => act__law_item acts) W (tCons (tVar 0) (tCons (tC (.int 41)) tNil)) tNil 2 0) (tC (.int 20))) (tCons (tOp (G.rBin K .Sub) (tFn (S__law_draw K) (fun _ _ => act__law_item acts) W (tCons (tVar 0) (tCons (tC (.int 5001)) tNil)) tNil 2 0) (tC (.int 2500))) (tCons (tC (.int 32767)) (tCons (tUn (rU fun i => .int (-i)) (tC (.int 32767))) (tCons (tC (.int 32766)) tNil))))))))))) (gName 2))
  (tRet (tFn (S__law_pick K) (fun _ _ => act__law_item acts) W (tCons (tVar 0) (tCons (tOp (G.rBin K .Add) (tVar 2) (tLst (tCons (tVar 1) (tCons (tOp (G.rBin K .Sub) (tC (.int 0)) (tVar 1)) (tCons (tOp (G.rBin K .Sub) (tVar 1) (tC (.int 1))) (tCons (tOp (G.rBin K .Sub) (tC (.int 1)) (tVar 1)) tNil)))))) tNil)) tNil 2 0))))
theorem eq__law_item (K : PySem.W.Frag) (cells : List (Str × Addr)) (acts : Acts) (T : List (Addr × Str)) (W : WX) : wSL (wS K 40 (gm__law_item K cells acts T none) (defScope st__law_item) W) (defBody st__law_item) = t__law_item K cells acts T none W := by kernel_rfl
-- READING _law_refused
abbrev fl__law_refused (K : PySem.W.Frag) : List FnE := [⟨"_law_pick", 2, [], 2, S__law_pick K⟩, ⟨"_law_caught", 1, [], 44, S__law_caught K⟩, ⟨"folded", 1, [], 5, S_folded K⟩, ⟨"long_bits", 1, [], 5, S_long_bits K⟩, ⟨"grade_bits", 2, [], 5, S_grade_bits K⟩, ⟨"unfolded", 1, [], 3, S_unfolded K⟩, ⟨"fixed_bits", 2, [], 4, S_fixed_bits K⟩]
abbrev act__law_refused (acts : Acts) : Acts := fun g tl => false = true ∧ acts g tl
abbrev gm__law_refused (K : PySem.W.Frag) (cells : List (Str × Addr)) (acts : Acts) (T : List (Addr × Str)) (pt : Option Addr) : Gam := gam (mdOf K) ["_law_state", "_law_item_here", "_law_rung", "_law_odd", "_law_wrong", "_law_none", "_law_errors", "_law_error"] (fl__law_refused K) (act__law_refused acts) ("_law_refused" ++ ".<locals>." : Str) cells T pt
abbrev ac__law_refused (K : PySem.W.Frag) (cells : List (Str × Addr)) (acts : Acts) (T : List (Addr × Str)) (pt : Option Addr) (n : Nat) : L2.St → Hp → Acts := actsAt (gm__law_refused K cells acts T pt) (defScope st__law_refused) fun s W b => wE K n (gm__law_refused K cells acts T pt).low s W b
def t__law_refused (K : PySem.W.Frag) (cells : List (Str × Addr)) (acts : Acts) (T : List (Addr × Str)) (pt : Option Addr) (W : WX) : TS :=
  (tSeq (tAsg (tFn (S__law_pick K) (ac__law_refused K cells acts T pt 38) W (tCons (tVar 0) (tCons (tLst (tCons (tC (.int 32768)) (tCons (tUn (rU fun i => .int (-i)) (tC (.int 32768))) (tCons (tC (.bl true)) (tCons (tC .non) (tCons (tC (.str "1")) (tCons (tTup (tCons (tC (.int 0)) tNil)) (tCons (tOp (G.rBin K .Pow) (tC (.int 10)) (tC (.int 11))) tNil)))))))) tNil)) tNil 2 0) (gName 3))
  (tSeq (tAsg (tFn (S__law_pick K) (ac__law_refused K cells acts T pt 38) W (tCons (tVar 0) (tCons (tLst (tCons (tUn (rU fun i => .int (-i)) (tC (.int 1))) (tCons (tC (.int 8)) (tCons (tC (.bl true)) (tCons (tC .non) (tCons (tC (.str "0")) tNil)))))) tNil)) tNil 2 0) (gName 4))
  (tSeq (tAsg (tFn (S__law_pick K) (ac__law_refused K cells acts T pt 38) W (tCons (tVar 0) (tCons (tLst (tCons (tC (.int 0)) (tCons (tC (.int 17)) (tCons (tC (.bl true)) (tCons (tC .non) (tCons (tC (.str "3")) tNil)))))) tNil)) tNil 2 0) (gName 5))
  (tSeq (tAsg (tLst (tCons (tCaught K (ac__law_refused K cells acts T pt 37) W (tLamV (("_law_refused" ++ ".<locals>." : Str)) cells T (lamB (defBody st__law_refused) 0) (lamC (defBody st__law_refused) 0))) (tCons (tCaught K (ac__law_refused K cells acts T pt 37) W (tLamV (("_law_refused" ++ ".<locals>." : Str)) cells T (lamB (defBody st__law_refused) 1) (lamC (defBody st__law_refused) 1))) tNil))) (gName 6))
  (tSeq (tDrop (tBM K "list" rAppend (tVar 6) (tCons (tCaught K (ac__law_refused K cells acts T pt 37) W (tLamV (("_law_refused" ++ ".<locals>." : Str)) cells T (lamB (defBody st__law_refused) 2) (lamC (defBody st__law_refused) 2))) tNil)))
  (tSeq (tDrop (tBM K "list" rAppend (tVar 6) (tCons (tCaught K (ac__law_refused K cells acts T pt 37) W (tLamV (("_law_refused" ++ ".<locals>." : Str)) cells T (lamB (defBody st__law_refused) 3) (lamC (defBody st__law_refused) 3))) tNil)))
  (tSeq (tDrop (tBM K "list" rAppend (tVar 6) (tCons (tCaught K (ac__law_refused K cells acts T pt 37) W (tLamV (("_law_refused" ++ ".<locals>." : Str)) cells T (lamB (defBody st__law_refused) 4) (lamC (defBody st__law_refused) 4))) tNil)))
  (tSeq (tIfS (tTest (tOp (G.rCmp K .NotEq) (tLc (iSeq K (tVar 6)) (gName 7) (tNot (tTru K (tCB (G.rIsX K) (tCons (tVar 7) (tCons (tC (.ref (He.ga K "BadNumber"))) tNil))))) (tC (.int 1)) [7]) (tLst tNil)))
  (tRet (tC (.bl false)))
  tNext)
  (tSeq (tIfS (tNot (tTru K (tCB (G.rIsX K) (tCons (tCaught K (ac__law_refused K cells acts T pt 35) W (tLamV (("_law_refused" ++ ".<locals>." : Str)) cells T (lamB (defBody st__law_refused) 5) (lamC (defBody st__law_refused) 5))) (tCons (tC (.ref (He.ga K "BadGrade"))) tNil)))))
  (tRet (tC (.bl false)))
  tNext)
  (tRet (tCB (G.rIsX K) (tCons (tCaught K (ac__law_refused K cells acts T pt 37) W (tLamV (("_law_refused" ++ ".<locals>." : Str)) cells T (lamB (defBody st__law_refused) 6) (lamC (defBody st__law_refused) 6))) (tCons (tC (.ref (He.ga K "BadMany"))) tNil)))))))))))))
theorem eq__law_refused (K : PySem.W.Frag) (cells : List (Str × Addr)) (acts : Acts) (T : List (Addr × Str)) (p : Addr) (W : WX) : wSL (wS K 40 (gm__law_refused K cells acts T (some p)) (defScope st__law_refused) W) (defBody st__law_refused) = t__law_refused K cells acts T (some p) W := by kernel_rfl
def lm__law_refused_0 (K : PySem.W.Frag) (W : WX) : TE := (tFn (S_folded K) noActs W (tCons (tVar 3) tNil) tNil 1 0)
theorem lq__law_refused_0_37 (K : PySem.W.Frag) (cells : List (Str × Addr)) (acts : Acts) (T : List (Addr × Str)) (p : Addr) (W : WX) : wE K 37 (gm__law_refused K cells acts T (some p)).low (lamC (defBody st__law_refused) 0) W (lamB (defBody st__law_refused) 0) = lm__law_refused_0 K W := by kernel_rfl
def lm__law_refused_1 (K : PySem.W.Frag) (W : WX) : TE := (tFn (S_long_bits K) noActs W (tCons (tVar 3) tNil) tNil 1 0)
theorem lq__law_refused_1_37 (K : PySem.W.Frag) (cells : List (Str × Addr)) (acts : Acts) (T : List (Addr × Str)) (p : Addr) (W : WX) : wE K 37 (gm__law_refused K cells acts T (some p)).low (lamC (defBody st__law_refused) 1) W (lamB (defBody st__law_refused) 1) = lm__law_refused_1 K W := by kernel_rfl
def lm__law_refused_2 (K : PySem.W.Frag) (W : WX) : TE := (tFn (S_grade_bits K) noActs W (tCons (tVar 3) (tCons (tVar 4) tNil)) tNil 2 0)
theorem lq__law_refused_2_37 (K : PySem.W.Frag) (cells : List (Str × Addr)) (acts : Acts) (T : List (Addr × Str)) (p : Addr) (W : WX) : wE K 37 (gm__law_refused K cells acts T (some p)).low (lamC (defBody st__law_refused) 2) W (lamB (defBody st__law_refused) 2) = lm__law_refused_2 K W := by kernel_rfl
def lm__law_refused_3 (K : PySem.W.Frag) (W : WX) : TE := (tFn (S_unfolded K) noActs W (tCons (tFn (S__law_pick K) noActs W (tCons (tVar 0) (tCons (tLst (tCons (tUn (rU fun i => .int (-i)) (tC (.int 1))) (tCons (tC (.int 65535)) (tCons (tC (.bl true)) (tCons (tC .non) (tCons (tC (.str "0")) tNil)))))) tNil)) tNil 2 0) tNil) tNil 1 0)
theorem lq__law_refused_3_37 (K : PySem.W.Frag) (cells : List (Str × Addr)) (acts : Acts) (T : List (Addr × Str)) (p : Addr) (W : WX) : wE K 37 (gm__law_refused K cells acts T (some p)).low (lamC (defBody st__law_refused) 3) W (lamB (defBody st__law_refused) 3) = lm__law_refused_3 K W := by kernel_rfl
def lm__law_refused_4 (K : PySem.W.Frag) (W : WX) : TE := (tFn (S_fixed_bits K) noActs W (tCons (tFn (S__law_pick K) noActs W (tCons (tVar 0) (tCons (tLst (tCons (tC (.int 16)) (tCons (tUn (rU fun i => .int (-i)) (tC (.int 1))) (tCons (tC (.bl true)) (tCons (tC .non) (tCons (tC (.str "1")) tNil)))))) tNil)) tNil 2 0) (tCons (tC (.int 4)) tNil)) tNil 2 0)
theorem lq__law_refused_4_37 (K : PySem.W.Frag) (cells : List (Str × Addr)) (acts : Acts) (T : List (Addr × Str)) (p : Addr) (W : WX) : wE K 37 (gm__law_refused K cells acts T (some p)).low (lamC (defBody st__law_refused) 4) W (lamB (defBody st__law_refused) 4) = lm__law_refused_4 K W := by kernel_rfl
def lm__law_refused_5 (K : PySem.W.Frag) (W : WX) : TE := (tFn (S_grade_bits K) noActs W (tCons (tVar 1) (tCons (tVar 4) tNil)) tNil 2 0)
theorem lq__law_refused_5_35 (K : PySem.W.Frag) (cells : List (Str × Addr)) (acts : Acts) (T : List (Addr × Str)) (p : Addr) (W : WX) : wE K 35 (gm__law_refused K cells acts T (some p)).low (lamC (defBody st__law_refused) 5) W (lamB (defBody st__law_refused) 5) = lm__law_refused_5 K W := by kernel_rfl
def lm__law_refused_6 (K : PySem.W.Frag) (W : WX) : TE := (tFn (S_fixed_bits K) noActs W (tCons (tVar 3) (tCons (tVar 5) tNil)) tNil 2 0)
theorem lq__law_refused_6_37 (K : PySem.W.Frag) (cells : List (Str × Addr)) (acts : Acts) (T : List (Addr × Str)) (p : Addr) (W : WX) : wE K 37 (gm__law_refused K cells acts T (some p)).low (lamC (defBody st__law_refused) 6) W (lamB (defBody st__law_refused) 6) = lm__law_refused_6 K W := by kernel_rfl
-- READING law
abbrev fl_law (K : PySem.W.Frag) : List FnE := [⟨"_law_begun", 1, [], 1, S__law_begun K⟩, ⟨"_law_item", 1, [], 3, S__law_item K⟩, ⟨"_law_draw", 2, [], 1, S__law_draw K⟩, ⟨"folded", 1, [], 5, S_folded K⟩, ⟨"folded", 0, ["number"], 5, S_folded_k0_number K⟩, ⟨"unfolded", 1, [], 3, S_unfolded K⟩, ⟨"_law_fold", 1, [], 1, S__law_fold K⟩, ⟨"unfolded", 0, ["number"], 3, S_unfolded_k0_number K⟩, ⟨"long_bits", 1, [], 5, S_long_bits K⟩, ⟨"long_bits", 0, ["number"], 5, S_long_bits_k0_number K⟩, ⟨"grade_bits", 2, [], 5, S_grade_bits K⟩, ⟨"grade_bits", 0, ["grade", "number"], 5, S_grade_bits_k0_grade_number K⟩, ⟨"_law_long", 1, [], 2, S__law_long K⟩, ⟨"_law_graded", 2, [], 2, S__law_graded K⟩, ⟨"_law_pick", 2, [], 2, S__law_pick K⟩, ⟨"_law_two", 1, [], 1, S__law_two K⟩, ⟨"fixed_bits", 2, [], 4, S_fixed_bits K⟩, ⟨"fixed_bits", 0, ["many", "number"], 4, S_fixed_bits_k0_many_number K⟩, ⟨"_law_twos", 2, [], 1, S__law_twos K⟩, ⟨"_law_refused", 3, [], 45, S__law_refused K⟩, ⟨"is_bits", 1, [], 1, S_is_bits K⟩, ⟨"is_bits", 0, ["thing"], 1, S_is_bits_k0_thing K⟩]
abbrev act_law (acts : Acts) : Acts := fun g tl => false = true ∧ acts g tl
abbrev gm_law (K : PySem.W.Frag) (cells : List (Str × Addr)) (acts : Acts) (T : List (Addr × Str)) (pt : Option Addr) : Gam := gam (mdOf K) ["_law_script", "_law_state", "_law_turn", "_law_item_here", "_law_rung", "_law_size_here", "_law_told", "_law_part", "_law_nearer", "_law_signs", "_law_spot", "_law_odd"] (fl_law K) (act_law acts) ("law" ++ ".<locals>." : Str) cells T pt
def t_law (K : PySem.W.Frag) (cells : List (Str × Addr)) (acts : Acts) (T : List (Addr × Str)) (pt : Option Addr) (W : WX) : TS :=
  (tSeq (tAsg (tFn (S__law_begun K) (fun _ _ => act_law acts) W (tCons (tVar 0) tNil) tNil 1 0) (gName 1))
  (tSeq (tFor (iRng1 (tCons (tOp (G.rBin K .Add) (tC (.int 4)) (tCB (G.rMin2 K) (tCons (tCB (G.rLen K) (tCons (tVar 0) tNil)) (tCons (tC (.int 8)) tNil)))) tNil)) (gName 2)
  (tSeq (tPar3 3 4 5 (tCons (tFn (S__law_item K) (fun _ _ => act_law acts) W (tCons (tVar 1) tNil) tNil 1 0) (tCons (tFn (S__law_draw K) (fun _ _ => act_law acts) W (tCons (tVar 1) (tCons (tC (.int 8)) tNil)) tNil 2 0) (tCons (tOp (G.rBin K .Add) (tC (.int 1)) (tFn (S__law_draw K) (fun _ _ => act_law acts) W (tCons (tVar 1) (tCons (tC (.int 16)) tNil)) tNil 2 0)) tNil))))
  (tSeq (tAsg (tLst (tCons (tFn (S_folded K) (fun _ _ => act_law acts) W (tCons (tVar 3) tNil) tNil 1 0) (tCons (tFn (S_folded_k0_number K) (fun _ _ => act_law acts) W tNil (tCons (tVar 3) tNil) 0 1) (tCons (tFn (S_unfolded K) (fun _ _ => act_law acts) W (tCons (tFn (S__law_fold K) (fun _ _ => act_law acts) W (tCons (tVar 3) tNil) tNil 1 0) tNil) tNil 1 0) (tCons (tFn (S_unfolded_k0_number K) (fun _ _ => act_law acts) W tNil (tCons (tFn (S__law_fold K) (fun _ _ => act_law acts) W (tCons (tVar 3) tNil) tNil 1 0) tNil) 0 1) tNil))))) (gName 6))
  (tSeq (tIfS (tTest (tOp (G.rCmp K .NotEq) (tCB (G.rRepr K) (tCons (tVar 6) tNil)) (tCB (G.rRepr K) (tCons (tLst (tCons (tFn (S__law_fold K) (fun _ _ => act_law acts) W (tCons (tVar 3) tNil) tNil 1 0) (tCons (tFn (S__law_fold K) (fun _ _ => act_law acts) W (tCons (tVar 3) tNil) tNil 1 0) (tCons (tVar 3) (tCons (tVar 3) tNil))))) tNil))))
  (tRet (tC (.bl false)))
  tNext)
  (tSeq (tAsg (tLst (tCons (tFn (S_long_bits K) (fun _ _ => act_law acts) W (tCons (tVar 3) tNil) tNil 1 0) (tCons (tFn (S_long_bits_k0_number K) (fun _ _ => act_law acts) W tNil (tCons (tVar 3) tNil) 0 1) (tCons (tFn (S_grade_bits K) (fun _ _ => act_law acts) W (tCons (tVar 3) (tCons (tVar 4) tNil)) tNil 2 0) (tCons (tFn (S_grade_bits_k0_grade_number K) (fun _ _ => act_law acts) W tNil (tCons (tVar 4) (tCons (tVar 3) tNil)) 0 2) tNil))))) (gName 6))
  (tSeq (tIfS (tTest (tOp (G.rCmp K .NotEq) (tCB (G.rRepr K) (tCons (tVar 6) tNil)) (tCB (G.rRepr K) (tCons (tOp (G.rBin K .Add) (tOp (G.rBin K .Mult) (tLst (tCons (tFn (S__law_long K) (fun _ _ => act_law acts) W (tCons (tVar 3) tNil) tNil 1 0) tNil)) (tC (.int 2))) (tOp (G.rBin K .Mult) (tLst (tCons (tFn (S__law_graded K) (fun _ _ => act_law acts) W (tCons (tVar 3) (tCons (tVar 4) tNil)) tNil 2 0) tNil)) (tC (.int 2)))) tNil))))
  (tRet (tC (.bl false)))
  tNext)
  (tSeq (tAsg (tFn (S__law_pick K) (fun _ _ => act_law acts) W (tCons (tVar 1) (tCons (tLst (tCons (tC (.int 0)) (tCons (tOp (G.rBin K .Sub) (tFn (S__law_two K) (fun _ _ => act_law acts) W (tCons (tVar 5) tNil) tNil 1 0) (tC (.int 1))) (tCons (tFn (S__law_draw K) (fun _ _ => act_law acts) W (tCons (tVar 1) (tCons (tFn (S__law_two K) (fun _ _ => act_law acts) W (tCons (tVar 5) tNil) tNil 1 0) tNil)) tNil 2 0) tNil)))) tNil)) tNil 2 0) (gName 7))
  (tSeq (tAsg (tLst (tCons (tFn (S_fixed_bits K) (fun _ _ => act_law acts) W (tCons (tVar 7) (tCons (tVar 5) tNil)) tNil 2 0) (tCons (tFn (S_fixed_bits_k0_many_number K) (fun _ _ => act_law acts) W tNil (tCons (tVar 5) (tCons (tVar 7) tNil)) 0 2) tNil))) (gName 6))
  (tSeq (tIfS (tTest (tOp (G.rCmp K .NotEq) (tCB (G.rRepr K) (tCons (tVar 6) tNil)) (tCB (G.rRepr K) (tCons (tOp (G.rBin K .Mult) (tLst (tCons (tFn (S__law_twos K) (fun _ _ => act_law acts) W (tCons (tVar 7) (tCons (tVar 5) tNil)) tNil 2 0) tNil)) (tC (.int 2))) tNil))))
  (tRet (tC (.bl false)))
  tNext)
  (tSeq (tAsg (tIf (tTest (tOp (G.rCmp K .Gt) (tVar 3) (tC (.int 0)))) (tOp (G.rBin K .Sub) (tVar 3) (tC (.int 1))) (tCB (G.rMin2 K) (tCons (tOp (G.rBin K .Add) (tVar 3) (tC (.int 1))) (tCons (tC (.int 0)) tNil)))) (gName 8))
  (tSeq (tIfS (tOr (tTest (tOp (G.rCmp K .Gt) (tCB (G.rLen K) (tCons (tFn (S_long_bits K) (fun _ _ => act_law acts) W (tCons (tVar 8) tNil) tNil 1 0) tNil)) (tCB (G.rLen K) (tCons (tFn (S_long_bits K) (fun _ _ => act_law acts) W (tCons (tVar 3) tNil) tNil 1 0) tNil)))) (tTest (tOp (G.rCmp K .Gt) (tCB (G.rLen K) (tCons (tFn (S_grade_bits K) (fun _ _ => act_law acts) W (tCons (tVar 8) (tCons (tVar 4) tNil)) tNil 2 0) tNil)) (tCB (G.rLen K) (tCons (tFn (S_grade_bits K) (fun _ _ => act_law acts) W (tCons (tVar 3) (tCons (tVar 4) tNil)) tNil 2 0) tNil)))))
  (tRet (tC (.bl false)))
  tNext)
  (tSeq (tIfS (tOr (tTest (tOp (G.rCmp K .Gt) (tCB (G.rLen K) (tCons (tFn (S_grade_bits K) (fun _ _ => act_law acts) W (tCons (tVar 3) (tCons (tVar 4) tNil)) tNil 2 0) tNil)) (tC (.int 28)))) (tNot (tTru K (tFn (S__law_refused K) (fun _ _ => act_law acts) W (tCons (tVar 1) (tCons (tVar 3) (tCons (tVar 4) tNil))) tNil 3 0))))
  (tRet (tC (.bl false)))
  tNext)
  (tSeq (tAsg (tBM K "str" (G.rJoin K) (tC (.str "")) (tCons (tLc (iRng1 (tCons (tFn (S__law_draw K) (fun _ _ => act_law acts) W (tCons (tVar 1) (tCons (tC (.int 9)) tNil)) tNil 2 0) tNil)) (gName 10) tYes (tFn (S__law_pick K) noActs noW (tCons (tVar 1) (tCons (tLst (tCons (tC (.str "0")) (tCons (tC (.str "1")) tNil))) tNil)) tNil 2 0) [10]) tNil)) (gName 9))
  (tSeq (tAsg (tFn (S__law_pick K) (fun _ _ => act_law acts) W (tCons (tVar 1) (tCons (tLst (tCons (tOp (G.rBin K .Add) (tVar 9) (tC (.str "2"))) (tCons (tC (.str "0 1")) (tCons (tC (.str "a")) (tCons (tC .non) (tCons (tC (.int 5)) (tCons (tC (.bl true)) (tCons (tLst (tCons (tVar 9) tNil)) (tCons (tTup (tCons (tC (.str "0")) tNil)) (tCons tDNewK (tCons (tC (.str "01\n")) (tCons (tC (.str "0b1")) tNil)))))))))))) tNil)) tNil 2 0) (gName 11))
  (tIfS (tOr (tTest (tOp (G.rCmp K .IsNot) (tFn (S_is_bits K) (fun _ _ => act_law acts) W (tCons (tVar 9) tNil) tNil 1 0) (tC (.bl true)))) (tOr (tTest (tOp (G.rCmp K .IsNot) (tFn (S_is_bits_k0_thing K) (fun _ _ => act_law acts) W tNil (tCons (tVar 9) tNil) 0 1) (tC (.bl true)))) (tTest (tOp (G.rCmp K .IsNot) (tFn (S_is_bits K) (fun _ _ => act_law acts) W (tCons (tVar 11) tNil) tNil 1 0) (tC (.bl false))))))
  (tRet (tC (.bl false)))
  tNext)))))))))))))))
  (tRet (tC (.bl true)))))
theorem eq_law (K : PySem.W.Frag) (cells : List (Str × Addr)) (acts : Acts) (T : List (Addr × Str)) (W : WX) : wSL (wS K 40 (gm_law K cells acts T none) (defScope st_law) W) (defBody st_law) = t_law K cells acts T none W := by kernel_rfl

/-! ### each promise holds -/
section
variable {K : PySem.W.Frag} {cells : List (Str × Addr)} {acts : Acts} {T : List (Addr × Str)} {pt : Option Addr} {vs : List V} {H : Hp} {Q : VK} {E : XK}
theorem pow_le {j k : Nat} (h : j ≤ k) : (2 : Int) ^ j ≤ 2 ^ k := by
  have z := Nat.pow_le_pow_right (show 0 < 2 by decide) h
  have e : ∀ n : Nat, ((2 ^ n : Nat) : Int) = (2 : Int) ^ n := fun n => by rw [Int.natCast_pow]; rfl
  rw [← e, ← e]
  exact Int.ofNat_le.mpr z
theorem small {n : Nat} (h : Nat.ble n 100 = true) : n ≤ sizeLine := by
  have z := Nat.le_of_ble_eq_true h
  rw [sizeLine_eq]
  omega
theorem ok__law_two (h : sp_two vs H Q E) : vs.length = 1 ∧ t__law_two K cells acts T pt (Ww E) (Dd Q) (L2.start ["_law_size_here", "_law_found", "_law_turn"] vs) H := by
  obtain ⟨k, rfl, h0, h1, q⟩ := h
  refine ⟨rfl, ?_⟩
  rw [show L2.start ["_law_size_here", "_law_found", "_law_turn"] [V.int k] = [some (.int k), none, none] from rfl]
  unfold t__law_two
  simp only [tSeq, tWhile, tAnd, tOr, tNot, tTest, tTru, tOp, tUn, tVar, tC, tLst, tTup, tNil, tAsg, tBM, tBM0, tCons, gSub, tIfS, tCB, gName, tRet, tRetN, tNext, tIf, tFn, tDrop, tRaise0, tAndT, tOrT, tNotT, tChain, tAug, tPar, tPar3, for_go, lc_go, iRng1, iRng2, iSeq, List.getElem?_cons_zero, List.getElem?_cons_succ, List.set_cons_zero, List.set_cons_succ, Option.some.injEq, exists_eq_left']
  refine ⟨k, rfl, by omega, by omega, ?_⟩
  refine go_rng (fun m σ H' => H' = H ∧ ∃ tn : Option V, σ = [some (.int k), some (.int (2 ^ m)), tn]) ⟨rfl, none, rfl⟩ ?_ ?_
  · rintro m σ H' hm ⟨rfl, tn, rfl⟩
    simp only [tSeq, tWhile, tAnd, tOr, tNot, tTest, tTru, tOp, tUn, tVar, tC, tLst, tTup, tNil, tAsg, tBM, tBM0, tCons, gSub, tIfS, tCB, gName, tRet, tRetN, tNext, tIf, tFn, tDrop, tRaise0, tAndT, tOrT, tNotT, tChain, tAug, tPar, tPar3, for_go, lc_go, iRng1, iRng2, iSeq, List.getElem?_cons_zero, List.getElem?_cons_succ, List.set_cons_zero, List.set_cons_succ, Option.some.injEq, exists_eq_left']
    refine ⟨.inl (.inr ⟨by decide, by decide⟩), rfl, _, by rw [Int.pow_succ]⟩
  · rintro σ H' ⟨rfl, tn, rfl⟩
    simp only [tSeq, tWhile, tAnd, tOr, tNot, tTest, tTru, tOp, tUn, tVar, tC, tLst, tTup, tNil, tAsg, tBM, tBM0, tCons, gSub, tIfS, tCB, gName, tRet, tRetN, tNext, tIf, tFn, tDrop, tRaise0, tAndT, tOrT, tNotT, tChain, tAug, tPar, tPar3, for_go, lc_go, iRng1, iRng2, iSeq, List.getElem?_cons_zero, List.getElem?_cons_succ, List.set_cons_zero, List.set_cons_succ, Option.some.injEq, exists_eq_left']
    exact q
theorem ok__law_fold (h : sp_fold vs H Q E) : vs.length = 1 ∧ t__law_fold K cells acts T pt (Ww E) (Dd Q) (L2.start ["_law_item_here"] vs) H := by
  obtain ⟨i, rfl, h1, h2, q⟩ := h
  refine ⟨rfl, ?_⟩
  rw [show L2.start ["_law_item_here"] [V.int i] = [some (.int i)] from rfl]
  unfold t__law_fold
  simp only [tSeq, tWhile, tAnd, tOr, tNot, tTest, tTru, tOp, tUn, tVar, tC, tLst, tTup, tNil, tAsg, tBM, tBM0, tCons, gSub, tIfS, tCB, gName, tRet, tRetN, tNext, tIf, tFn, tDrop, tRaise0, tAndT, tOrT, tNotT, tChain, tAug, tPar, tPar3, for_go, lc_go, iRng1, iRng2, iSeq, List.getElem?_cons_zero, List.getElem?_cons_succ, List.set_cons_zero, List.set_cons_succ, Option.some.injEq, exists_eq_left']
  refine gt_int ⟨_, rfl, ?_⟩
  unfold foldZ at q
  by_cases c : 0 < i
  · rw [if_pos (decide_eq_true c)]
    rw [if_pos c] at q
    exact mul_int (K := K) (by decide) (by decide) (sub_int (K := K) q)
  · rw [if_neg (by simpa using c)]
    rw [if_neg c] at q
    refine mul_int (K := K) (by decide) (by decide) (sub_int (K := K) ?_)
    have e : (0 : Int) - 2 * i = -2 * i := by omega
    rw [e]
    exact q
theorem ok__law_twos (h : sp_in_twos vs H Q E) : vs.length = 2 ∧ t__law_twos K cells acts T pt (Ww E) (Dd Q) (L2.start ["_law_item_here", "_law_size_here", "_law_found", "_law_turn"] vs) H := by
  obtain ⟨i, k, rfl, h0, h1, q⟩ := h
  refine ⟨rfl, ?_⟩
  rw [show L2.start ["_law_item_here", "_law_size_here", "_law_found", "_law_turn"] [V.int i, V.int k] = [some (.int i), some (.int k), none, none] from rfl]
  unfold t__law_twos
  simp only [tSeq, tWhile, tAnd, tOr, tNot, tTest, tTru, tOp, tUn, tVar, tC, tLst, tTup, tNil, tAsg, tBM, tBM0, tCons, gSub, tIfS, tCB, gName, tRet, tRetN, tNext, tIf, tFn, tDrop, tRaise0, tAndT, tOrT, tNotT, tChain, tAug, tPar, tPar3, for_go, lc_go, iRng1, iRng2, iSeq, List.getElem?_cons_zero, List.getElem?_cons_succ, List.set_cons_zero, List.set_cons_succ, Option.some.injEq, exists_eq_left']
  refine ⟨k, rfl, by omega, by omega, ?_⟩
  refine go_rng (fun m σ H' => H' = H ∧ ∃ (a : Int) (acc : Str) (tn : Option V), σ = [some (.int a), some (.int k), some (.str acc), tn] ∧ acc.length = m ∧ tw (k.toNat - m) a acc = tw k.toNat i "") ⟨rfl, i, "", none, rfl, len_e, rfl⟩ ?_ ?_
  · rintro m σ H' hm ⟨rfl, a, acc, tn, rfl, hl, ht⟩
    simp only [tSeq, tWhile, tAnd, tOr, tNot, tTest, tTru, tOp, tUn, tVar, tC, tLst, tTup, tNil, tAsg, tBM, tBM0, tCons, gSub, tIfS, tCB, gName, tRet, tRetN, tNext, tIf, tFn, tDrop, tRaise0, tAndT, tOrT, tNotT, tChain, tAug, tPar, tPar3, for_go, lc_go, iRng1, iRng2, iSeq, List.getElem?_cons_zero, List.getElem?_cons_succ, List.set_cons_zero, List.set_cons_succ, Option.some.injEq, exists_eq_left']
    refine int_1 (mod_int (by decide) (str_dig (add_str (by rw [dig_len]; omega) (div_int (by decide) (by decide) ⟨rfl, a / 2, dig a ++ acc, _, rfl, by rw [strLen_append, dig_len]; omega, ?_⟩))))
    rw [← ht]
    have e : k.toNat - m = (k.toNat - (m + 1)) + 1 := by omega
    rw [e]
    rfl
  · rintro σ H' ⟨rfl, a, acc, tn, rfl, hl, ht⟩
    simp only [tSeq, tWhile, tAnd, tOr, tNot, tTest, tTru, tOp, tUn, tVar, tC, tLst, tTup, tNil, tAsg, tBM, tBM0, tCons, gSub, tIfS, tCB, gName, tRet, tRetN, tNext, tIf, tFn, tDrop, tRaise0, tAndT, tOrT, tNotT, tChain, tAug, tPar, tPar3, for_go, lc_go, iRng1, iRng2, iSeq, List.getElem?_cons_zero, List.getElem?_cons_succ, List.set_cons_zero, List.set_cons_succ, Option.some.injEq, exists_eq_left']
    rw [Nat.sub_self] at ht
    rw [← ht] at q
    exact q
theorem ok__law_long (h : sp_long_word vs H Q E) : vs.length = 1 ∧ t__law_long K cells acts T pt (Ww E) (Dd Q) (L2.start ["_law_item_here", "_law_told", "_law_tail"] vs) H := by
  obtain ⟨i, rfl, h1, h2, q⟩ := h
  refine ⟨rfl, ?_⟩
  rw [show L2.start ["_law_item_here", "_law_told", "_law_tail"] [V.int i] = [some (.int i), none, none] from rfl]
  unfold t__law_long
  simp only [tSeq, tWhile, tAnd, tOr, tNot, tTest, tTru, tOp, tUn, tVar, tC, tLst, tTup, tNil, tAsg, tBM, tBM0, tCons, gSub, tIfS, tCB, gName, tRet, tRetN, tNext, tIf, tFn, tDrop, tRaise0, tAndT, tOrT, tNotT, tChain, tAug, tPar, tPar3, for_go, lc_go, iRng1, iRng2, iSeq, List.getElem?_cons_zero, List.getElem?_cons_succ, List.set_cons_zero, List.set_cons_succ, Option.some.injEq, exists_eq_left']
  obtain ⟨b1, b2⟩ := foldZ_bounds h1 h2
  refine ⟨rfl, rfl, i, rfl, by omega, by omega, add_int ⟨_, _, rfl, ?_⟩⟩
  have tp : 0 < foldZ i + 1 := by omega
  have L : many i ≤ 16 := log_small tp (by omega)
  refine ⟨fun m σ H' => H' = H ∧ ∃ j : Nat, σ = [some (.int i), some (.int ((foldZ i + 1) / 2 ^ j)), some (.str (tw j (foldZ i + 1) ""))] ∧ j + m = many i, ⟨many i, rfl, 0, by rw [Int.pow_zero, Int.ediv_one]; rfl, by omega⟩, ?_⟩
  rintro m σ H' ⟨rfl, j, rfl, hj⟩
  simp only [tSeq, tWhile, tAnd, tOr, tNot, tTest, tTru, tOp, tUn, tVar, tC, tLst, tTup, tNil, tAsg, tBM, tBM0, tCons, gSub, tIfS, tCB, gName, tRet, tRetN, tNext, tIf, tFn, tDrop, tRaise0, tAndT, tOrT, tNotT, tChain, tAug, tPar, tPar3, for_go, lc_go, iRng1, iRng2, iSeq, List.getElem?_cons_zero, List.getElem?_cons_succ, List.set_cons_zero, List.set_cons_succ, Option.some.injEq, exists_eq_left']
  refine gt_int ⟨_, rfl, ?_⟩
  have p0 : (0 : Int) < 2 ^ j := Int.pow_pos (by decide)
  by_cases c : 1 < (foldZ i + 1) / 2 ^ j
  · rw [if_pos (decide_eq_true c)]
    have c2 : (2 : Int) ^ (j + 1) ≤ foldZ i + 1 := by
      have z : 2 * 2 ^ j ≤ foldZ i + 1 := (Int.le_ediv_iff_mul_le p0).mp c
      rw [Int.pow_succ, Int.mul_comm]
      exact z
    have c3 := (log_le tp).mpr c2
    refine ⟨fun σ H' => H' = _ ∧ σ = [some (.int i), some (.int ((foldZ i + 1) / 2 ^ (j + 1))), some (.str (tw (j + 1) (foldZ i + 1) ""))], fun σ' H2 ⟨e1, e2⟩ => ⟨m - 1, by unfold many at hj; omega, e1, j + 1, e2, by unfold many at hj ⊢; omega⟩, ?_⟩
    refine int_1 (mod_int (by decide) (str_dig (add_str (by rw [dig_len, tw_len, len_e]; omega) (div_int (by decide) (by decide) ⟨rfl, ?_⟩))))
    rw [tw_step _ _ _ (by omega), Int.ediv_ediv_of_nonneg (Int.le_of_lt p0), Int.pow_succ]
  · rw [if_neg (by simpa using c)]
    have ej : j = many i := by
      have z : ¬ (j + 1 ≤ many i) := fun z => c (by
        have z2 := (log_le tp).mp z
        rw [Int.pow_succ, Int.mul_comm] at z2
        exact (Int.le_ediv_iff_mul_le p0).mpr z2)
      omega
    subst ej
    have l1 : (tw (many i) (foldZ i + 1) "").length = many i := by rw [tw_len, len_e, Nat.add_zero]
    have sl : sizeLine = 16777216 := sizeLine_eq
    refine .inl ⟨_, many i, rfl, ⟨by omega, l1.symm⟩, mul_ones (by omega) (add_str (by rw [ones_len, len_0]; omega) (add_str ?_ q))⟩
    rw [strLen_append, ones_len, len_0, l1]
    omega
theorem ok__law_graded (h : sp_graded vs H Q E) : vs.length = 2 ∧ t__law_graded K cells acts T pt (Ww E) (Dd Q) (L2.start ["_law_item_here", "_law_rung", "_law_told", "_law_ones"] vs) H := by
  obtain ⟨i, g, rfl, h1, h2, g0, g1, q⟩ := h
  refine ⟨rfl, ?_⟩
  rw [show L2.start ["_law_item_here", "_law_rung", "_law_told", "_law_ones"] [V.int i, V.int g] = [some (.int i), some (.int g), none, none] from rfl]
  unfold t__law_graded
  simp only [tSeq, tWhile, tAnd, tOr, tNot, tTest, tTru, tOp, tUn, tVar, tC, tLst, tTup, tNil, tAsg, tBM, tBM0, tCons, gSub, tIfS, tCB, gName, tRet, tRetN, tNext, tIf, tFn, tDrop, tRaise0, tAndT, tOrT, tNotT, tChain, tAug, tPar, tPar3, for_go, lc_go, iRng1, iRng2, iSeq, List.getElem?_cons_zero, List.getElem?_cons_succ, List.set_cons_zero, List.set_cons_succ, Option.some.injEq, exists_eq_left']
  obtain ⟨b1, b2⟩ := foldZ_bounds h1 h2
  have p0 : (0 : Int) < 2 ^ g.toNat := Int.pow_pos (by decide)
  have p1 : (2 : Int) ^ g.toNat < 1073741824 := by
    have z : (2 : Int) ^ g.toNat ≤ 2 ^ 7 := pow_le (by omega)
    exact Int.lt_of_le_of_lt z (by decide)
  have o0 : 0 ≤ foldZ i / 2 ^ g.toNat := Int.ediv_nonneg b1 (Int.le_of_lt p0)
  refine ⟨rfl, rfl, i, rfl, by omega, by omega, ⟨rfl, rfl, g, rfl, g0, by omega, div_int p0 p1 (lt_int ⟨_, rfl, ?_⟩)⟩⟩
  unfold gradeW at q
  by_cases c : foldZ i / 2 ^ g.toNat < 12
  · rw [if_pos (decide_eq_true c)]
    rw [if_pos c] at q
    obtain ⟨n, hn⟩ : ∃ n : Nat, foldZ i / 2 ^ g.toNat = n := ⟨_, (Int.toNat_of_nonneg o0).symm⟩
    rw [hn] at q c ⊢
    refine mul_ones (by omega) (add_str (by rw [ones_len, len_0]; omega) ?_)
    refine int_1 ⟨rfl, rfl, g, rfl, g0, by omega, mod_int p0 ⟨rfl, rfl, _, _, rfl, by omega, by omega, ?_⟩⟩
    rw [Int.toNat_natCast] at q
    refine add_str ?_ q
    rw [strLen_append, ones_len, len_0, tw_len, len_e]
    omega
  · rw [if_neg (by simpa using c)]
    rw [if_neg c] at q
    refine mul_ones (n := 12) (by omega) ⟨rfl, rfl, _, 16, rfl, by omega, by omega, ?_⟩
    refine add_str ?_ q
    rw [ones_len, tw_len, len_e]
    show 12 + (16 + 0) ≤ _
    decide
theorem ok__law_item (h : sp_item vs H Q E) : vs.length = 1 ∧ t__law_item K cells acts T pt (Ww E) (Dd Q) (L2.start ["_law_state", "_law_power", "_law_some"] vs) H := by
  obtain ⟨st, La, Ca, t, rfl, tl, d, q⟩ := h
  refine ⟨rfl, ?_⟩
  rw [show L2.start ["_law_state", "_law_power", "_law_some"] [V.ref st] = [some (.ref st), none, none] from rfl]
  unfold t__law_item
  simp only [tSeq, tWhile, tAnd, tOr, tNot, tTest, tTru, tOp, tUn, tVar, tC, tLst, tTup, tNil, tAsg, tBM, tBM0, tCons, gSub, tIfS, tCB, gName, tRet, tRetN, tNext, tIf, tFn, tDrop, tRaise0, tAndT, tOrT, tNotT, tChain, tAug, tPar, tPar3, for_go, lc_go, iRng1, iRng2, iSeq, List.getElem?_cons_zero, List.getElem?_cons_succ, List.set_cons_zero, List.set_cons_succ, Option.some.injEq, exists_eq_left']
  have sl : sizeLine = 16777216 := sizeLine_eq
  refine ⟨rfl, rfl, st, La, Ca, 15, t, rfl, by decide, by decide, by omega, d, fun r1 H1 a0 a1 d1 f1 => ?_⟩
  refine ⟨rfl, rfl, r1, rfl, a0, by omega, ?_⟩
  have pw0 : (0 : Int) < 2 ^ r1.toNat := Int.pow_pos (by decide)
  have pw : (2 : Int) ^ r1.toNat ≤ 16384 := by
    have z : (2 : Int) ^ r1.toNat ≤ 2 ^ 14 := pow_le (by omega)
    exact z
  revert pw0 pw
  generalize (2 : Int) ^ r1.toNat = w
  intro pw0 pw
  refine ⟨1, rfl, 2, rfl, rfl, rfl, st, La, Ca, 41, t + 1, rfl, by decide, by decide, by omega, d1, fun r2 H2 c0 c1 d2 f2 => sub_int ?_⟩
  refine ⟨rfl, rfl, st, La, Ca, 5001, t + 1 + 1, rfl, by decide, by decide, by omega, d2, fun r3 H3 e0 e1 d3 f3 => sub_int ?_⟩
  refine ⟨32767, rfl, ⟨small rfl, fun p hp => ?_⟩⟩
  refine sub_int (sub_int (sub_int ⟨small rfl, fun p2 hp2 => ?_⟩))
  have n12 : p ≠ p2 := fun e => by rw [e, upd_same] at hp2; cases hp2
  refine .inl ⟨p, p2, _, _, rfl, rfl, by rw [upd_ne n12, upd_same], upd_same, small rfl, fun p3 hp3 => ?_⟩
  refine ⟨rfl, rfl, pick_new ((d3.new hp).new hp2) (by omega) hp3 (Nat.le_of_ble_eq_true rfl) (Nat.le_of_ble_eq_true rfl) fun x H' hx d' f' => ?_⟩
  have key : ∃ i, x = .int i ∧ -32767 ≤ i ∧ i ≤ 32767 := by
    simp only [List.mem_append, List.mem_cons, List.not_mem_nil, or_false] at hx
    rcases hx with (rfl | rfl | rfl | rfl | rfl | rfl | rfl | rfl | rfl | rfl) | (rfl | rfl | rfl | rfl)
    all_goals exact ⟨_, rfl, by omega, by omega⟩
  obtain ⟨i, rfl, k0, k1⟩ := key
  refine q i H' k0 k1 (by
    have e : t + 1 + 1 + 1 + 1 = t + 4 := by omega
    rw [e] at d'
    exact d') ?_
  exact ((f1.trans f2).trans f3).trans ((((Dr.refl st La H3).new hp).new hp2).trans f')
end
end K01

set_option Elab.async false
set_option linter.all false
set_option maxRecDepth 100000
set_option maxHeartbeats 8000000
namespace K01
open PySem PySem.Spec PyProof.Rows L2 LamX G Pk
/-! ### values that are no numbers, the state through a row of lambdas -/
def Od (H : Hp) (x : V) : Prop := x = .non ∨ (∃ b, x = .bl b) ∨ (∃ i, x = .int i) ∨ (∃ s, x = .str s) ∨ ∃ a xs, x = .ref a ∧ H a = some (.tup xs)
theorem Od.kd {H : Hp} {x : V} (h : Od H x) : Kd H x := by
  rcases h with rfl | ⟨b, rfl⟩ | ⟨i, rfl⟩ | ⟨s, rfl⟩ | ⟨a, xs, rfl, e⟩
  · trivial
  · trivial
  · trivial
  · trivial
  · exact .inr (.inl ⟨xs, e⟩)
section
variable {st La Ca : Addr} {K : PySem.W.Frag} {H0 H H1 : Hp} {t : Int} {x : V}
theorem Od.keep (h : Od H x) (d : Drw st La Ca H t) (n : DrN st La H H1) : Od H1 x := by
  rcases h with rfl | ⟨b, rfl⟩ | ⟨i, rfl⟩ | ⟨s, rfl⟩ | ⟨a, xs, rfl, e⟩
  · exact .inl rfl
  · exact .inr (.inl ⟨b, rfl⟩)
  · exact .inr (.inr (.inl ⟨i, rfl⟩))
  · exact .inr (.inr (.inr (.inl ⟨s, rfl⟩)))
  · exact .inr (.inr (.inr (.inr ⟨a, xs, rfl, d.keepT n e⟩)))
structure Rf (K : PySem.W.Frag) (st La Ca : Addr) (H0 H : Hp) (t : Int) : Prop where
  d : Drw st La Ca H t
  T : Tabs (TT K) H
  n : DrN st La H0 H
theorem Rf.new {p : Addr} {o : HO} (r : Rf K st La Ca H0 H t) (h : H p = none) : Rf K st La Ca H0 (upd H p o) t := ⟨r.d.new h, tabs_new r.T h, r.n.new h⟩
theorem Rf.dr {u : Int} (r : Rf K st La Ca H0 H t) (d : Drw st La Ca H1 u) (f : Dr st La H H1) : Rf K st La Ca H0 H1 u := ⟨d, tabs_dr r.T r.d f, r.n.trans f.n⟩
theorem Rf.lam (r : Rf K st La Ca H0 H t) (f : ExtN H H1) (T : Tabs (TT K) H1) : Rf K st La Ca H0 H1 t := ⟨r.d.ext f, T, r.n.trans (ext_n f)⟩
structure NewL (st La Ca : Addr) (H0 : Hp) (l : Addr) : Prop where
  n1 : l ≠ st
  n2 : l ≠ La
  n3 : l ≠ Ca
  n0 : ∀ o, H0 l = some o → (∀ ps, o ≠ .tbl ps) → False
theorem Rf.newL {l : Addr} (r : Rf K st La Ca H0 H t) (h : H l = none) : NewL st La Ca H0 l := by
  obtain ⟨cs, ls, u, v, z, _⟩ := r.d
  have n1 : l ≠ st := fun e => by rw [e, z.st] at h; cases h
  have n2 : l ≠ La := fun e => by rw [e, z.la] at h; cases h
  have n3 : l ≠ Ca := fun e => by rw [e, z.ca] at h; cases h
  refine ⟨n1, n2, n3, fun o e k => ?_⟩
  rw [r.n _ _ e n1 n2 k] at h
  cases h
theorem Rf.put {l : Addr} {xs ys : List V} (r : Rf K st La Ca H0 H t) (N : NewL st La Ca H0 l) (h : H l = some (.lst xs)) : Rf K st La Ca H0 (upd H l (.lst ys)) t := by
  obtain ⟨cs, ls, u, v, z, hu⟩ := r.d
  refine ⟨⟨cs, ls, u, v, { z with st := by rw [upd_ne (Ne.symm N.n1)]; exact z.st, la := by rw [upd_ne (Ne.symm N.n2)]; exact z.la, ca := by rw [upd_ne (Ne.symm N.n3)]; exact z.ca }, hu⟩, fun q hq => ?_, fun b o e m1 m2 k => ?_⟩
  · obtain ⟨ps, h1, h2, h3⟩ := r.T q hq
    refine ⟨ps, by rw [upd_ne (fun e => by rw [e, h] at h1; cases h1)]; exact h1, h2, fun pos cv hc => ?_⟩
    obtain ⟨c, e1, e2⟩ := h3 pos cv hc
    exact ⟨c, e1, by rw [upd_ne (fun e => by rw [e, h] at e2; cases e2)]; exact e2⟩
  · rw [upd_ne (fun e2 => N.n0 o (by rw [← e2]; exact e) k)]
    exact r.n b o e m1 m2 k
structure Al (K : PySem.W.Frag) (H : Hp) (l : Addr) (es : List Addr) (x y z : V) : Prop where
  lst : H l = some (.lst (es.map V.ref))
  es : ∀ a ∈ es, H a = some (ExT (bad K "BadNumber") none a)
  ox : Od H x
  oy : Od H y
  oz : Od H z
theorem Al.keep {l : Addr} {es : List Addr} {x y z : V} (A : Al K H l es x y z) (r : Rf K st La Ca H0 H t) (N : NewL st La Ca H0 l) (n : DrN st La H H1) : Al K H1 l es x y z :=
  ⟨r.d.keepL n N.n2 A.lst, fun a ha => r.d.keepX n (A.es a ha), A.ox.keep r.d n, A.oy.keep r.d n, A.oz.keep r.d n⟩
theorem Od.put {l : Addr} {xs ys : List V} (h : Od H x) (e : H l = some (.lst xs)) : Od (upd H l (.lst ys)) x := by
  rcases h with rfl | ⟨b, rfl⟩ | ⟨i, rfl⟩ | ⟨s, rfl⟩ | ⟨a, zs, rfl, h⟩
  · exact .inl rfl
  · exact .inr (.inl ⟨b, rfl⟩)
  · exact .inr (.inr (.inl ⟨i, rfl⟩))
  · exact .inr (.inr (.inr (.inl ⟨s, rfl⟩)))
  · exact .inr (.inr (.inr (.inr ⟨a, zs, rfl, by rw [upd_ne (fun z => by rw [z, e] at h; cases h)]; exact h⟩)))
theorem Al.add {l a : Addr} {es : List Addr} {x y z : V} (A : Al K H l es x y z) (h : H a = some (ExT (bad K "BadNumber") none a)) : Al K (upd H l (.lst (es.map V.ref ++ [V.ref a]))) l (es ++ [a]) x y z := by
  refine ⟨by rw [upd_same, List.map_append]; rfl, fun b hb => ?_, A.ox.put A.lst, A.oy.put A.lst, A.oz.put A.lst⟩
  have z : H b = some (ExT (bad K "BadNumber") none b) := (List.mem_append.mp hb).elim (A.es b) fun e => by rw [List.mem_singleton.mp e]; exact h
  rw [upd_ne (fun e => by rw [e, A.lst] at z; cases z)]
  exact z
theorem err_go {C : Str} {H2 : Hp} {Q1 : VK} {E : XK} (c : Ck K C) (r : Rf K st La Ca H0 H2 t) (n : DrN st La H H2) (go : ∀ a H3, Rf K st La Ca H0 H3 t → DrN st La H H3 → H3 a = some (ExT (bad K C) none a) → Q1 (.ref a) H3) : ErrK K Q1 E (bad K C) none H2 :=
  ⟨true, c.exm, fun _ a ha => go a _ (r.new ha) (n.new ha) upd_same, fun z => nomatch z⟩
theorem isx_err {C D : Str} {a : Addr} {Q1 : VK} {b : Bool} (c : Ck K C) (h : H a = some (ExT (bad K C) none a)) (k : PySem.W.kitOne K (bad K C) (bad K D) = some b) (q : Q1 (.bl b) H) : G.rIsX K [.ref a, .ref (He.ga K D)] H Q1 :=
  .inr (.inr ⟨a, _, _, _, b, rfl, h, c.ex, .own _, k, q⟩)
end
section
variable {K : PySem.W.Frag} {cells : List (Str × Addr)} {acts : Acts} {T : List (Addr × Str)} {pt : Option Addr} {vs : List V} {H : Hp} {Q : VK} {E : XK}
theorem ok__law_refused (c1 : Ck K "BadNumber") (c2 : Ck K "BadGrade") (c3 : Ck K "BadMany") (h : sp_refused K vs H Q E) : vs.length = 3 ∧ t__law_refused K cells acts (TT K) (some (tT K)) (Ww E) (Dd Q)
    (L2.start ["_law_state", "_law_item_here", "_law_rung", "_law_odd", "_law_wrong", "_law_none", "_law_errors", "_law_error"] vs) H := by
  obtain ⟨st, La, Ca, t, i, g, rfl, tl, i0, i1, d, hT, q⟩ := h
  refine ⟨rfl, ?_⟩
  rw [show L2.start ["_law_state", "_law_item_here", "_law_rung", "_law_odd", "_law_wrong", "_law_none", "_law_errors", "_law_error"] [V.ref st, V.int i, V.int g] = [some (.ref st), some (.int i), some (.int g), none, none, none, none, none] from rfl]
  unfold t__law_refused
  simp only [tSeq, tWhile, tAnd, tOr, tNot, tTest, tTru, tOp, tUn, tVar, tC, tLst, tTup, tNil, tAsg, tBM, tBM0, tCons, gSub, tIfS, tCB, gName, tRet, tRetN, tNext, tIf, tFn, tDrop, tRaise0, tAndT, tOrT, tNotT, tChain, tAug, tPar, tPar3, for_go, lc_go, iRng1, iRng2, iSeq, List.getElem?_cons_zero, List.getElem?_cons_succ, List.set_cons_zero, List.set_cons_succ, Option.some.injEq, exists_eq_left']
  have r0 : Rf K st La Ca H H t := ⟨d, hT, DrN.refl _ _ _⟩
  refine ⟨32768, rfl, small rfl, fun tp htp => pow_int (by decide) (by decide) (by decide) ⟨small rfl, fun p hp => ⟨rfl, rfl, ?_⟩⟩⟩
  have r1 := (r0.new (o := .tup [V.int 0]) htp)
  refine pick_new r1.d (by omega) hp (Nat.le_of_ble_eq_true rfl) (Nat.le_of_ble_eq_true rfl) fun x H1 hx d1 f1 => ?_
  have r2 := r1.dr d1 f1
  have ox : Od H1 x ∧ btw x (-32767) 32767 = false := by
    refine ⟨Od.keep (H := upd H tp (.tup [V.int 0])) ?_ r1.d f1.n, ?_⟩
    · simp only [List.mem_cons, List.not_mem_nil, or_false] at hx
      rcases hx with rfl | rfl | rfl | rfl | rfl | rfl | rfl
      · exact .inr (.inr (.inl ⟨_, rfl⟩))
      · exact .inr (.inr (.inl ⟨_, rfl⟩))
      · exact .inr (.inl ⟨_, rfl⟩)
      · exact .inl rfl
      · exact .inr (.inr (.inr (.inl ⟨_, rfl⟩)))
      · exact .inr (.inr (.inr (.inr ⟨_, _, rfl, upd_same⟩)))
      · exact .inr (.inr (.inl ⟨_, rfl⟩))
    · simp only [List.mem_cons, List.not_mem_nil, or_false] at hx
      rcases hx with rfl | rfl | rfl | rfl | rfl | rfl | rfl <;> first | rfl | decide
  clear hx r1 r0
  obtain ⟨ox, bx⟩ := ox
  refine ⟨1, rfl, small rfl, fun p2 hp2 => ⟨rfl, rfl, pick_new r2.d (by omega) hp2 (Nat.le_of_ble_eq_true rfl) (Nat.le_of_ble_eq_true rfl) fun y H2 hy d2 f2 => ?_⟩⟩
  have r3 := r2.dr d2 f2
  have ox2 := ox.keep r2.d f2.n
  have oy : Od H2 y ∧ btw y 0 7 = false := by
    simp only [List.mem_cons, List.not_mem_nil, or_false] at hy
    rcases hy with rfl | rfl | rfl | rfl | rfl
    · exact ⟨.inr (.inr (.inl ⟨_, rfl⟩)), rfl⟩
    · exact ⟨.inr (.inr (.inl ⟨_, rfl⟩)), rfl⟩
    · exact ⟨.inr (.inl ⟨_, rfl⟩), rfl⟩
    · exact ⟨.inl rfl, rfl⟩
    · exact ⟨.inr (.inr (.inr (.inl ⟨_, rfl⟩))), rfl⟩
  obtain ⟨oy, by_⟩ := oy
  refine ⟨small rfl, fun p3 hp3 => ⟨rfl, rfl, pick_new r3.d (by omega) hp3 (Nat.le_of_ble_eq_true rfl) (Nat.le_of_ble_eq_true rfl) fun z H3 hz d3 f3 => ?_⟩⟩
  have r4 := r3.dr d3 f3
  have ox3 := ox2.keep r3.d f3.n
  have oy3 := oy.keep r3.d f3.n
  have oz : Od H3 z ∧ btw z 1 16 = false := by
    simp only [List.mem_cons, List.not_mem_nil, or_false] at hz
    rcases hz with rfl | rfl | rfl | rfl | rfl
    · exact ⟨.inr (.inr (.inl ⟨_, rfl⟩)), rfl⟩
    · exact ⟨.inr (.inr (.inl ⟨_, rfl⟩)), rfl⟩
    · exact ⟨.inr (.inl ⟨_, rfl⟩), rfl⟩
    · exact ⟨.inl rfl, rfl⟩
    · exact ⟨.inr (.inr (.inr (.inl ⟨_, rfl⟩))), rfl⟩
  obtain ⟨oz, bz⟩ := oz
  clear hy hz ox2 ox oy r3 r2
  refine caught_lam (Γ := gm__law_refused K cells acts (TT K) (some (tT K))) (n := 37) rfl (by kernel_rfl) (fun W' => lq__law_refused_0_37 K cells acts (TT K) (tT K) W') r4.T fun H4 e4 T4 => ?_
  have s4 := r4.lam e4 T4
  unfold lm__law_refused_0
  simp only [tSeq, tWhile, tAnd, tOr, tNot, tTest, tTru, tOp, tUn, tVar, tC, tLst, tTup, tNil, tAsg, tBM, tBM0, tCons, gSub, tIfS, tCB, gName, tRet, tRetN, tNext, tIf, tFn, tDrop, tRaise0, tAndT, tOrT, tNotT, tChain, tAug, tPar, tPar3, for_go, lc_go, iRng1, iRng2, iSeq, List.getElem?_cons_zero, List.getElem?_cons_succ, List.set_cons_zero, List.set_cons_succ, Option.some.injEq, exists_eq_left']
  have ox4 := ox3.keep r4.d (ext_n e4)
  refine ⟨rfl, rfl, x, rfl, ox4.kd, fun i e h1 h2 => absurd (btw_of h1 h2) (by rw [← e, bx]; simp), fun _ => err_go c1 s4 (ext_n e4) fun a1 H5 r5 n5 x1 => ?_⟩
  have Q5 := r5
  have ox5 := ox3.keep r4.d n5
  have oy5 := oy3.keep r4.d n5
  have oz5 := oz.keep r4.d n5
  clear r4 s4 ox4 ox3 oy3 oz e4 T4 n5
  refine caught_lam (Γ := gm__law_refused K cells acts (TT K) (some (tT K))) (n := 37) rfl (by kernel_rfl) (fun W' => lq__law_refused_1_37 K cells acts (TT K) (tT K) W') r5.T fun H6 e6 T6 => ?_
  have s6 := r5.lam e6 T6
  unfold lm__law_refused_1
  simp only [tSeq, tWhile, tAnd, tOr, tNot, tTest, tTru, tOp, tUn, tVar, tC, tLst, tTup, tNil, tAsg, tBM, tBM0, tCons, gSub, tIfS, tCB, gName, tRet, tRetN, tNext, tIf, tFn, tDrop, tRaise0, tAndT, tOrT, tNotT, tChain, tAug, tPar, tPar3, for_go, lc_go, iRng1, iRng2, iSeq, List.getElem?_cons_zero, List.getElem?_cons_succ, List.set_cons_zero, List.set_cons_succ, Option.some.injEq, exists_eq_left']
  have ox6 := ox5.keep r5.d (ext_n e6)
  refine ⟨rfl, rfl, x, rfl, ox6.kd, fun i e h1 h2 => absurd (btw_of h1 h2) (by rw [← e, bx]; simp), fun _ => err_go c1 s6 (ext_n e6) fun a2 H7 r7 n7 x2 => ?_⟩
  have x1' := r5.d.keepX n7 x1
  refine ⟨small rfl, fun l hl => ?_⟩
  have N := r7.newL hl
  have A8 : Al K (upd H7 l (.lst [V.ref a1, V.ref a2])) l [a1, a2] x y z := by
    refine ⟨upd_same, fun a ha => ?_, (ox5.keep r5.d n7).keep r7.d ((DrN.refl _ _ _).new hl), (oy5.keep r5.d n7).keep r7.d ((DrN.refl _ _ _).new hl), (oz5.keep r5.d n7).keep r7.d ((DrN.refl _ _ _).new hl)⟩
    simp only [List.mem_cons, List.not_mem_nil, or_false] at ha
    rcases ha with rfl | rfl
    · rw [upd_ne (ne_of_none x1' hl)]
      exact x1'
    · rw [upd_ne (ne_of_none x2 hl)]
      exact x2
  have r8 := r7.new (o := .lst [V.ref a1, V.ref a2]) hl
  revert A8 r8
  generalize upd H7 l (.lst [V.ref a1, V.ref a2]) = H8
  intro A8 r8
  clear x1' x2 n7 ox6 s6 ox5 oy5 oz5 e6 T6 x1 r5 Q5 r7 hl
  refine ⟨.inl ⟨rfl, _, .inl (.inl A8.lst)⟩, ?_⟩
  -- the third
  refine caught_lam (Γ := gm__law_refused K cells acts (TT K) (some (tT K))) (n := 37) rfl (by kernel_rfl) (fun W' => lq__law_refused_2_37 K cells acts (TT K) (tT K) W') r8.T fun H9 e9 T9 => ?_
  have s9 := r8.lam e9 T9
  have B9 := A8.keep r8 N (ext_n e9)
  unfold lm__law_refused_2
  simp only [tSeq, tWhile, tAnd, tOr, tNot, tTest, tTru, tOp, tUn, tVar, tC, tLst, tTup, tNil, tAsg, tBM, tBM0, tCons, gSub, tIfS, tCB, gName, tRet, tRetN, tNext, tIf, tFn, tDrop, tRaise0, tAndT, tOrT, tNotT, tChain, tAug, tPar, tPar3, for_go, lc_go, iRng1, iRng2, iSeq, List.getElem?_cons_zero, List.getElem?_cons_succ, List.set_cons_zero, List.set_cons_succ, Option.some.injEq, exists_eq_left']
  refine ⟨rfl, rfl, x, y, rfl, B9.ox.kd, B9.oy.kd, fun i g e _ h1 h2 => absurd (btw_of h1 h2) (by rw [← e, bx]; simp), fun _ => err_go c1 s9 (ext_n e9) fun a3 H10 r10 n10 x3 => ?_, fun c => by rw [bx] at c; cases c⟩
  have A10 := A8.keep r8 N n10
  refine ⟨l, _, _, rfl, rfl, A10.lst, by rw [sizeLine_eq]; exact Nat.le_of_ble_eq_true rfl, ?_⟩
  have A11 := A10.add x3
  have r11 := r10.put (ys := [a1, a2].map V.ref ++ [V.ref a3]) N A10.lst
  revert A11 r11
  generalize upd H10 l (.lst ([a1, a2].map V.ref ++ [V.ref a3])) = H11
  intro A11 r11
  clear s9 B9 n10 x3 A10 r10 e9 T9 A8 r8
  refine ⟨.inl ⟨rfl, _, .inl (.inl A11.lst)⟩, ?_⟩
  -- the fourth
  refine caught_lam (Γ := gm__law_refused K cells acts (TT K) (some (tT K))) (n := 37) rfl (by kernel_rfl) (fun W' => lq__law_refused_3_37 K cells acts (TT K) (tT K) W') r11.T fun H12 e12 T12 => ?_
  have s12 := r11.lam e12 T12
  unfold lm__law_refused_3
  simp only [tSeq, tWhile, tAnd, tOr, tNot, tTest, tTru, tOp, tUn, tVar, tC, tLst, tTup, tNil, tAsg, tBM, tBM0, tCons, gSub, tIfS, tCB, gName, tRet, tRetN, tNext, tIf, tFn, tDrop, tRaise0, tAndT, tOrT, tNotT, tChain, tAug, tPar, tPar3, for_go, lc_go, iRng1, iRng2, iSeq, List.getElem?_cons_zero, List.getElem?_cons_succ, List.set_cons_zero, List.set_cons_succ, Option.some.injEq, exists_eq_left']
  refine ⟨1, rfl, small rfl, fun p4 hp4 => ⟨rfl, rfl, pick_new s12.d (by omega) hp4 (Nat.le_of_ble_eq_true rfl) (Nat.le_of_ble_eq_true rfl) fun w H13 hw d13 f13 => ?_⟩⟩
  have s13 := s12.dr d13 f13
  have ow : Od H13 w ∧ btw w 0 65534 = false := by
    simp only [List.mem_cons, List.not_mem_nil, or_false] at hw
    rcases hw with rfl | rfl | rfl | rfl | rfl
    · exact ⟨.inr (.inr (.inl ⟨_, rfl⟩)), rfl⟩
    · exact ⟨.inr (.inr (.inl ⟨_, rfl⟩)), rfl⟩
    · exact ⟨.inr (.inl ⟨_, rfl⟩), rfl⟩
    · exact ⟨.inl rfl, rfl⟩
    · exact ⟨.inr (.inr (.inr (.inl ⟨_, rfl⟩))), rfl⟩
  refine ⟨rfl, rfl, w, rfl, ow.1.kd, fun i e h1 h2 => absurd (btw_of h1 h2) (by rw [← e, ow.2]; simp), fun _ => err_go c1 s13 ((ext_n e12).trans f13.n) fun a4 H14 r14 n14 x4 => ?_⟩
  have A14 := A11.keep r11 N n14
  refine ⟨l, _, _, rfl, rfl, A14.lst, by rw [sizeLine_eq]; exact Nat.le_of_ble_eq_true rfl, ?_⟩
  have A15 := A14.add x4
  have r15 := r14.put (ys := ([a1, a2] ++ [a3]).map V.ref ++ [V.ref a4]) N A14.lst
  revert A15 r15
  generalize upd H14 l (.lst (([a1, a2] ++ [a3]).map V.ref ++ [V.ref a4])) = H15
  intro A15 r15
  clear ow s13 d13 f13 hw hp4 s12 e12 T12 A11 r11 n14 x4 A14 r14
  refine ⟨.inl ⟨rfl, _, .inl (.inl A15.lst)⟩, ?_⟩
  -- the fifth
  refine caught_lam (Γ := gm__law_refused K cells acts (TT K) (some (tT K))) (n := 37) rfl (by kernel_rfl) (fun W' => lq__law_refused_4_37 K cells acts (TT K) (tT K) W') r15.T fun H16 e16 T16 => ?_
  have s16 := r15.lam e16 T16
  unfold lm__law_refused_4
  simp only [tSeq, tWhile, tAnd, tOr, tNot, tTest, tTru, tOp, tUn, tVar, tC, tLst, tTup, tNil, tAsg, tBM, tBM0, tCons, gSub, tIfS, tCB, gName, tRet, tRetN, tNext, tIf, tFn, tDrop, tRaise0, tAndT, tOrT, tNotT, tChain, tAug, tPar, tPar3, for_go, lc_go, iRng1, iRng2, iSeq, List.getElem?_cons_zero, List.getElem?_cons_succ, List.set_cons_zero, List.set_cons_succ, Option.some.injEq, exists_eq_left']
  refine ⟨1, rfl, small rfl, fun p5 hp5 => ⟨rfl, rfl, pick_new s16.d (by omega) hp5 (Nat.le_of_ble_eq_true rfl) (Nat.le_of_ble_eq_true rfl) fun w H17 hw d17 f17 => ?_⟩⟩
  have s17 := s16.dr d17 f17
  have ow : Od H17 w ∧ btw w 0 15 = false := by
    simp only [List.mem_cons, List.not_mem_nil, or_false] at hw
    rcases hw with rfl | rfl | rfl | rfl | rfl
    · exact ⟨.inr (.inr (.inl ⟨_, rfl⟩)), rfl⟩
    · exact ⟨.inr (.inr (.inl ⟨_, rfl⟩)), rfl⟩
    · exact ⟨.inr (.inl ⟨_, rfl⟩), rfl⟩
    · exact ⟨.inl rfl, rfl⟩
    · exact ⟨.inr (.inr (.inr (.inl ⟨_, rfl⟩))), rfl⟩
  refine ⟨rfl, rfl, w, .int 4, rfl, ow.1.kd, trivial, fun i k e ek _ _ h1 h2 => ?_, fun c => absurd c (by decide), fun k ek _ _ _ => err_go c1 s17 ((ext_n e16).trans f17.n) fun a5 H18 r18 n18 x5 => ?_⟩
  · cases ek
    have z := btw_of h1 (show i ≤ 15 from by
      have e2 : (2 : Int) ^ (4 : Int).toNat = 16 := rfl
      rw [e2] at h2
      omega)
    rw [← e, ow.2] at z
    cases z
  have A18 := A15.keep r15 N n18
  refine ⟨l, _, _, rfl, rfl, A18.lst, by rw [sizeLine_eq]; exact Nat.le_of_ble_eq_true rfl, ?_⟩
  have A19 := A18.add x5
  have r19 := r18.put (ys := ([a1, a2] ++ [a3] ++ [a4]).map V.ref ++ [V.ref a5]) N A18.lst
  revert A19 r19
  generalize upd H18 l (.lst (([a1, a2] ++ [a3] ++ [a4]).map V.ref ++ [V.ref a5])) = H19
  intro A19 r19
  clear ow s17 d17 f17 hw hp5 s16 e16 T16 A15 r15 n18 x5 A18 r18
  revert A19
  generalize [a1, a2] ++ [a3] ++ [a4] ++ [a5] = es
  intro A19
  refine .inl ⟨_, rfl, l, rfl, ⟨_, .inl (.inl A19.lst)⟩, lc_list (es.map V.ref) (fun D i acc H' => acc = [] ∧ H19 D = none ∧ H' = upd H19 D (.lst [])) (fun D hD => ⟨rfl, hD, rfl⟩) (fun D i acc H' h => ?_) ?_ ?_⟩
  · rw [h.2.2]
    exact .inl (.inl (by rw [upd_ne (ne_of_none A19.lst h.2.1)]; exact A19.lst))
  · rintro D j acc H' w hw hA hz ⟨rfl, hD, rfl⟩
    rw [List.getElem?_map] at hw
    obtain ⟨a, ha, rfl⟩ := Option.map_eq_some_iff.mp hw
    have xa := A19.es a (List.mem_of_getElem? ha)
    show tNot (tTru K (tCB (rIsX K) (tCons (tVar 7) (tCons (tC (V.ref (He.ga K "BadNumber"))) tNil)))) [some (V.ref st), some (V.int i), some (V.int g), some x, some y, some z, some (V.ref l), some (.ref a)] _ _
    simp only [tSeq, tWhile, tAnd, tOr, tNot, tTest, tTru, tOp, tUn, tVar, tC, tLst, tTup, tNil, tAsg, tBM, tBM0, tCons, gSub, tIfS, tCB, gName, tRet, tRetN, tNext, tIf, tFn, tDrop, tRaise0, tAndT, tOrT, tNotT, tChain, tAug, tPar, tPar3, for_go, lc_go, iRng1, iRng2, iSeq, List.getElem?_cons_zero, List.getElem?_cons_succ, List.set_cons_zero, List.set_cons_succ, Option.some.injEq, exists_eq_left']
    refine isx_err c1 (by rw [upd_ne (ne_of_none xa hD)]; exact xa) c1.one ⟨_, rfl, ?_⟩
    rw [if_neg (by simp)]
    exact Lp.skip hA hz ⟨rfl, hD, rfl⟩
  rintro D acc H20 hl20 hA ⟨rfl, hD, rfl⟩
  have r20 := r19.new (o := .lst []) hD
  have A20 : Al K (upd H19 D (.lst [])) l es x y z := A19.keep r19 N ((DrN.refl _ _ _).new hD)
  revert A20 r20 hA
  generalize upd H19 D (.lst []) = H20
  intro hA r20 A20
  clear A19 r19 hD
  refine ⟨small rfl, fun p6 hp6 => ?_⟩
  have r21 := r20.new (o := .lst []) hp6
  have A21 : Al K (upd H20 p6 (.lst [])) l es x y z := A20.keep r20 N ((DrN.refl _ _ _).new hp6)
  refine ne_nil (zs := []) (.inl (.inl (by rw [upd_ne (ne_of_none hA hp6)]; exact hA))) upd_same ⟨_, rfl, ?_⟩
  rw [if_neg (by simp)]
  revert A21 r21
  generalize upd H20 p6 (.lst []) = H21
  intro r21 A21
  clear A20 r20 hA hp6
  -- the sixth
  refine caught_lam (Γ := gm__law_refused K cells acts (TT K) (some (tT K))) (n := 35) rfl (by kernel_rfl) (fun W' => lq__law_refused_5_35 K cells acts (TT K) (tT K) W') r21.T fun H22 e22 T22 => ?_
  have s22 := r21.lam e22 T22
  have B22 := A21.keep r21 N (ext_n e22)
  unfold lm__law_refused_5
  simp only [tSeq, tWhile, tAnd, tOr, tNot, tTest, tTru, tOp, tUn, tVar, tC, tLst, tTup, tNil, tAsg, tBM, tBM0, tCons, gSub, tIfS, tCB, gName, tRet, tRetN, tNext, tIf, tFn, tDrop, tRaise0, tAndT, tOrT, tNotT, tChain, tAug, tPar, tPar3, for_go, lc_go, iRng1, iRng2, iSeq, List.getElem?_cons_zero, List.getElem?_cons_succ, List.set_cons_zero, List.set_cons_succ, Option.some.injEq, exists_eq_left']
  refine ⟨rfl, rfl, .int i, y, rfl, trivial, B22.oy.kd, fun j g _ e _ _ h1 h2 => absurd (btw_of h1 h2) (by rw [← e, by_]; simp), fun c => ?_, fun _ _ => err_go c2 s22 (ext_n e22) fun a6 H23 r23 n23 x6 => ?_⟩
  · rw [btw_of i0 i1] at c
    cases c
  have A23 := A21.keep r21 N n23
  refine isx_err c2 x6 c2.one ⟨_, rfl, ?_⟩
  rw [if_neg (by simp)]
  clear A21 r21 s22 B22 e22 T22 n23 x6
  -- the last
  refine caught_lam (Γ := gm__law_refused K cells acts (TT K) (some (tT K))) (n := 37) rfl (by kernel_rfl) (fun W' => lq__law_refused_6_37 K cells acts (TT K) (tT K) W') r23.T fun H24 e24 T24 => ?_
  have s24 := r23.lam e24 T24
  have B24 := A23.keep r23 N (ext_n e24)
  unfold lm__law_refused_6
  simp only [tSeq, tWhile, tAnd, tOr, tNot, tTest, tTru, tOp, tUn, tVar, tC, tLst, tTup, tNil, tAsg, tBM, tBM0, tCons, gSub, tIfS, tCB, gName, tRet, tRetN, tNext, tIf, tFn, tDrop, tRaise0, tAndT, tOrT, tNotT, tChain, tAug, tPar, tPar3, for_go, lc_go, iRng1, iRng2, iSeq, List.getElem?_cons_zero, List.getElem?_cons_succ, List.set_cons_zero, List.set_cons_succ, Option.some.injEq, exists_eq_left']
  refine ⟨rfl, rfl, x, z, rfl, B24.ox.kd, B24.oz.kd, fun i k _ e h1 h2 _ _ => absurd (btw_of h1 h2) (by rw [← e, bz]; simp), fun _ => err_go c3 s24 (ext_n e24) fun a7 H25 r25 n25 x7 => ?_, fun k e h1 h2 _ => absurd (btw_of h1 h2) (by rw [← e, bz]; simp)⟩
  exact isx_err c3 x7 c3.one (q H25 (r25.d.mono (by omega)) r25.n r25.T)
end
end K01

set_option Elab.async false
set_option linter.all false
set_option maxRecDepth 100000
set_option maxHeartbeats 8000000
namespace K01
open PySem PySem.Spec PyProof.Rows L2 LamX G Pk
/-! ### repr of a list of numbers and bits -/
def toV : PyData → V
  | .int i => .int i
  | .str x => .str x
  | _ => .non
def PlD (d : PyData) : Prop := (∃ i : Int, d = .int i ∧ i.natAbs < 10 ^ 15) ∨ ∃ x : Str, d = .str x ∧ BitS x ∧ x.length ≤ 1000
theorem pl_all {K : PySem.W.Frag} {H : Hp} : ∀ {ds : List PyData}, (∀ d ∈ ds, PlD d) → DpAll K H (ds.map toV) ds ∧ PyData.showableAll ds = true ∧ PyData.hasDictAll ds = false ∧ PyData.depthAll ds = 0 ∧ piled (PyData.shownAll ds) ≤ ds.length * 11000
  | [], _ => ⟨.nil, rfl, rfl, rfl, Nat.le_refl _⟩
  | d :: ds, h => by
    obtain ⟨a1, a2, a3, a4, a5⟩ := pl_all (K := K) (H := H) (ds := ds) fun e he => h e (List.mem_cons_of_mem _ he)
    have key : Dp K H (toV d) d ∧ d.showable = true ∧ d.hasDict = false ∧ d.depth = 0 ∧ d.shown.length ≤ 10002 := by
      rcases h d List.mem_cons_self with ⟨i, rfl, hi⟩ | ⟨x, rfl, hx, hl⟩
      · refine ⟨.int i, ?_, rfl, rfl, ?_⟩
        · show decide (i.natAbs.log2 < 1920) = true
          refine decide_eq_true ?_
          by_cases z : i.natAbs = 0
          · rw [z]
            decide
          · rw [Nat.log2_lt z]
            exact Nat.lt_of_lt_of_le (Nat.lt_trans hi (show 10 ^ 15 < 2 ^ 50 by decide)) (Nat.pow_le_pow_right (by decide) (by decide))
        · have z := int_shown_le (i := i) (by omega)
          show (Str.ofString (toString i)).length ≤ 10002
          omega
      · refine ⟨.str x, rfl, rfl, rfl, ?_⟩
        have z := bit_shown_le hx
        show (reprText x).length ≤ 10002
        omega
    obtain ⟨k1, k2, k3, k4, k5⟩ := key
    refine ⟨.cons k1 a1, ?_, ?_, ?_, ?_⟩
    · show (d.showable && PyData.showableAll ds) = true
      rw [k2, a2]
      rfl
    · show (d.hasDict || PyData.hasDictAll ds) = false
      rw [k3, a3]
      rfl
    · show max d.depth (PyData.depthAll ds) = 0
      rw [k4, a4]
      rfl
    · show d.shown.length + 2 + piled (PyData.shownAll ds) ≤ (ds.length + 1) * 11000
      omega
theorem repr_of {K : PySem.W.Frag} {H : Hp} {p : Addr} {Q : VK} (ds : List PyData) (h : H p = some (.lst (ds.map toV))) (hp : ∀ d ∈ ds, PlD d) (hl : ds.length ≤ 100) (q : Q (.str (PyData.list ds).shown) H) : G.rRepr K [.ref p] H Q := by
  obtain ⟨a1, a2, a3, a4, a5⟩ := pl_all (K := K) (H := H) hp
  refine ⟨.ref p, .list ds, rfl, .lst (.inl (.inl h)) a1, a2, a3, ?_, ?_, ⟨p, rfl⟩, q⟩
  · show PyData.depthAll ds + 1 ≤ 30
    rw [a4]
    decide
  · show (listText (PyData.shownAll ds)).length ≤ sizeLine
    have z := listText_le (PyData.shownAll ds)
    rw [sizeLine_eq]
    omega
theorem pl_int {i : Int} (h0 : -1000000 ≤ i) (h1 : i ≤ 1000000) : PlD (.int i) := .inl ⟨i, rfl, by omega⟩
theorem pl_str {x : Str} (h : BitS x) (l : x.length ≤ 1000) : PlD (.str x) := .inr ⟨x, rfl, h, l⟩
/-! ### words: of signs, their lengths -/
theorem unfold_fold (i : Int) : unfoldZ (foldZ i) = i := by
  unfold unfoldZ foldZ
  split <;> split <;> omega
theorem many_le {i : Int} (h1 : -32768 < i) (h2 : i < 32768) : many i ≤ 16 := by
  obtain ⟨b1, b2⟩ := foldZ_bounds h1 h2
  exact log_small (by omega) (by omega)
theorem longW_bit (i : Int) : BitS (longW i) := ((ones_bit _).app bits_0).app (tw_bit _ _ _ bits_e)
theorem longW_len (i : Int) : (longW i).length = 2 * many i + 1 := by
  unfold longW
  rw [strLen_append, strLen_append, ones_len, len_0, tw_len, len_e]
  omega
theorem gradeW_bit (i g : Int) : BitS (gradeW i g) := by
  unfold gradeW
  split
  · exact ((ones_bit _).app bits_0).app (tw_bit _ _ _ bits_e)
  · exact (ones_bit _).app (tw_bit _ _ _ bits_e)
theorem gradeW_len (i g : Int) : (gradeW i g).length = if foldZ i / 2 ^ g.toNat < 12 then (foldZ i / 2 ^ g.toNat).toNat + 1 + g.toNat else 28 := by
  unfold gradeW
  split
  · rw [strLen_append, strLen_append, ones_len, len_0, tw_len, len_e]
    omega
  · rw [strLen_append, ones_len, tw_len, len_e]
theorem long_mono {i j : Int} (h1 : -32768 < i) (h2 : i < 32768) (k1 : -32768 < j) (h : foldZ j ≤ foldZ i) (h0 : 0 ≤ foldZ j) : (longW j).length ≤ (longW i).length := by
  rw [longW_len, longW_len]
  have z : many j ≤ many i := by
    unfold many
    rw [log_le (by omega)]
    have z2 := (log_le (t := foldZ j + 1) (j := many j) (by omega)).mp (Nat.le_refl _)
    exact Int.le_trans z2 (by omega)
  omega
theorem grade_mono {i j g : Int} (g0 : 0 ≤ g) (g1 : g ≤ 7) (h : foldZ j ≤ foldZ i) (h0 : 0 ≤ foldZ j) : (gradeW j g).length ≤ (gradeW i g).length := by
  rw [gradeW_len, gradeW_len]
  have p0 : (0 : Int) < 2 ^ g.toNat := Int.pow_pos (by decide)
  have z : foldZ j / 2 ^ g.toNat ≤ foldZ i / 2 ^ g.toNat := Int.ediv_le_ediv p0 h
  have z0 : 0 ≤ foldZ j / 2 ^ g.toNat := Int.ediv_nonneg h0 (Int.le_of_lt p0)
  split <;> split <;> omega
theorem grade_28 {i g : Int} (g0 : 0 ≤ g) (g1 : g ≤ 7) (h0 : 0 ≤ foldZ i) : (gradeW i g).length ≤ 28 := by
  rw [gradeW_len]
  have p0 : (0 : Int) < 2 ^ g.toNat := Int.pow_pos (by decide)
  have z0 : 0 ≤ foldZ i / 2 ^ g.toNat := Int.ediv_nonneg h0 (Int.le_of_lt p0)
  split <;> omega
/-! ### joined signs -/
theorem glue_cps : ∀ (ys : List Str) (acc : Array Nat), (ys.foldl (fun acc p => acc ++ (("" : Str)).cps ++ p.cps) acc).toList = acc.toList ++ (ys.map fun y => y.cps.toList).flatten
  | [], acc => by simp
  | y :: ys, acc => by
    have e0 : (("" : Str)).cps = #[] := by decide +kernel
    rw [List.foldl_cons, glue_cps ys, List.map_cons, List.flatten_cons, e0]
    simp
theorem join_cps (ys : List Str) : (Txt.join "" ys).cps.toList = (ys.map fun y => y.cps.toList).flatten := by
  unfold Txt.join Builtin.Str.glued
  cases ys with
  | nil => rfl
  | cons y ys =>
    show (ys.foldl (fun acc p => acc ++ (("" : Str)).cps ++ p.cps) y.cps).toList = _
    rw [glue_cps]
    rfl
theorem join_bit {ys : List Str} (h : ∀ y ∈ ys, y = "0" ∨ y = "1") : BitS (Txt.join "" ys) := fun c hc => by
  rw [join_cps] at hc
  obtain ⟨l, hl, hc⟩ := List.mem_flatten.mp hc
  obtain ⟨y, hy, rfl⟩ := List.mem_map.mp hl
  rcases h y hy with rfl | rfl
  · exact bits_0 c hc
  · exact bits_1 c hc
theorem join_len : ∀ {ys : List Str}, (∀ y ∈ ys, y = "0" ∨ y = "1") → (Txt.join "" ys).length = ys.length := fun {ys} h => by
  rw [← len_cps, join_cps]
  induction ys with
  | nil => rfl
  | cons y ys ih =>
    rw [List.map_cons, List.flatten_cons, List.length_append, ih fun z hz => h z (List.mem_cons_of_mem _ hz), len_cps, List.length_cons]
    rcases h y List.mem_cons_self with e | e
    · rw [e, len_0]
      omega
    · rw [e, len_1]
      omega
theorem sum_len : ∀ {ys : List Str}, (∀ y ∈ ys, y = "0" ∨ y = "1") → (ys.map (·.length)).sum = ys.length
  | [], _ => rfl
  | y :: ys, h => by
    rw [List.map_cons, List.sum_cons, sum_len fun z hz => h z (List.mem_cons_of_mem _ hz), List.length_cons]
    rcases h y List.mem_cons_self with e | e
    · rw [e, len_0]
      omega
    · rw [e, len_1]
      omega
theorem isBits_of {x : Str} (h : BitS x) : isBits (.str x) = true := by
  refine decide_eq_true (strip_all fun c hc => ?_)
  rcases h c hc with e | e <;> rw [e] <;> decide +kernel
theorem isBits_2 (x : Str) : isBits (.str (x ++ "2")) = false := by
  refine decide_eq_false (strip_some (c := 50) ?_ (by decide +kernel))
  rw [app_cps]
  exact List.mem_append.mpr (.inr (by decide +kernel))
section
variable {K : PySem.W.Frag} {cells : List (Str × Addr)} {acts : Acts} {T : List (Addr × Str)} {pt : Option Addr} {vs : List V} {H : Hp} {Q : VK} {E : XK}
theorem len_lst {K : PySem.W.Frag} {H : Hp} {a : Addr} {xs : List V} {Q : VK} (h : SqL K H a xs) (q : Q (.int xs.length) H) : G.rLen K [.ref a] H Q := .inl ⟨_, _, rfl, .inl ⟨xs, h, rfl⟩, q⟩
theorem len_str {K : PySem.W.Frag} {H : Hp} {x : Str} {Q : VK} (h : x.length ≤ 1000) (q : Q (.int x.length) H) : G.rLen K [.str x] H Q := .inl ⟨_, x.length, rfl, ⟨Nat.le_trans h (by rw [sizeLine_eq]; decide), rfl⟩, q⟩
theorem min_int {K : PySem.W.Frag} {H : Hp} {i j : Int} {Q : VK} (q : Q (.int (if j < i then j else i)) H) : G.rMin2 K [.int i, .int j] H Q := q
theorem isnot_bl {K : PySem.W.Frag} {H : Hp} {a b : Bool} {Q : VK} (q : Q (.bl (!decide (a = b))) H) : G.rCmp K .IsNot (.bl a) (.bl b) H Q := q
theorem Rf.mono {st La Ca : Addr} {K : PySem.W.Frag} {H0 H : Hp} {t u : Int} (r : Rf K st La Ca H0 H t) (h : t ≤ u) : Rf K st La Ca H0 H u := ⟨r.d.mono h, r.T, r.n⟩
theorem keep_new {H : Hp} {b p : Addr} {o u : HO} (h : H b = some o) (n : H p = none) : upd H p u b = some o := by
  rw [upd_ne (ne_of_none h n)]
  exact h
theorem k_folded {K : PySem.W.Frag} {i : Int} {H : Hp} {Q : VK} {E : XK} (h1 : -32767 ≤ i) (h2 : i ≤ 32767) (q : Q (.int (foldZ i)) H) : sp_folded K [.int i] H Q E :=
  ⟨.int i, rfl, trivial, fun j e _ _ => by cases e; exact q, fun c => by rw [btw_of h1 h2] at c; cases c⟩
theorem k_unfolded {K : PySem.W.Frag} {i : Int} {H : Hp} {Q : VK} {E : XK} (h1 : 0 ≤ i) (h2 : i ≤ 65534) (q : Q (.int (unfoldZ i)) H) : sp_unfolded K [.int i] H Q E :=
  ⟨.int i, rfl, trivial, fun j e _ _ => by cases e; exact q, fun c => by rw [btw_of h1 h2] at c; cases c⟩
theorem k_long {K : PySem.W.Frag} {i : Int} {H : Hp} {Q : VK} {E : XK} (h1 : -32767 ≤ i) (h2 : i ≤ 32767) (q : Q (.str (longW i)) H) : sp_long_bits K [.int i] H Q E :=
  ⟨.int i, rfl, trivial, fun j e _ _ => by cases e; exact q, fun c => by rw [btw_of h1 h2] at c; cases c⟩
theorem k_grade {K : PySem.W.Frag} {i g : Int} {H : Hp} {Q : VK} {E : XK} (h1 : -32767 ≤ i) (h2 : i ≤ 32767) (g0 : 0 ≤ g) (g1 : g ≤ 7) (q : Q (.str (gradeW i g)) H) : sp_grade_bits K [.int i, .int g] H Q E :=
  ⟨.int i, .int g, rfl, trivial, trivial, fun j k e e2 _ _ _ _ => by cases e; cases e2; exact q, fun c => (by rw [btw_of h1 h2] at c; cases c), fun _ c => (by rw [btw_of g0 g1] at c; cases c)⟩
theorem k_fixed {K : PySem.W.Frag} {i k : Int} {H : Hp} {Q : VK} {E : XK} (h1 : 0 ≤ i) (h2 : i < 2 ^ k.toNat) (g0 : 1 ≤ k) (g1 : k ≤ 16) (q : Q (.str (tw k.toNat i "")) H) : sp_fixed_bits K [.int i, .int k] H Q E :=
  ⟨.int i, .int k, rfl, trivial, trivial, fun j l e e2 _ _ _ _ => by cases e; cases e2; exact q, fun c => (by rw [btw_of g0 g1] at c; cases c), fun l e _ _ c => (by cases e; rw [btw_of h1 (by omega)] at c; cases c)⟩
theorem k_bits {x : V} {H : Hp} {Q : VK} {E : XK} (k : Kd H x) (l : ∀ a, x = .str a → a.length ≤ 1000000) {b : Bool} (e : isBits x = b) (q : Q (.bl b) H) : sp_is_bits [x] H Q E := ⟨x, rfl, k, l, by rw [e]; exact q⟩
theorem near_ok {K : PySem.W.Frag} {i : Int} {H : Hp} {R : VK} (i0 : -32767 ≤ i) (i1 : i ≤ 32767) (q : ∀ n, -32767 ≤ n → n ≤ 32767 → foldZ n ≤ foldZ i → R (.int n) H) :
    G.rCmp K .Gt (.int i) (.int 0) H fun x H' => ∃ k, x = .bl k ∧ if k = true then rBin K .Sub (.int i) (.int 1) H' R else rBin K .Add (.int i) (.int 1) H' fun x H1 => G.rMin2 K [x, .int 0] H1 R := by
  refine gt_int ⟨_, rfl, ?_⟩
  by_cases c : 0 < i
  · rw [if_pos (decide_eq_true c)]
    refine G.sub_int (q _ (by omega) (by omega) ?_)
    unfold foldZ
    split <;> (try split) <;> omega
  · rw [if_neg (by simpa using c)]
    refine G.add_int (min_int (q _ (by split <;> omega) (by split <;> omega) ?_))
    unfold foldZ
    split <;> (try split) <;> (try split) <;> omega
theorem bits2 {x : Str} {y : Str} (h : BitS x) (l : x.length ≤ 1000) (h2 : BitS y) (l2 : y.length ≤ 1000) : ∀ d ∈ [PyData.str x, .str x, .str y, .str y], PlD d := by
  intro d hd
  simp only [List.mem_cons, List.not_mem_nil, or_false] at hd
  rcases hd with rfl | rfl | rfl | rfl <;> first | exact pl_str h l | exact pl_str h2 l2
theorem bits1 {x : Str} (h : BitS x) (l : x.length ≤ 1000) : ∀ d ∈ [PyData.str x, .str x], PlD d := by
  intro d hd
  simp only [List.mem_cons, List.not_mem_nil, or_false] at hd
  rcases hd with rfl | rfl <;> exact pl_str h l
theorem ints2 {x y : Int} (h0 : -1000000 ≤ x) (h1 : x ≤ 1000000) (h2 : -1000000 ≤ y) (h3 : y ≤ 1000000) : ∀ d ∈ [PyData.int x, .int x, .int y, .int y], PlD d := by
  intro d hd
  simp only [List.mem_cons, List.not_mem_nil, or_false] at hd
  rcases hd with rfl | rfl | rfl | rfl <;> exact pl_int (by omega) (by omega)
theorem ok_law (c1 : Ck K "BadNumber") (c2 : Ck K "BadGrade") (c3 : Ck K "BadMany") (h : sp_law K vs H Q E) : vs.length = 1 ∧ t_law K cells acts T pt (Ww E) (Dd Q)
    (L2.start ["_law_script", "_law_state", "_law_turn", "_law_item_here", "_law_rung", "_law_size_here", "_law_told", "_law_part", "_law_nearer", "_law_signs", "_law_spot", "_law_odd"] vs) H := by
  obtain ⟨a, zs, rfl, ha, hl, hT, q⟩ := h
  refine ⟨rfl, ?_⟩
  rw [show L2.start ["_law_script", "_law_state", "_law_turn", "_law_item_here", "_law_rung", "_law_size_here", "_law_told", "_law_part", "_law_nearer", "_law_signs", "_law_spot", "_law_odd"] [V.ref a] = [some (.ref a), none, none, none, none, none, none, none, none, none, none, none] from rfl]
  unfold t_law
  simp only [tSeq, tWhile, tAnd, tOr, tNot, tTest, tTru, tOp, tUn, tVar, tC, tLst, tTup, tNil, tAsg, tBM, tBM0, tCons, gSub, tIfS, tCB, gName, tRet, tRetN, tNext, tIf, tFn, tDrop, tRaise0, tAndT, tOrT, tNotT, tChain, tAug, tPar, tPar3, for_go, lc_go, iRng1, iRng2, iSeq, List.getElem?_cons_zero, List.getElem?_cons_succ, List.set_cons_zero, List.set_cons_succ, Option.some.injEq, exists_eq_left']
  refine ⟨rfl, rfl, a, zs, rfl, ha, by omega, fun st La Ca H1 n1 n2 s1 d1 => ?_⟩
  refine len_lst (sql_same ha s1) ?_
  have T1 : Tabs (TT K) H1 := fun p hp => (hT p hp).ext s1
  rw [List.length_map]
  refine min_int (add_int ⟨_, rfl, by split <;> omega, by split <;> omega, ?_⟩)
  have r1 : Rf K st La Ca H1 H1 0 := ⟨d1, T1, DrN.refl _ _ _⟩
  have hn : (4 + if (8 : Int) < (zs.length : Int) then 8 else (zs.length : Int)).toNat ≤ 12 := by split <;> omega
  revert hn
  generalize (4 + if (8 : Int) < (zs.length : Int) then 8 else (zs.length : Int)).toNat = n
  intro hn
  refine go_rng (fun m σ H' => Rf K st La Ca H1 H' (60 * m) ∧ ∃ o2 o3 o4 o5 o6 o7 o8 o9 o10 o11 : Option V, σ = [some (.ref a), some (.ref st), o2, o3, o4, o5, o6, o7, o8, o9, o10, o11]) ⟨r1.mono (by omega), _, _, _, _, _, _, _, _, _, _, rfl⟩ ?_ ?_
  · rintro m σ H2 hm ⟨r2, o2, o3, o4, o5, o6, o7, o8, o9, o10, o11, rfl⟩
    simp only [tSeq, tWhile, tAnd, tOr, tNot, tTest, tTru, tOp, tUn, tVar, tC, tLst, tTup, tNil, tAsg, tBM, tBM0, tCons, gSub, tIfS, tCB, gName, tRet, tRetN, tNext, tIf, tFn, tDrop, tRaise0, tAndT, tOrT, tNotT, tChain, tAug, tPar, tPar3, for_go, lc_go, iRng1, iRng2, iSeq, List.getElem?_cons_zero, List.getElem?_cons_succ, List.set_cons_zero, List.set_cons_succ, Option.some.injEq, exists_eq_left']
    refine ⟨rfl, rfl, st, La, Ca, 60 * m, rfl, by omega, r2.d, fun i H3 i0 i1 d3 f3 => ?_⟩
    have r3 := r2.dr d3 f3
    refine ⟨rfl, rfl, st, La, Ca, 8, _, rfl, by decide, by decide, by omega, d3, fun g H4 g0 g1 d4 f4 => ?_⟩
    have r4 := r3.dr d4 f4
    refine ⟨rfl, rfl, st, La, Ca, 16, _, rfl, by decide, by decide, by omega, d4, fun w H5 w0 w1 d5 f5 => add_int ?_⟩
    have r5 := r4.dr d5 f5
    clear r3 r4 d3 d4 d5 f3 f4 f5
    refine ⟨_, _, _, rfl, ?_⟩
    obtain ⟨b0, b1⟩ := foldZ_bounds (i := i) (by omega) (by omega)
    have hu := unfold_fold i
    refine ⟨rfl, rfl, k_folded i0 i1 ⟨rfl, rfl, k_folded i0 i1 ⟨rfl, rfl, ⟨i, rfl, by omega, by omega, ⟨rfl, rfl, k_unfolded b0 b1 ⟨rfl, rfl, ⟨i, rfl, by omega, by omega, ⟨rfl, rfl, k_unfolded b0 b1 ⟨small rfl, fun p hp => ?_⟩⟩⟩⟩⟩⟩⟩⟩⟩
    rw [hu]
    have r6 := r5.new (o := .lst [V.int (foldZ i), V.int (foldZ i), V.int i, V.int i]) hp
    refine repr_of [.int (foldZ i), .int (foldZ i), .int i, .int i] upd_same (ints2 (by omega) (by omega) (by omega) (by omega)) (Nat.le_of_ble_eq_true rfl) ⟨rfl, rfl, ⟨i, rfl, by omega, by omega, ⟨rfl, rfl, ⟨i, rfl, by omega, by omega, ⟨small rfl, fun p2 hp2 => ?_⟩⟩⟩⟩⟩
    have r7 := r6.new (o := .lst [V.int (foldZ i), V.int (foldZ i), V.int i, V.int i]) hp2
    refine repr_of [.int (foldZ i), .int (foldZ i), .int i, .int i] upd_same (ints2 (by omega) (by omega) (by omega) (by omega)) (Nat.le_of_ble_eq_true rfl) (ne_str ⟨_, rfl, ?_⟩)
    rw [if_neg (by simp)]
    revert r7
    generalize upd (upd H5 p _) p2 _ = H7
    intro r7
    clear r5 r6 hp hp2 hu
    -- the words
    have lb := longW_bit i
    have gb := gradeW_bit i g
    have ll : (longW i).length ≤ 1000 := by
      have z := many_le (i := i) (by omega) (by omega)
      rw [longW_len]
      omega
    have gl : (gradeW i g).length ≤ 28 := grade_28 g0 (by omega) b0
    refine ⟨rfl, rfl, k_long i0 i1 ⟨rfl, rfl, k_long i0 i1 ⟨rfl, rfl, k_grade i0 i1 g0 (by omega) ⟨rfl, rfl, k_grade i0 i1 g0 (by omega) ⟨small rfl, fun p hp => ?_⟩⟩⟩⟩⟩
    have r8 := r7.new (o := .lst [V.str (longW i), V.str (longW i), V.str (gradeW i g), V.str (gradeW i g)]) hp
    refine repr_of [.str (longW i), .str (longW i), .str (gradeW i g), .str (gradeW i g)] upd_same (bits2 lb ll gb (by omega)) (Nat.le_of_ble_eq_true rfl) ?_
    refine ⟨rfl, rfl, ⟨i, rfl, by omega, by omega, ⟨small rfl, fun p2 hp2 => .inl ⟨p2, 2, _, rfl, rfl, upd_same, by decide, by decide, small rfl, fun p3 hp3 => ?_⟩⟩⟩⟩
    have r9 := (r8.new (o := .lst [V.str (longW i)]) hp2).new (o := .lst (List.replicate (2 : Int).toNat [V.str (longW i)]).flatten) hp3
    refine ⟨rfl, rfl, ⟨i, g, rfl, by omega, by omega, g0, by omega, ⟨small rfl, fun p4 hp4 => .inl ⟨p4, 2, _, rfl, rfl, upd_same, by decide, by decide, small rfl, fun p5 hp5 => ?_⟩⟩⟩⟩
    have r10 := (r9.new (o := .lst [V.str (gradeW i g)]) hp4).new (o := .lst (List.replicate (2 : Int).toNat [V.str (gradeW i g)]).flatten) hp5
    refine .inl ⟨p3, p5, _, _, rfl, rfl, keep_new (keep_new upd_same hp4) hp5, upd_same, small rfl, fun p6 hp6 => ?_⟩
    have r11 := r10.new (o := .lst ((List.replicate (2 : Int).toNat [V.str (longW i)]).flatten ++ (List.replicate (2 : Int).toNat [V.str (gradeW i g)]).flatten)) hp6
    refine repr_of [.str (longW i), .str (longW i), .str (gradeW i g), .str (gradeW i g)] upd_same (bits2 lb ll gb (by omega)) (Nat.le_of_ble_eq_true rfl) (ne_str ⟨_, rfl, ?_⟩)
    rw [if_neg (by simp)]
    revert r11
    generalize upd (upd (upd (upd (upd (upd H7 p _) p2 _) p3 _) p4 _) p5 _) p6 _ = H8
    intro r11
    clear r7 r8 r9 r10 hp hp2 hp3 hp4 hp5 hp6
    have pw0 : (0 : Int) < 2 ^ (1 + w).toNat := Int.pow_pos (by decide)
    have pw : (2 : Int) ^ (1 + w).toNat ≤ 65536 := pow_le (k := 16) (by omega)
    refine ⟨rfl, rfl, ⟨1 + w, rfl, by omega, by omega, G.sub_int ⟨rfl, rfl, ⟨1 + w, rfl, by omega, by omega, ⟨rfl, rfl, st, La, Ca, 2 ^ (1 + w).toNat, _, rfl, pw0, by omega, by omega, r11.d, fun r H9 c0 c1' d9 f9 => ?_⟩⟩⟩⟩⟩
    have r12 := r11.dr d9 f9
    refine ⟨small rfl, fun p hp => ⟨rfl, rfl, pick_new r12.d (by omega) hp (Nat.le_of_ble_eq_true rfl) (Nat.le_of_ble_eq_true rfl) fun x H10 hx d10 f10 => ?_⟩⟩
    have r13 := r12.dr d10 f10
    obtain ⟨part, rfl, q0, q1⟩ : ∃ part, x = V.int part ∧ 0 ≤ part ∧ part < 2 ^ (1 + w).toNat := by
      simp only [List.mem_cons, List.not_mem_nil, or_false] at hx
      rcases hx with rfl | rfl | rfl
      · exact ⟨_, rfl, by omega, pw0⟩
      · exact ⟨_, rfl, by omega, by omega⟩
      · exact ⟨_, rfl, c0, c1'⟩
    clear hx r11 r12 d9 f9 d10 f10 hp
    have fb := tw_bit (1 + w).toNat part "" bits_e
    have fl : (tw (1 + w).toNat part "").length ≤ 1000 := by
      rw [tw_len, len_e]
      omega
    refine ⟨rfl, rfl, k_fixed q0 q1 (by omega) (by omega) ⟨rfl, rfl, k_fixed q0 q1 (by omega) (by omega) ⟨small rfl, fun p hp => ?_⟩⟩⟩
    have r14 := r13.new (o := .lst [V.str (tw (1 + w).toNat part ""), V.str (tw (1 + w).toNat part "")]) hp
    refine repr_of [.str (tw (1 + w).toNat part ""), .str (tw (1 + w).toNat part "")] upd_same (bits1 fb fl) (Nat.le_of_ble_eq_true rfl) ?_
    refine ⟨rfl, rfl, ⟨part, 1 + w, rfl, by omega, by omega, ⟨small rfl, fun p2 hp2 => .inl ⟨p2, 2, _, rfl, rfl, upd_same, by decide, by decide, small rfl, fun p3 hp3 => ?_⟩⟩⟩⟩
    have r15 := (r14.new (o := .lst [V.str (tw (1 + w).toNat part "")]) hp2).new (o := .lst (List.replicate (2 : Int).toNat [V.str (tw (1 + w).toNat part "")]).flatten) hp3
    refine repr_of [.str (tw (1 + w).toNat part ""), .str (tw (1 + w).toNat part "")] upd_same (bits1 fb fl) (Nat.le_of_ble_eq_true rfl) (ne_str ⟨_, rfl, ?_⟩)
    rw [if_neg (by simp)]
    revert r15
    generalize upd (upd (upd H10 p _) p2 _) p3 _ = H11
    intro r15
    clear r13 r14 hp hp2 hp3
    -- nearer
    refine near_ok i0 i1 fun nr m0 m1 mf => ?_
    obtain ⟨e0, e1⟩ := foldZ_bounds (i := nr) (by omega) (by omega)
    have u1 := long_mono (i := i) (j := nr) (by omega) (by omega) (by omega) mf e0
    have u2 := grade_mono (i := i) (j := nr) g0 (by omega) mf e0
    refine ⟨rfl, rfl, k_long m0 m1 (len_str (by omega) ⟨rfl, rfl, k_long i0 i1 (len_str ll (gt_int ⟨_, rfl, ?_⟩))⟩)⟩
    rw [if_neg (by rw [decide_eq_true_eq]; omega)]
    refine ⟨rfl, rfl, k_grade m0 m1 g0 (by omega) (len_str (by omega) ⟨rfl, rfl, k_grade i0 i1 g0 (by omega) (len_str (by omega) (gt_int ⟨_, rfl, ?_⟩))⟩)⟩
    rw [if_neg (by rw [decide_eq_true_eq]; omega)]
    refine ⟨rfl, rfl, k_grade i0 i1 g0 (by omega) (len_str (by omega) (gt_int ⟨_, rfl, ?_⟩))⟩
    rw [if_neg (by rw [decide_eq_true_eq]; omega)]
    refine ⟨rfl, rfl, st, La, Ca, _, i, g, rfl, by omega, i0, i1, r15.d, r15.T, fun H12 d12 n12 T12 => ⟨_, rfl, ?_⟩⟩
    have r16 : Rf K st La Ca H1 H12 _ := ⟨d12, T12, r15.n.trans n12⟩
    rw [if_neg (by simp)]
    clear r15 d12 n12 T12 u1 u2
    -- signs
    refine ⟨rfl, rfl, rfl, st, La, Ca, 9, _, rfl, by decide, by decide, by omega, r16.d, fun cnt H13 z0 z1 d13 f13 => ⟨cnt, rfl, by omega, by omega, ?_⟩⟩
    have r17 := r16.dr d13 f13
    clear r16 d13 f13
    have t17 : ∃ t17 : Int, t17 = 60 * (m : Int) + 4 + 1 + 1 + 1 + 1 + 5 + 1 := ⟨_, rfl⟩
    obtain ⟨t17, et⟩ := t17
    rw [← et] at r17
    refine lc_rng (fun D k acc H' => Rf K st La Ca H1 H' (t17 + k) ∧ NewL st La Ca H1 D ∧ ∃ ys : List Str, acc = ys.map V.str ∧ ∀ y ∈ ys, y = "0" ∨ y = "1") (fun D hD => ⟨(r17.new hD).mono (by omega), r17.newL hD, [], rfl, fun y hy => nomatch hy⟩) ?_ ?_
    · rintro D k acc H' hk hA hz ⟨rk, N, ys, rfl, hys⟩
      simp only [tYes, wipe, ↓reduceIte, tSeq, tWhile, tAnd, tOr, tNot, tTest, tTru, tOp, tUn, tVar, tC, tLst, tTup, tNil, tAsg, tBM, tBM0, tCons, gSub, tIfS, tCB, gName, tRet, tRetN, tNext, tIf, tFn, tDrop, tRaise0, tAndT, tOrT, tNotT, tChain, tAug, tPar, tPar3, for_go, lc_go, iRng1, iRng2, iSeq, List.getElem?_cons_zero, List.getElem?_cons_succ, List.set_cons_zero, List.set_cons_succ, Option.some.injEq, exists_eq_left']
      refine ⟨small rfl, fun p hp => ⟨rfl, rfl, pick_new rk.d (by omega) hp (Nat.le_of_ble_eq_true rfl) (Nat.le_of_ble_eq_true rfl) fun x H'' hx d' f' => ?_⟩⟩
      have hA' := f' D _ hA N.n1 N.n2
      have rk2 := rk.dr d' f'
      obtain ⟨y, rfl, hy⟩ : ∃ y : Str, x = V.str y ∧ (y = "0" ∨ y = "1") := by
        simp only [List.mem_cons, List.not_mem_nil, or_false] at hx
        rcases hx with rfl | rfl
        · exact ⟨_, rfl, .inl rfl⟩
        · exact ⟨_, rfl, .inr rfl⟩
      refine Lp.put hA' hz (by omega) ⟨(rk2.put N hA').mono (by omega), N, ys ++ [y], by rw [List.map_append]; rfl, fun v hv => ?_⟩
      rcases List.mem_append.mp hv with h | h
      · exact hys v h
      · rw [List.mem_singleton.mp h]
        exact hy
    rintro D acc H14 hl14 hA ⟨r18, N, ys, rfl, hys⟩
    rw [List.length_map] at hl14
    have r19 := r18.mono (u := t17 + 8) (by omega)
    have jb := join_bit hys
    have jl := join_len hys
    refine ⟨"", D, ys, rfl, rfl, .inl (.inl (.inl hA)), by rw [sum_len hys, len_e]; omega, ?_⟩
    revert jb jl
    generalize Txt.join "" ys = sg
    intro jb jl
    have sl : sg.length ≤ 8 := by omega
    clear r18 N hys hA jl hl14 r17
    have z2 : ((("2" : String) : Str)).length = 1 := by decide +kernel
    refine add_str (by rw [z2]; omega) ⟨small rfl, fun p1 hp1 => ⟨small rfl, fun p2 hp2 p3 hp3 => ⟨small rfl, fun p4 hp4 => ⟨rfl, rfl, ?_⟩⟩⟩⟩
    have N1 := r19.newL hp1
    have r20 := r19.new (o := .lst [V.str sg]) hp1
    have N2 := r20.newL hp2
    have r21 := r20.new (o := .tup [V.str "0"]) hp2
    have N3 := r21.newL hp3
    have r22 := r21.new (o := .dK []) hp3
    refine pick_new r22.d (by omega) hp4 (Nat.le_of_ble_eq_true rfl) (Nat.le_of_ble_eq_true rfl) fun x H15 hx d15 f15 => ?_
    have r23 := r22.dr d15 f15
    have key : Kd H15 x ∧ isBits x = false ∧ ∀ a, x = .str a → a.length ≤ 1000000 := by
      simp only [List.mem_cons, List.not_mem_nil, or_false] at hx
      rcases hx with rfl | rfl | rfl | rfl | rfl | rfl | rfl | rfl | rfl | rfl | rfl
      · refine ⟨trivial, isBits_2 sg, fun a e => ?_⟩
        cases e
        rw [strLen_append]
        have z : ((("2" : String) : Str)).length = 1 := by decide +kernel
        omega
      · exact ⟨trivial, by decide +kernel, fun a e => by cases e; decide +kernel⟩
      · exact ⟨trivial, by decide +kernel, fun a e => by cases e; decide +kernel⟩
      · exact ⟨trivial, rfl, fun a e => nomatch e⟩
      · exact ⟨trivial, rfl, fun a e => nomatch e⟩
      · exact ⟨trivial, rfl, fun a e => nomatch e⟩
      · exact ⟨.inl ⟨_, f15 _ _ (keep_new (keep_new upd_same hp2) hp3) N1.n1 N1.n2⟩, rfl, fun a e => nomatch e⟩
      · exact ⟨.inr (.inl ⟨_, f15 _ _ (keep_new upd_same hp3) N2.n1 N2.n2⟩), rfl, fun a e => nomatch e⟩
      · exact ⟨.inr (.inr ⟨_, f15 _ _ upd_same N3.n1 N3.n2⟩), rfl, fun a e => nomatch e⟩
      · exact ⟨trivial, by decide +kernel, fun a e => by cases e; decide +kernel⟩
      · exact ⟨trivial, by decide +kernel, fun a e => by cases e; decide +kernel⟩
    obtain ⟨kx, bx, lx⟩ := key
    have ks : ∀ a, V.str sg = .str a → a.length ≤ 1000000 := fun a e => by
      cases e
      omega
    refine ⟨rfl, rfl, k_bits trivial ks (isBits_of jb) (isnot_bl ⟨_, rfl, ?_⟩)⟩
    rw [if_neg (by simp)]
    refine ⟨rfl, rfl, k_bits trivial ks (isBits_of jb) (isnot_bl ⟨_, rfl, ?_⟩)⟩
    rw [if_neg (by simp)]
    refine ⟨rfl, rfl, k_bits kx lx bx (isnot_bl ⟨_, rfl, ?_⟩)⟩
    rw [if_neg (by simp)]
    exact ⟨r23.mono (by omega), _, _, _, _, _, _, _, _, _, _, rfl⟩
  · rintro σ H' ⟨r, o2, o3, o4, o5, o6, o7, o8, o9, o10, o11, rfl⟩
    exact q H'
end
end K01

set_option Elab.async false
set_option linter.all false
set_option maxRecDepth 100000
set_option maxHeartbeats 8000000
namespace G
open PySem PySem.Spec PyProof.Rows L2 LamX
/-! ## defs put together -/
section
variable {P : Program} {w : World} {K : PySem.W.Frag} {mg : Str → Option Value} {base : Heap}
theorem binds_k {x qual : Str} {params : Arguments} {body : List Stmt} {scope : Scope} {f : Addr} {fd : FuncData} {ps : List Str} {n : Nat} {ks : List Str} {ix : List Nat} (F : FunD K x qual params body scope [] [] f fd)
    (h : ∀ (kV doc pm : Value) (an : Option Addr) (cdv ct : Value) (us ws : List Value), us.length = n → ws.length = ks.length →
      bindArgs (PySem.W.fnOf x qual params body scope .none kV doc pm an cdv ct) ⟨us, ks.zip ws⟩ = pure (ps.zip (pick (us ++ ws) ix))) (s : Shared) (us ws : List Value) (l1 : us.length = n) (l2 : ws.length = ks.length) :
    BindsTo s fd ⟨us, ks.zip ws⟩ (ps.zip (pick (us ++ ws) ix)) := by
  obtain ⟨oc, od, dV, kV, doc, pm, an, cdv, ct, osl, rfl, lk, hcd, hD, hK⟩ := F.ex
  rcases hD with ⟨_, rfl⟩ | ⟨e, _⟩
  · exact .of_eq (h kV doc pm an cdv ct us ws l1 l2)
  · exact absurd rfl e
theorem mk_fn {x : Str} {params : Arguments} {body : List Stmt} {scope : Scope} {f : Addr} {fd : FuncData} {N ps : List Str} {n : Nat} {ks : List Str} {ix : List Nat} {k : Nat} {S' : SpG} (S : Acts → List V → Hp → VK → XK → Prop)
    (F : FunD K x x params body scope [] [] f fd) (gx : mg x = some (.ref f)) (Sc : FnScope N ps scope)
    (hb : ∀ (kV doc pm : Value) (an : Option Addr) (cdv ct : Value) (us ws : List Value), us.length = n → ws.length = ks.length →
      bindArgs (PySem.W.fnOf x x params body scope .none kV doc pm an cdv ct) ⟨us, ks.zip ws⟩ = pure (ps.zip (pick (us ++ ws) ix)))
    (m : Md) (hm : MdOk K mg m) (fl : List FnE) (hfl : ∀ e ∈ fl, FnEOk P w K mg base k e) (ta : Bool) (hta : ta = true → lamRoom ≤ k) (T : List (Addr × Str)) (pt : Option Addr) (hP : ∀ p, pt = some p → TabOk K mg base f (x ++ ".<locals>.") T p)
    (t : List (Str × Addr) → Acts → XK → TS) (eq : ∀ (cells : List (Str × Addr)) (acts : Acts) (E : XK), wSL (wS K 40 (gam m N fl (fun g tl => ta = true ∧ acts g tl) (x ++ ".<locals>.") cells T pt) scope (fun cls d _ H' => E cls d H')) body = t cells acts E)
    (ok : ∀ (cells : List (Str × Addr)) (acts : Acts) (vs : List V) (H : Hp) (Q : VK) (E : XK), S acts vs H Q E → vs.length = ps.length ∧ t cells acts E ⟨fun _ H' => Q .non H', Q, fun _ _ => False, fun _ _ => False⟩ (L2.start N vs) H)
    (hi : ∀ acts vs zs H Q E, vs.length = n → zs.length = ks.length → S' acts vs zs H Q E → S acts (pick (vs ++ zs) ix) H Q E) : FnEOk P w K mg base (k + 1) ⟨x, n, ks, k + 1, S'⟩ := by
  refine ⟨Nat.le_refl _, f, gx, F.kp, ?_⟩
  refine FnS.imp (fn_rule (ix := ix) (S := S) F Sc (fun s us ws l1 l2 => binds_k F hb s us ws l1 l2) m hm fl hfl ta hta T pt hP 40 fun cells acts vs H Q E h => ?_) hi
  have z := ok cells acts vs H Q E h
  refine ⟨z.1, ?_⟩
  rw [eq cells acts E]
  exact z.2
end
/-! ## an exception class's facts, as a Bool -/
def exB (K : PySem.W.Frag) (D : Addr) : Bool := He.eqO (PySem.W.findIn K (.ref D) "__getattribute__") (some (some (.builtin "BaseException.__getattribute__"))) && (He.eqO (PySem.W.findIn K (.ref D) "__getattr__") (some none) &&
  (decide (PySem.W.subIn K (.ref D) (.type "BaseException") = some true) && (PySem.W.hasDictIn K D && (He.eqO (PySem.W.findIn K (.ref D) "__class__") (some (some (.builtin "object.__class__"))) &&
  (He.eqO (PySem.W.specialIn K (.builtin "object.__class__") "__get__") (some (some (.builtin "getset_descriptor.__get__"))) && (decide (PySem.W.takesIn K (.builtin "object.__class__") = some true) && (decide (PySem.W.mroIn K D (.type "object") = some true) &&
  decide (PySem.W.kitOne K (.ref D) (.ref D) = some true))))))))
theorem exB_ok {K : PySem.W.Frag} {D : Addr} (h : exB K D = true) : ExcC K D ∧ PySem.W.kitOne K (.ref D) (.ref D) = some true := by
  obtain ⟨h1, h⟩ := He.ba h
  obtain ⟨h2, h⟩ := He.ba h
  obtain ⟨h3, h⟩ := He.ba h
  obtain ⟨h4, h⟩ := He.ba h
  obtain ⟨h5, h⟩ := He.ba h
  obtain ⟨h6, h⟩ := He.ba h
  obtain ⟨h7, h⟩ := He.ba h
  obtain ⟨h8, h9⟩ := He.ba h
  exact ⟨⟨He.eqO_ok h1, He.eqO_ok h2, of_decide_eq_true h3, h4, He.eqO_ok h5, He.eqO_ok h6, of_decide_eq_true h7, of_decide_eq_true h8⟩, of_decide_eq_true h9⟩
/-- where a def's lambdas are kept, by the head's facts -/
theorem tab_ok {K : PySem.W.Frag} {mg : Str → Option Value} {base : Heap} {x qual : Str} {params : Arguments} {body : List Stmt} {scope : Scope} {dvs : List V} {kws : List (Str × V)} {q : Str × Option Str} {fd : FuncData} {T : List (Addr × Str)} {lq : Str}
    (F : FunD K x qual params body scope dvs kws (He.fAd K q) fd) (tb : TabB base mg (He.cT K q).1 (He.cT K q).2) (hT : ((He.cT K q).2, lq ++ "<lambda>") ∈ T) (hu : ∀ r ∈ T, r.1 = (He.cT K q).2 → r.2 = lq ++ "<lambda>") : TabOk K mg base (He.fAd K q) lq T (He.cT K q).2 := by
  obtain ⟨oc, od, dV, kV, doc, pm, an, cdv, ct, osl, rfl, lk, hcd, hD, hK⟩ := F.ex
  obtain ⟨c, rfl⟩ := He.codeIn_ref hcd
  have e : He.codeOf K q = c := He.codeOf_eq lk rfl
  refine ⟨c, fun oc' od' fd' sl' lk' => ?_, ?_, hT, hu⟩
  · rw [lk] at lk'
    cases lk'
    rfl
  · have e2 : (He.cT K q).1 = c := e
    rw [e2] at tb
    exact tb
theorem hi_draw {acts : Acts} {vs zs : List V} {H : Hp} {Q : VK} {E : XK} (h : spDraw acts vs zs H Q E) : spDraw acts (pick (vs ++ zs) [0, 1]) [] H Q E := by
  obtain ⟨st, La, Ca, n, t, e, r⟩ := h
  exact ⟨st, La, Ca, n, t, by rw [e]; rfl, r⟩
theorem hi_pick {acts : Acts} {vs zs : List V} {H : Hp} {Q : VK} {E : XK} (h : spPick acts vs zs H Q E) : spPick acts (pick (vs ++ zs) [0, 1]) [] H Q E := by
  obtain ⟨st, La, Ca, t, a, xs, e, r⟩ := h
  exact ⟨st, La, Ca, t, a, xs, by rw [e]; rfl, r⟩
theorem hi_begun {K : PySem.W.Frag} {acts : Acts} {vs zs : List V} {H : Hp} {Q : VK} {E : XK} (h : spBegun K acts vs zs H Q E) : spBegun K acts (pick (vs ++ zs) [0]) [] H Q E := by
  obtain ⟨a, ys, e, r⟩ := h
  exact ⟨a, ys, by rw [e]; rfl, r⟩
theorem hi_caught {K : PySem.W.Frag} {acts : Acts} {vs zs : List V} {H : Hp} {Q : VK} {E : XK} (h : spCaught K acts vs zs H Q E) : spCaught K acts (pick (vs ++ zs) [0]) [] H Q E := by
  obtain ⟨f, tl, e, r⟩ := h
  exact ⟨f, tl, by rw [e]; rfl, r⟩
theorem ln_draw {acts : Acts} {vs : List V} {H : Hp} {Q : VK} {E : XK} (h : spDraw acts vs [] H Q E) : vs.length = 2 := by
  obtain ⟨st, La, Ca, n, t, e, r⟩ := h
  rw [List.append_nil] at e
  rw [e]
  rfl
theorem ln_pick {acts : Acts} {vs : List V} {H : Hp} {Q : VK} {E : XK} (h : spPick acts vs [] H Q E) : vs.length = 2 := by
  obtain ⟨st, La, Ca, t, a, xs, e, r⟩ := h
  rw [List.append_nil] at e
  rw [e]
  rfl
theorem ln_begun {K : PySem.W.Frag} {acts : Acts} {vs : List V} {H : Hp} {Q : VK} {E : XK} (h : spBegun K acts vs [] H Q E) : vs.length = 1 := by
  obtain ⟨a, ys, e, r⟩ := h
  rw [List.append_nil] at e
  rw [e]
  rfl
theorem ln_caught {K : PySem.W.Frag} {acts : Acts} {vs : List V} {H : Hp} {Q : VK} {E : XK} (h : spCaught K acts vs [] H Q E) : vs.length = 1 := by
  obtain ⟨f, tl, e, r⟩ := h
  rw [List.append_nil] at e
  rw [e]
  rfl
end G

set_option Elab.async false
set_option linter.all false
set_option maxRecDepth 100000
set_option maxHeartbeats 8000000
namespace K01
open PySem PySem.Spec PyProof.Rows L2 LamX G Pk
def d_is_number : He.DefD := ⟨("is_number", none), "is_number", "is_number", defArgs st_is_number, defBody st_is_number, defScope st_is_number, [], []⟩
def d_is_between : He.DefD := ⟨("is_between", none), "is_between", "is_between", defArgs st_is_between, defBody st_is_between, defScope st_is_between, [], []⟩
def d_is_told : He.DefD := ⟨("is_told", none), "is_told", "is_told", defArgs st_is_told, defBody st_is_told, defScope st_is_told, [], []⟩
def d_is_bits : He.DefD := ⟨("is_bits", none), "is_bits", "is_bits", defArgs st_is_bits, defBody st_is_bits, defScope st_is_bits, [], []⟩
def d_need_told : He.DefD := ⟨("need_told", none), "need_told", "need_told", defArgs st_need_told, defBody st_need_told, defScope st_need_told, [], []⟩
def d_need_grade : He.DefD := ⟨("need_grade", none), "need_grade", "need_grade", defArgs st_need_grade, defBody st_need_grade, defScope st_need_grade, [], []⟩
def d_need_many : He.DefD := ⟨("need_many", none), "need_many", "need_many", defArgs st_need_many, defBody st_need_many, defScope st_need_many, [], []⟩
def d_fold : He.DefD := ⟨("fold", none), "fold", "fold", defArgs st_fold, defBody st_fold, defScope st_fold, [], []⟩
def d_unfold : He.DefD := ⟨("unfold", none), "unfold", "unfold", defArgs st_unfold, defBody st_unfold, defScope st_unfold, [], []⟩
def d_folded : He.DefD := ⟨("folded", none), "folded", "folded", defArgs st_folded, defBody st_folded, defScope st_folded, [], []⟩
def d_unfolded : He.DefD := ⟨("unfolded", none), "unfolded", "unfolded", defArgs st_unfolded, defBody st_unfolded, defScope st_unfolded, [], []⟩
def d_in_twos : He.DefD := ⟨("in_twos", none), "in_twos", "in_twos", defArgs st_in_twos, defBody st_in_twos, defScope st_in_twos, [], []⟩
def d_fixed_bits : He.DefD := ⟨("fixed_bits", none), "fixed_bits", "fixed_bits", defArgs st_fixed_bits, defBody st_fixed_bits, defScope st_fixed_bits, [], []⟩
def d_long_word : He.DefD := ⟨("long_word", none), "long_word", "long_word", defArgs st_long_word, defBody st_long_word, defScope st_long_word, [], []⟩
def d_long_bits : He.DefD := ⟨("long_bits", none), "long_bits", "long_bits", defArgs st_long_bits, defBody st_long_bits, defScope st_long_bits, [], []⟩
def d_grade_word : He.DefD := ⟨("grade_word", none), "grade_word", "grade_word", defArgs st_grade_word, defBody st_grade_word, defScope st_grade_word, [], []⟩
def d_grade_bits : He.DefD := ⟨("grade_bits", none), "grade_bits", "grade_bits", defArgs st_grade_bits, defBody st_grade_bits, defScope st_grade_bits, [], []⟩
def d__law_begun : He.DefD := ⟨("_law_begun", none), "_law_begun", "_law_begun", defArgs st__law_begun, defBody st__law_begun, defScope st__law_begun, [], []⟩
def d__law_draw : He.DefD := ⟨("_law_draw", none), "_law_draw", "_law_draw", defArgs st__law_draw, defBody st__law_draw, defScope st__law_draw, [], []⟩
def d__law_pick : He.DefD := ⟨("_law_pick", none), "_law_pick", "_law_pick", defArgs st__law_pick, defBody st__law_pick, defScope st__law_pick, [], []⟩
def d__law_caught : He.DefD := ⟨("_law_caught", none), "_law_caught", "_law_caught", defArgs st__law_caught, defBody st__law_caught, defScope st__law_caught, [], []⟩
def d__law_two : He.DefD := ⟨("_law_two", none), "_law_two", "_law_two", defArgs st__law_two, defBody st__law_two, defScope st__law_two, [], []⟩
def d__law_fold : He.DefD := ⟨("_law_fold", none), "_law_fold", "_law_fold", defArgs st__law_fold, defBody st__law_fold, defScope st__law_fold, [], []⟩
def d__law_twos : He.DefD := ⟨("_law_twos", none), "_law_twos", "_law_twos", defArgs st__law_twos, defBody st__law_twos, defScope st__law_twos, [], []⟩
def d__law_long : He.DefD := ⟨("_law_long", none), "_law_long", "_law_long", defArgs st__law_long, defBody st__law_long, defScope st__law_long, [], []⟩
def d__law_graded : He.DefD := ⟨("_law_graded", none), "_law_graded", "_law_graded", defArgs st__law_graded, defBody st__law_graded, defScope st__law_graded, [], []⟩
def d__law_item : He.DefD := ⟨("_law_item", none), "_law_item", "_law_item", defArgs st__law_item, defBody st__law_item, defScope st__law_item, [], []⟩
def d__law_refused : He.DefD := ⟨("_law_refused", none), "_law_refused", "_law_refused", defArgs st__law_refused, defBody st__law_refused, defScope st__law_refused, [], []⟩
def d_law : He.DefD := ⟨("law", none), "law", "law", defArgs st_law, defBody st_law, defScope st_law, [], []⟩
def fn : List He.DefD := [d_is_number, d_is_between, d_is_told, d_is_bits, d_need_told, d_need_grade, d_need_many, d_fold, d_unfold, d_folded, d_unfolded, d_in_twos, d_fixed_bits, d_long_word, d_long_bits, d_grade_word, d_grade_bits, d__law_begun, d__law_draw, d__law_pick, d__law_caught, d__law_two, d__law_fold, d__law_twos, d__law_long, d__law_graded, d__law_item, d__law_refused, d_law]
def fa : List He.Fa := [.glo "is_number", .glo "is_between", .glo "is_told", .glo "is_bits", .glo "need_told", .glo "need_grade", .glo "need_many", .glo "fold", .glo "unfold", .glo "folded", .glo "unfolded", .glo "in_twos", .glo "fixed_bits", .glo "long_word", .glo "long_bits", .glo "grade_word", .glo "grade_bits", .glo "_law_begun", .glo "_law_draw", .glo "_law_pick", .glo "_law_caught", .glo "_law_two", .glo "_law_fold", .glo "_law_twos", .glo "_law_long", .glo "_law_graded", .glo "_law_item", .glo "_law_refused", .glo "law", .free "abs", .free "bool", .free "int", .free "isinstance", .free "len", .free "min", .free "range", .free "repr", .free "str", .glo "BadGrade", .glo "BadMany", .glo "BadNumber", .int "MANY_ONES" 12, .int "MOST_FIXED" 16, .int "MOST_FOLDED" 65534, .int "MOST_GRADE" 7, .int "MOST_TOLD" 32767, .glo "ReelError", .exc "BadGrade", .exc "BadMany", .exc "BadNumber", .exc "ReelError", .exm "BadNumber" "ReelError" true, .exm "BadGrade" "ReelError" true, .exm "BadMany" "ReelError" true]
structure Ctx (P : Program) (w : World) (K : PySem.W.Frag) (mg : Str → Option Value) (base : Heap) : Prop where
  m : MdOk K mg (mdOf K)
  d : He.SaysD fa fn K
  g : ∀ (i : Nat) (x : Str), fa[i]? = some (.glo x) → mg x = some (.ref (He.ga K x))
  c1 : Ck K "BadNumber"
  c2 : Ck K "BadGrade"
  c3 : Ck K "BadMany"
  tb : TabB base mg (He.cT K ("_law_refused", none)).1 (He.cT K ("_law_refused", none)).2

theorem md_ok {K : PySem.W.Frag} {h : Heap} {mg : Str → Option Value} (X : K.In h) (G : h.Ns mainGlobals mg) (c : He.SaysD fa fn K) : MdOk K mg (mdOf K) where
  free := by
    intro x hx
    simp only [mdOf, List.mem_cons, List.not_mem_nil, or_false] at hx
    rcases hx with rfl | rfl | rfl | rfl | rfl | rfl | rfl | rfl | rfl
    · exact He.free_ok X G (c.fact 29 (f := .free "abs") rfl)
    · exact He.free_ok X G (c.fact 30 (f := .free "bool") rfl)
    · exact He.free_ok X G (c.fact 31 (f := .free "int") rfl)
    · exact He.free_ok X G (c.fact 32 (f := .free "isinstance") rfl)
    · exact He.free_ok X G (c.fact 33 (f := .free "len") rfl)
    · exact He.free_ok X G (c.fact 34 (f := .free "min") rfl)
    · exact He.free_ok X G (c.fact 35 (f := .free "range") rfl)
    · exact He.free_ok X G (c.fact 36 (f := .free "repr") rfl)
    · exact He.free_ok X G (c.fact 37 (f := .free "str") rfl)
  gv := by
    intro p hp
    simp only [mdOf, List.mem_cons, List.not_mem_nil, or_false] at hp
    rcases hp with rfl | rfl | rfl | rfl | rfl | rfl | rfl | rfl
    · exact ⟨_, He.glo_ok X G (c.fact 38 (f := .glo "BadGrade") rfl), rfl⟩
    · exact ⟨_, He.glo_ok X G (c.fact 39 (f := .glo "BadMany") rfl), rfl⟩
    · exact ⟨_, He.glo_ok X G (c.fact 40 (f := .glo "BadNumber") rfl), rfl⟩
    · obtain ⟨t, e⟩ := He.int_ok X G (c.fact 41 (f := .int "MANY_ONES" 12) rfl)
      exact ⟨_, e, t, rfl⟩
    · obtain ⟨t, e⟩ := He.int_ok X G (c.fact 42 (f := .int "MOST_FIXED" 16) rfl)
      exact ⟨_, e, t, rfl⟩
    · obtain ⟨t, e⟩ := He.int_ok X G (c.fact 43 (f := .int "MOST_FOLDED" 65534) rfl)
      exact ⟨_, e, t, rfl⟩
    · obtain ⟨t, e⟩ := He.int_ok X G (c.fact 44 (f := .int "MOST_GRADE" 7) rfl)
      exact ⟨_, e, t, rfl⟩
    · obtain ⟨t, e⟩ := He.int_ok X G (c.fact 45 (f := .int "MOST_TOLD" 32767) rfl)
      exact ⟨_, e, t, rfl⟩
  exc := by
    intro p hp
    simp only [mdOf, List.mem_cons, List.not_mem_nil, or_false] at hp
    rcases hp with rfl | rfl | rfl | rfl
    · exact ⟨He.glo_ok X G (c.fact 38 (f := .glo "BadGrade") rfl), He.exc_ok (c.fact 47 (f := .exc "BadGrade") rfl)⟩
    · exact ⟨He.glo_ok X G (c.fact 39 (f := .glo "BadMany") rfl), He.exc_ok (c.fact 48 (f := .exc "BadMany") rfl)⟩
    · exact ⟨He.glo_ok X G (c.fact 40 (f := .glo "BadNumber") rfl), He.exc_ok (c.fact 49 (f := .exc "BadNumber") rfl)⟩
    · exact ⟨He.glo_ok X G (c.fact 46 (f := .glo "ReelError") rfl), He.exc_ok (c.fact 50 (f := .exc "ReelError") rfl)⟩
section
variable {P : Program} {w : World} {K : PySem.W.Frag} {mg : Str → Option Value} {base : Heap}
theorem fs_is_number (c : Ctx P w K mg base) : FnEOk P w K mg base 1 ⟨"is_number", 1, [], 1, S_is_number K⟩ := by
  obtain ⟨fd, F⟩ := c.d.def_ 0 (d := d_is_number) rfl
  exact mk_fn (ix := [0]) (fun _ vs H Q E => sp_is_number vs H Q E) F (c.g 0 _ rfl) sc_is_number (fun _ _ _ _ _ _ us ws h1 h2 => match us, ws, h1, h2 with | [_], [], _, _ => rfl) (mdOf K) c.m (fl_is_number K) (fun _ z => nomatch z) false (fun z => nomatch z) (TT K) none (fun _ z => nomatch z) (fun cells acts E => t_is_number K cells acts (TT K) none (fun cls d _ H' => E cls d H')) (fun cells acts E => eq_is_number K cells acts (TT K)  _) (fun cells acts vs H Q E h => ok_is_number  h) (fun _ _ _ _ _ _ _ _ h => h)
theorem fs_is_between (c : Ctx P w K mg base) : FnEOk P w K mg base 2 ⟨"is_between", 3, [], 2, S_is_between K⟩ := by
  obtain ⟨fd, F⟩ := c.d.def_ 1 (d := d_is_between) rfl
  exact mk_fn (ix := [0, 1, 2]) (fun _ vs H Q E => sp_is_between vs H Q E) F (c.g 1 _ rfl) sc_is_between (fun _ _ _ _ _ _ us ws h1 h2 => match us, ws, h1, h2 with | [_, _, _], [], _, _ => rfl) (mdOf K) c.m (fl_is_between K) (List.forall_mem_cons.mpr ⟨(fs_is_number c).mono (by decide), (fun _ z => nomatch z)⟩) false (fun z => nomatch z) (TT K) none (fun _ z => nomatch z) (fun cells acts E => t_is_between K cells acts (TT K) none (fun cls d _ H' => E cls d H')) (fun cells acts E => eq_is_between K cells acts (TT K)  _) (fun cells acts vs H Q E h => ok_is_between  h) (fun _ _ _ _ _ _ _ _ h => h)
theorem fs_is_told (c : Ctx P w K mg base) : FnEOk P w K mg base 3 ⟨"is_told", 1, [], 3, S_is_told K⟩ := by
  obtain ⟨fd, F⟩ := c.d.def_ 2 (d := d_is_told) rfl
  exact mk_fn (ix := [0]) (fun _ vs H Q E => sp_is_told vs H Q E) F (c.g 2 _ rfl) sc_is_told (fun _ _ _ _ _ _ us ws h1 h2 => match us, ws, h1, h2 with | [_], [], _, _ => rfl) (mdOf K) c.m (fl_is_told K) (List.forall_mem_cons.mpr ⟨(fs_is_between c).mono (by decide), (fun _ z => nomatch z)⟩) false (fun z => nomatch z) (TT K) none (fun _ z => nomatch z) (fun cells acts E => t_is_told K cells acts (TT K) none (fun cls d _ H' => E cls d H')) (fun cells acts E => eq_is_told K cells acts (TT K)  _) (fun cells acts vs H Q E h => ok_is_told  h) (fun _ _ _ _ _ _ _ _ h => h)
theorem fs_is_bits (c : Ctx P w K mg base) : FnEOk P w K mg base 1 ⟨"is_bits", 1, [], 1, S_is_bits K⟩ := by
  obtain ⟨fd, F⟩ := c.d.def_ 3 (d := d_is_bits) rfl
  exact mk_fn (ix := [0]) (fun _ vs H Q E => sp_is_bits vs H Q E) F (c.g 3 _ rfl) sc_is_bits (fun _ _ _ _ _ _ us ws h1 h2 => match us, ws, h1, h2 with | [_], [], _, _ => rfl) (mdOf K) c.m (fl_is_bits K) (fun _ z => nomatch z) false (fun z => nomatch z) (TT K) none (fun _ z => nomatch z) (fun cells acts E => t_is_bits K cells acts (TT K) none (fun cls d _ H' => E cls d H')) (fun cells acts E => eq_is_bits K cells acts (TT K)  _) (fun cells acts vs H Q E h => ok_is_bits  h) (fun _ _ _ _ _ _ _ _ h => h)
theorem fs_is_bits_k0_thing (c : Ctx P w K mg base) : FnEOk P w K mg base 1 ⟨"is_bits", 0, ["thing"], 1, S_is_bits_k0_thing K⟩ := by
  obtain ⟨fd, F⟩ := c.d.def_ 3 (d := d_is_bits) rfl
  exact mk_fn (ix := [0]) (fun _ vs H Q E => sp_is_bits vs H Q E) F (c.g 3 _ rfl) sc_is_bits (fun _ _ _ _ _ _ us ws h1 h2 => match us, ws, h1, h2 with | [], [_], _, _ => rfl) (mdOf K) c.m (fl_is_bits K) (fun _ z => nomatch z) false (fun z => nomatch z) (TT K) none (fun _ z => nomatch z) (fun cells acts E => t_is_bits K cells acts (TT K) none (fun cls d _ H' => E cls d H')) (fun cells acts E => eq_is_bits K cells acts (TT K)  _) (fun cells acts vs H Q E h => ok_is_bits  h) (fun _ _ _ _ _ _ _ _ h => h)
theorem fs_need_told (c : Ctx P w K mg base) : FnEOk P w K mg base 4 ⟨"need_told", 1, [], 4, S_need_told K⟩ := by
  obtain ⟨fd, F⟩ := c.d.def_ 4 (d := d_need_told) rfl
  exact mk_fn (ix := [0]) (fun _ vs H Q E => sp_need K "BadNumber" (-32767) 32767 vs H Q E) F (c.g 4 _ rfl) sc_need_told (fun _ _ _ _ _ _ us ws h1 h2 => match us, ws, h1, h2 with | [_], [], _, _ => rfl) (mdOf K) c.m (fl_need_told K) (List.forall_mem_cons.mpr ⟨(fs_is_told c).mono (by decide), (fun _ z => nomatch z)⟩) false (fun z => nomatch z) (TT K) none (fun _ z => nomatch z) (fun cells acts E => t_need_told K cells acts (TT K) none (fun cls d _ H' => E cls d H')) (fun cells acts E => eq_need_told K cells acts (TT K)  _) (fun cells acts vs H Q E h => ok_need_told  h) (fun _ _ _ _ _ _ _ _ h => h)
theorem fs_need_grade (c : Ctx P w K mg base) : FnEOk P w K mg base 3 ⟨"need_grade", 1, [], 3, S_need_grade K⟩ := by
  obtain ⟨fd, F⟩ := c.d.def_ 5 (d := d_need_grade) rfl
  exact mk_fn (ix := [0]) (fun _ vs H Q E => sp_need K "BadGrade" 0 7 vs H Q E) F (c.g 5 _ rfl) sc_need_grade (fun _ _ _ _ _ _ us ws h1 h2 => match us, ws, h1, h2 with | [_], [], _, _ => rfl) (mdOf K) c.m (fl_need_grade K) (List.forall_mem_cons.mpr ⟨(fs_is_between c).mono (by decide), (fun _ z => nomatch z)⟩) false (fun z => nomatch z) (TT K) none (fun _ z => nomatch z) (fun cells acts E => t_need_grade K cells acts (TT K) none (fun cls d _ H' => E cls d H')) (fun cells acts E => eq_need_grade K cells acts (TT K)  _) (fun cells acts vs H Q E h => ok_need_grade  h) (fun _ _ _ _ _ _ _ _ h => h)
theorem fs_need_many (c : Ctx P w K mg base) : FnEOk P w K mg base 3 ⟨"need_many", 1, [], 3, S_need_many K⟩ := by
  obtain ⟨fd, F⟩ := c.d.def_ 6 (d := d_need_many) rfl
  exact mk_fn (ix := [0]) (fun _ vs H Q E => sp_need K "BadMany" 1 16 vs H Q E) F (c.g 6 _ rfl) sc_need_many (fun _ _ _ _ _ _ us ws h1 h2 => match us, ws, h1, h2 with | [_], [], _, _ => rfl) (mdOf K) c.m (fl_need_many K) (List.forall_mem_cons.mpr ⟨(fs_is_between c).mono (by decide), (fun _ z => nomatch z)⟩) false (fun z => nomatch z) (TT K) none (fun _ z => nomatch z) (fun cells acts E => t_need_many K cells acts (TT K) none (fun cls d _ H' => E cls d H')) (fun cells acts E => eq_need_many K cells acts (TT K)  _) (fun cells acts vs H Q E h => ok_need_many  h) (fun _ _ _ _ _ _ _ _ h => h)
theorem fs_fold (c : Ctx P w K mg base) : FnEOk P w K mg base 1 ⟨"fold", 1, [], 1, S_fold K⟩ := by
  obtain ⟨fd, F⟩ := c.d.def_ 7 (d := d_fold) rfl
  exact mk_fn (ix := [0]) (fun _ vs H Q E => sp_fold vs H Q E) F (c.g 7 _ rfl) sc_fold (fun _ _ _ _ _ _ us ws h1 h2 => match us, ws, h1, h2 with | [_], [], _, _ => rfl) (mdOf K) c.m (fl_fold K) (fun _ z => nomatch z) false (fun z => nomatch z) (TT K) none (fun _ z => nomatch z) (fun cells acts E => t_fold K cells acts (TT K) none (fun cls d _ H' => E cls d H')) (fun cells acts E => eq_fold K cells acts (TT K)  _) (fun cells acts vs H Q E h => ok_fold  h) (fun _ _ _ _ _ _ _ _ h => h)
theorem fs_unfold (c : Ctx P w K mg base) : FnEOk P w K mg base 1 ⟨"unfold", 1, [], 1, S_unfold K⟩ := by
  obtain ⟨fd, F⟩ := c.d.def_ 8 (d := d_unfold) rfl
  exact mk_fn (ix := [0]) (fun _ vs H Q E => sp_unfold vs H Q E) F (c.g 8 _ rfl) sc_unfold (fun _ _ _ _ _ _ us ws h1 h2 => match us, ws, h1, h2 with | [_], [], _, _ => rfl) (mdOf K) c.m (fl_unfold K) (fun _ z => nomatch z) false (fun z => nomatch z) (TT K) none (fun _ z => nomatch z) (fun cells acts E => t_unfold K cells acts (TT K) none (fun cls d _ H' => E cls d H')) (fun cells acts E => eq_unfold K cells acts (TT K)  _) (fun cells acts vs H Q E h => ok_unfold  h) (fun _ _ _ _ _ _ _ _ h => h)
theorem fs_folded (c : Ctx P w K mg base) : FnEOk P w K mg base 5 ⟨"folded", 1, [], 5, S_folded K⟩ := by
  obtain ⟨fd, F⟩ := c.d.def_ 9 (d := d_folded) rfl
  exact mk_fn (ix := [0]) (fun _ vs H Q E => sp_folded K vs H Q E) F (c.g 9 _ rfl) sc_folded (fun _ _ _ _ _ _ us ws h1 h2 => match us, ws, h1, h2 with | [_], [], _, _ => rfl) (mdOf K) c.m (fl_folded K) (List.forall_mem_cons.mpr ⟨(fs_need_told c).mono (by decide), (List.forall_mem_cons.mpr ⟨(fs_fold c).mono (by decide), (fun _ z => nomatch z)⟩)⟩) false (fun z => nomatch z) (TT K) none (fun _ z => nomatch z) (fun cells acts E => t_folded K cells acts (TT K) none (fun cls d _ H' => E cls d H')) (fun cells acts E => eq_folded K cells acts (TT K)  _) (fun cells acts vs H Q E h => ok_folded  h) (fun _ _ _ _ _ _ _ _ h => h)
theorem fs_folded_k0_number (c : Ctx P w K mg base) : FnEOk P w K mg base 5 ⟨"folded", 0, ["number"], 5, S_folded_k0_number K⟩ := by
  obtain ⟨fd, F⟩ := c.d.def_ 9 (d := d_folded) rfl
  exact mk_fn (ix := [0]) (fun _ vs H Q E => sp_folded K vs H Q E) F (c.g 9 _ rfl) sc_folded (fun _ _ _ _ _ _ us ws h1 h2 => match us, ws, h1, h2 with | [], [_], _, _ => rfl) (mdOf K) c.m (fl_folded K) (List.forall_mem_cons.mpr ⟨(fs_need_told c).mono (by decide), (List.forall_mem_cons.mpr ⟨(fs_fold c).mono (by decide), (fun _ z => nomatch z)⟩)⟩) false (fun z => nomatch z) (TT K) none (fun _ z => nomatch z) (fun cells acts E => t_folded K cells acts (TT K) none (fun cls d _ H' => E cls d H')) (fun cells acts E => eq_folded K cells acts (TT K)  _) (fun cells acts vs H Q E h => ok_folded  h) (fun _ _ _ _ _ _ _ _ h => h)
theorem fs_unfolded (c : Ctx P w K mg base) : FnEOk P w K mg base 3 ⟨"unfolded", 1, [], 3, S_unfolded K⟩ := by
  obtain ⟨fd, F⟩ := c.d.def_ 10 (d := d_unfolded) rfl
  exact mk_fn (ix := [0]) (fun _ vs H Q E => sp_unfolded K vs H Q E) F (c.g 10 _ rfl) sc_unfolded (fun _ _ _ _ _ _ us ws h1 h2 => match us, ws, h1, h2 with | [_], [], _, _ => rfl) (mdOf K) c.m (fl_unfolded K) (List.forall_mem_cons.mpr ⟨(fs_is_between c).mono (by decide), (List.forall_mem_cons.mpr ⟨(fs_unfold c).mono (by decide), (fun _ z => nomatch z)⟩)⟩) false (fun z => nomatch z) (TT K) none (fun _ z => nomatch z) (fun cells acts E => t_unfolded K cells acts (TT K) none (fun cls d _ H' => E cls d H')) (fun cells acts E => eq_unfolded K cells acts (TT K)  _) (fun cells acts vs H Q E h => ok_unfolded  h) (fun _ _ _ _ _ _ _ _ h => h)
theorem fs_unfolded_k0_number (c : Ctx P w K mg base) : FnEOk P w K mg base 3 ⟨"unfolded", 0, ["number"], 3, S_unfolded_k0_number K⟩ := by
  obtain ⟨fd, F⟩ := c.d.def_ 10 (d := d_unfolded) rfl
  exact mk_fn (ix := [0]) (fun _ vs H Q E => sp_unfolded K vs H Q E) F (c.g 10 _ rfl) sc_unfolded (fun _ _ _ _ _ _ us ws h1 h2 => match us, ws, h1, h2 with | [], [_], _, _ => rfl) (mdOf K) c.m (fl_unfolded K) (List.forall_mem_cons.mpr ⟨(fs_is_between c).mono (by decide), (List.forall_mem_cons.mpr ⟨(fs_unfold c).mono (by decide), (fun _ z => nomatch z)⟩)⟩) false (fun z => nomatch z) (TT K) none (fun _ z => nomatch z) (fun cells acts E => t_unfolded K cells acts (TT K) none (fun cls d _ H' => E cls d H')) (fun cells acts E => eq_unfolded K cells acts (TT K)  _) (fun cells acts vs H Q E h => ok_unfolded  h) (fun _ _ _ _ _ _ _ _ h => h)
theorem fs_in_twos (c : Ctx P w K mg base) : FnEOk P w K mg base 1 ⟨"in_twos", 2, [], 1, S_in_twos K⟩ := by
  obtain ⟨fd, F⟩ := c.d.def_ 11 (d := d_in_twos) rfl
  exact mk_fn (ix := [0, 1]) (fun _ vs H Q E => sp_in_twos vs H Q E) F (c.g 11 _ rfl) sc_in_twos (fun _ _ _ _ _ _ us ws h1 h2 => match us, ws, h1, h2 with | [_, _], [], _, _ => rfl) (mdOf K) c.m (fl_in_twos K) (fun _ z => nomatch z) false (fun z => nomatch z) (TT K) none (fun _ z => nomatch z) (fun cells acts E => t_in_twos K cells acts (TT K) none (fun cls d _ H' => E cls d H')) (fun cells acts E => eq_in_twos K cells acts (TT K)  _) (fun cells acts vs H Q E h => ok_in_twos  h) (fun _ _ _ _ _ _ _ _ h => h)
theorem fs_fixed_bits (c : Ctx P w K mg base) : FnEOk P w K mg base 4 ⟨"fixed_bits", 2, [], 4, S_fixed_bits K⟩ := by
  obtain ⟨fd, F⟩ := c.d.def_ 12 (d := d_fixed_bits) rfl
  exact mk_fn (ix := [0, 1]) (fun _ vs H Q E => sp_fixed_bits K vs H Q E) F (c.g 12 _ rfl) sc_fixed_bits (fun _ _ _ _ _ _ us ws h1 h2 => match us, ws, h1, h2 with | [_, _], [], _, _ => rfl) (mdOf K) c.m (fl_fixed_bits K) (List.forall_mem_cons.mpr ⟨(fs_need_many c).mono (by decide), (List.forall_mem_cons.mpr ⟨(fs_is_between c).mono (by decide), (List.forall_mem_cons.mpr ⟨(fs_in_twos c).mono (by decide), (fun _ z => nomatch z)⟩)⟩)⟩) false (fun z => nomatch z) (TT K) none (fun _ z => nomatch z) (fun cells acts E => t_fixed_bits K cells acts (TT K) none (fun cls d _ H' => E cls d H')) (fun cells acts E => eq_fixed_bits K cells acts (TT K)  _) (fun cells acts vs H Q E h => ok_fixed_bits  h) (fun _ _ _ _ _ _ _ _ h => h)
theorem fs_fixed_bits_k0_many_number (c : Ctx P w K mg base) : FnEOk P w K mg base 4 ⟨"fixed_bits", 0, ["many", "number"], 4, S_fixed_bits_k0_many_number K⟩ := by
  obtain ⟨fd, F⟩ := c.d.def_ 12 (d := d_fixed_bits) rfl
  exact mk_fn (ix := [1, 0]) (fun _ vs H Q E => sp_fixed_bits K vs H Q E) F (c.g 12 _ rfl) sc_fixed_bits (fun _ _ _ _ _ _ us ws h1 h2 => match us, ws, h1, h2 with | [], [_, _], _, _ => rfl) (mdOf K) c.m (fl_fixed_bits K) (List.forall_mem_cons.mpr ⟨(fs_need_many c).mono (by decide), (List.forall_mem_cons.mpr ⟨(fs_is_between c).mono (by decide), (List.forall_mem_cons.mpr ⟨(fs_in_twos c).mono (by decide), (fun _ z => nomatch z)⟩)⟩)⟩) false (fun z => nomatch z) (TT K) none (fun _ z => nomatch z) (fun cells acts E => t_fixed_bits K cells acts (TT K) none (fun cls d _ H' => E cls d H')) (fun cells acts E => eq_fixed_bits K cells acts (TT K)  _) (fun cells acts vs H Q E h => ok_fixed_bits  h) (fun _ _ _ _ _ _ _ _ h => h)
theorem fs_long_word (c : Ctx P w K mg base) : FnEOk P w K mg base 2 ⟨"long_word", 1, [], 2, S_long_word K⟩ := by
  obtain ⟨fd, F⟩ := c.d.def_ 13 (d := d_long_word) rfl
  exact mk_fn (ix := [0]) (fun _ vs H Q E => sp_long_word vs H Q E) F (c.g 13 _ rfl) sc_long_word (fun _ _ _ _ _ _ us ws h1 h2 => match us, ws, h1, h2 with | [_], [], _, _ => rfl) (mdOf K) c.m (fl_long_word K) (List.forall_mem_cons.mpr ⟨(fs_fold c).mono (by decide), (List.forall_mem_cons.mpr ⟨(fs_in_twos c).mono (by decide), (fun _ z => nomatch z)⟩)⟩) false (fun z => nomatch z) (TT K) none (fun _ z => nomatch z) (fun cells acts E => t_long_word K cells acts (TT K) none (fun cls d _ H' => E cls d H')) (fun cells acts E => eq_long_word K cells acts (TT K)  _) (fun cells acts vs H Q E h => ok_long_word  h) (fun _ _ _ _ _ _ _ _ h => h)
theorem fs_long_bits (c : Ctx P w K mg base) : FnEOk P w K mg base 5 ⟨"long_bits", 1, [], 5, S_long_bits K⟩ := by
  obtain ⟨fd, F⟩ := c.d.def_ 14 (d := d_long_bits) rfl
  exact mk_fn (ix := [0]) (fun _ vs H Q E => sp_long_bits K vs H Q E) F (c.g 14 _ rfl) sc_long_bits (fun _ _ _ _ _ _ us ws h1 h2 => match us, ws, h1, h2 with | [_], [], _, _ => rfl) (mdOf K) c.m (fl_long_bits K) (List.forall_mem_cons.mpr ⟨(fs_need_told c).mono (by decide), (List.forall_mem_cons.mpr ⟨(fs_long_word c).mono (by decide), (fun _ z => nomatch z)⟩)⟩) false (fun z => nomatch z) (TT K) none (fun _ z => nomatch z) (fun cells acts E => t_long_bits K cells acts (TT K) none (fun cls d _ H' => E cls d H')) (fun cells acts E => eq_long_bits K cells acts (TT K)  _) (fun cells acts vs H Q E h => ok_long_bits  h) (fun _ _ _ _ _ _ _ _ h => h)
theorem fs_long_bits_k0_number (c : Ctx P w K mg base) : FnEOk P w K mg base 5 ⟨"long_bits", 0, ["number"], 5, S_long_bits_k0_number K⟩ := by
  obtain ⟨fd, F⟩ := c.d.def_ 14 (d := d_long_bits) rfl
  exact mk_fn (ix := [0]) (fun _ vs H Q E => sp_long_bits K vs H Q E) F (c.g 14 _ rfl) sc_long_bits (fun _ _ _ _ _ _ us ws h1 h2 => match us, ws, h1, h2 with | [], [_], _, _ => rfl) (mdOf K) c.m (fl_long_bits K) (List.forall_mem_cons.mpr ⟨(fs_need_told c).mono (by decide), (List.forall_mem_cons.mpr ⟨(fs_long_word c).mono (by decide), (fun _ z => nomatch z)⟩)⟩) false (fun z => nomatch z) (TT K) none (fun _ z => nomatch z) (fun cells acts E => t_long_bits K cells acts (TT K) none (fun cls d _ H' => E cls d H')) (fun cells acts E => eq_long_bits K cells acts (TT K)  _) (fun cells acts vs H Q E h => ok_long_bits  h) (fun _ _ _ _ _ _ _ _ h => h)
theorem fs_grade_word (c : Ctx P w K mg base) : FnEOk P w K mg base 2 ⟨"grade_word", 2, [], 2, S_grade_word K⟩ := by
  obtain ⟨fd, F⟩ := c.d.def_ 15 (d := d_grade_word) rfl
  exact mk_fn (ix := [0, 1]) (fun _ vs H Q E => sp_grade_word vs H Q E) F (c.g 15 _ rfl) sc_grade_word (fun _ _ _ _ _ _ us ws h1 h2 => match us, ws, h1, h2 with | [_, _], [], _, _ => rfl) (mdOf K) c.m (fl_grade_word K) (List.forall_mem_cons.mpr ⟨(fs_fold c).mono (by decide), (List.forall_mem_cons.mpr ⟨(fs_in_twos c).mono (by decide), (fun _ z => nomatch z)⟩)⟩) false (fun z => nomatch z) (TT K) none (fun _ z => nomatch z) (fun cells acts E => t_grade_word K cells acts (TT K) none (fun cls d _ H' => E cls d H')) (fun cells acts E => eq_grade_word K cells acts (TT K)  _) (fun cells acts vs H Q E h => ok_grade_word  h) (fun _ _ _ _ _ _ _ _ h => h)
theorem fs_grade_bits (c : Ctx P w K mg base) : FnEOk P w K mg base 5 ⟨"grade_bits", 2, [], 5, S_grade_bits K⟩ := by
  obtain ⟨fd, F⟩ := c.d.def_ 16 (d := d_grade_bits) rfl
  exact mk_fn (ix := [0, 1]) (fun _ vs H Q E => sp_grade_bits K vs H Q E) F (c.g 16 _ rfl) sc_grade_bits (fun _ _ _ _ _ _ us ws h1 h2 => match us, ws, h1, h2 with | [_, _], [], _, _ => rfl) (mdOf K) c.m (fl_grade_bits K) (List.forall_mem_cons.mpr ⟨(fs_need_told c).mono (by decide), (List.forall_mem_cons.mpr ⟨(fs_need_grade c).mono (by decide), (List.forall_mem_cons.mpr ⟨(fs_grade_word c).mono (by decide), (fun _ z => nomatch z)⟩)⟩)⟩) false (fun z => nomatch z) (TT K) none (fun _ z => nomatch z) (fun cells acts E => t_grade_bits K cells acts (TT K) none (fun cls d _ H' => E cls d H')) (fun cells acts E => eq_grade_bits K cells acts (TT K)  _) (fun cells acts vs H Q E h => ok_grade_bits  h) (fun _ _ _ _ _ _ _ _ h => h)
theorem fs_grade_bits_k0_grade_number (c : Ctx P w K mg base) : FnEOk P w K mg base 5 ⟨"grade_bits", 0, ["grade", "number"], 5, S_grade_bits_k0_grade_number K⟩ := by
  obtain ⟨fd, F⟩ := c.d.def_ 16 (d := d_grade_bits) rfl
  exact mk_fn (ix := [1, 0]) (fun _ vs H Q E => sp_grade_bits K vs H Q E) F (c.g 16 _ rfl) sc_grade_bits (fun _ _ _ _ _ _ us ws h1 h2 => match us, ws, h1, h2 with | [], [_, _], _, _ => rfl) (mdOf K) c.m (fl_grade_bits K) (List.forall_mem_cons.mpr ⟨(fs_need_told c).mono (by decide), (List.forall_mem_cons.mpr ⟨(fs_need_grade c).mono (by decide), (List.forall_mem_cons.mpr ⟨(fs_grade_word c).mono (by decide), (fun _ z => nomatch z)⟩)⟩)⟩) false (fun z => nomatch z) (TT K) none (fun _ z => nomatch z) (fun cells acts E => t_grade_bits K cells acts (TT K) none (fun cls d _ H' => E cls d H')) (fun cells acts E => eq_grade_bits K cells acts (TT K)  _) (fun cells acts vs H Q E h => ok_grade_bits  h) (fun _ _ _ _ _ _ _ _ h => h)
theorem fs__law_begun (c : Ctx P w K mg base) : FnEOk P w K mg base 1 ⟨"_law_begun", 1, [], 1, S__law_begun K⟩ := by
  obtain ⟨fd, F⟩ := c.d.def_ 17 (d := d__law_begun) rfl
  exact mk_fn (ix := [0]) (fun acts vs H Q E => spBegun K acts vs [] H Q E) F (c.g 17 _ rfl) sc__law_begun (fun _ _ _ _ _ _ us ws h1 h2 => match us, ws, h1, h2 with | [_], [], _, _ => rfl) (mdOf K) c.m (fl__law_begun K) (fun _ z => nomatch z) false (fun z => nomatch z) (TT K) none (fun _ z => nomatch z) (fun cells acts E => t__law_begun K cells acts (TT K) none (fun cls d _ H' => E cls d H')) (fun cells acts E => eq__law_begun K cells acts (TT K)  _) (fun cells acts vs H Q E h => ⟨ln_begun h, begun_ok rfl h⟩) (fun _ _ _ _ _ _ _ _ h => hi_begun h)
theorem fs__law_draw (c : Ctx P w K mg base) : FnEOk P w K mg base 1 ⟨"_law_draw", 2, [], 1, S__law_draw K⟩ := by
  obtain ⟨fd, F⟩ := c.d.def_ 18 (d := d__law_draw) rfl
  exact mk_fn (ix := [0, 1]) (fun acts vs H Q E => spDraw acts vs [] H Q E) F (c.g 18 _ rfl) sc__law_draw (fun _ _ _ _ _ _ us ws h1 h2 => match us, ws, h1, h2 with | [_, _], [], _, _ => rfl) (mdOf K) c.m (fl__law_draw K) (fun _ z => nomatch z) false (fun z => nomatch z) (TT K) none (fun _ z => nomatch z) (fun cells acts E => t__law_draw K cells acts (TT K) none (fun cls d _ H' => E cls d H')) (fun cells acts E => eq__law_draw K cells acts (TT K)  _) (fun cells acts vs H Q E h => ⟨ln_draw h, draw_ok rfl h⟩) (fun _ _ _ _ _ _ _ _ h => hi_draw h)
theorem fs__law_pick (c : Ctx P w K mg base) : FnEOk P w K mg base 2 ⟨"_law_pick", 2, [], 2, S__law_pick K⟩ := by
  obtain ⟨fd, F⟩ := c.d.def_ 19 (d := d__law_pick) rfl
  exact mk_fn (ix := [0, 1]) (fun acts vs H Q E => spPick acts vs [] H Q E) F (c.g 19 _ rfl) sc__law_pick (fun _ _ _ _ _ _ us ws h1 h2 => match us, ws, h1, h2 with | [_, _], [], _, _ => rfl) (mdOf K) c.m (fl__law_pick K) (List.forall_mem_cons.mpr ⟨(fs__law_draw c).mono (by decide), (fun _ z => nomatch z)⟩) false (fun z => nomatch z) (TT K) none (fun _ z => nomatch z) (fun cells acts E => t__law_pick K cells acts (TT K) none (fun cls d _ H' => E cls d H')) (fun cells acts E => eq__law_pick K cells acts (TT K)  _) (fun cells acts vs H Q E h => ⟨ln_pick h, pick_ok rfl h⟩) (fun _ _ _ _ _ _ _ _ h => hi_pick h)
theorem fs__law_caught (c : Ctx P w K mg base) : FnEOk P w K mg base 44 ⟨"_law_caught", 1, [], 44, S__law_caught K⟩ := by
  obtain ⟨fd, F⟩ := c.d.def_ 20 (d := d__law_caught) rfl
  exact mk_fn (ix := [0]) (fun acts vs H Q E => spCaught K acts vs [] H Q E) F (c.g 20 _ rfl) sc__law_caught (fun _ _ _ _ _ _ us ws h1 h2 => match us, ws, h1, h2 with | [_], [], _, _ => rfl) (mdOf K) c.m (fl__law_caught K) (fun _ z => nomatch z) true (fun _ => by decide) (TT K) none (fun _ z => nomatch z) (fun cells acts E => t__law_caught K cells acts (TT K) none (fun cls d _ H' => E cls d H')) (fun cells acts E => eq__law_caught K cells acts (TT K)  _) (fun cells acts vs H Q E h => ⟨ln_caught h, caught_ok rfl h⟩) (fun _ _ _ _ _ _ _ _ h => hi_caught h)
theorem fs__law_two (c : Ctx P w K mg base) : FnEOk P w K mg base 1 ⟨"_law_two", 1, [], 1, S__law_two K⟩ := by
  obtain ⟨fd, F⟩ := c.d.def_ 21 (d := d__law_two) rfl
  exact mk_fn (ix := [0]) (fun _ vs H Q E => sp_two vs H Q E) F (c.g 21 _ rfl) sc__law_two (fun _ _ _ _ _ _ us ws h1 h2 => match us, ws, h1, h2 with | [_], [], _, _ => rfl) (mdOf K) c.m (fl__law_two K) (fun _ z => nomatch z) false (fun z => nomatch z) (TT K) none (fun _ z => nomatch z) (fun cells acts E => t__law_two K cells acts (TT K) none (fun cls d _ H' => E cls d H')) (fun cells acts E => eq__law_two K cells acts (TT K)  _) (fun cells acts vs H Q E h => ok__law_two  h) (fun _ _ _ _ _ _ _ _ h => h)
theorem fs__law_fold (c : Ctx P w K mg base) : FnEOk P w K mg base 1 ⟨"_law_fold", 1, [], 1, S__law_fold K⟩ := by
  obtain ⟨fd, F⟩ := c.d.def_ 22 (d := d__law_fold) rfl
  exact mk_fn (ix := [0]) (fun _ vs H Q E => sp_fold vs H Q E) F (c.g 22 _ rfl) sc__law_fold (fun _ _ _ _ _ _ us ws h1 h2 => match us, ws, h1, h2 with | [_], [], _, _ => rfl) (mdOf K) c.m (fl__law_fold K) (fun _ z => nomatch z) false (fun z => nomatch z) (TT K) none (fun _ z => nomatch z) (fun cells acts E => t__law_fold K cells acts (TT K) none (fun cls d _ H' => E cls d H')) (fun cells acts E => eq__law_fold K cells acts (TT K)  _) (fun cells acts vs H Q E h => ok__law_fold  h) (fun _ _ _ _ _ _ _ _ h => h)
theorem fs__law_twos (c : Ctx P w K mg base) : FnEOk P w K mg base 1 ⟨"_law_twos", 2, [], 1, S__law_twos K⟩ := by
  obtain ⟨fd, F⟩ := c.d.def_ 23 (d := d__law_twos) rfl
  exact mk_fn (ix := [0, 1]) (fun _ vs H Q E => sp_in_twos vs H Q E) F (c.g 23 _ rfl) sc__law_twos (fun _ _ _ _ _ _ us ws h1 h2 => match us, ws, h1, h2 with | [_, _], [], _, _ => rfl) (mdOf K) c.m (fl__law_twos K) (fun _ z => nomatch z) false (fun z => nomatch z) (TT K) none (fun _ z => nomatch z) (fun cells acts E => t__law_twos K cells acts (TT K) none (fun cls d _ H' => E cls d H')) (fun cells acts E => eq__law_twos K cells acts (TT K)  _) (fun cells acts vs H Q E h => ok__law_twos  h) (fun _ _ _ _ _ _ _ _ h => h)
theorem fs__law_long (c : Ctx P w K mg base) : FnEOk P w K mg base 2 ⟨"_law_long", 1, [], 2, S__law_long K⟩ := by
  obtain ⟨fd, F⟩ := c.d.def_ 24 (d := d__law_long) rfl
  exact mk_fn (ix := [0]) (fun _ vs H Q E => sp_long_word vs H Q E) F (c.g 24 _ rfl) sc__law_long (fun _ _ _ _ _ _ us ws h1 h2 => match us, ws, h1, h2 with | [_], [], _, _ => rfl) (mdOf K) c.m (fl__law_long K) (List.forall_mem_cons.mpr ⟨(fs__law_fold c).mono (by decide), (fun _ z => nomatch z)⟩) false (fun z => nomatch z) (TT K) none (fun _ z => nomatch z) (fun cells acts E => t__law_long K cells acts (TT K) none (fun cls d _ H' => E cls d H')) (fun cells acts E => eq__law_long K cells acts (TT K)  _) (fun cells acts vs H Q E h => ok__law_long  h) (fun _ _ _ _ _ _ _ _ h => h)
theorem fs__law_graded (c : Ctx P w K mg base) : FnEOk P w K mg base 2 ⟨"_law_graded", 2, [], 2, S__law_graded K⟩ := by
  obtain ⟨fd, F⟩ := c.d.def_ 25 (d := d__law_graded) rfl
  exact mk_fn (ix := [0, 1]) (fun _ vs H Q E => sp_graded vs H Q E) F (c.g 25 _ rfl) sc__law_graded (fun _ _ _ _ _ _ us ws h1 h2 => match us, ws, h1, h2 with | [_, _], [], _, _ => rfl) (mdOf K) c.m (fl__law_graded K) (List.forall_mem_cons.mpr ⟨(fs__law_fold c).mono (by decide), (List.forall_mem_cons.mpr ⟨(fs__law_two c).mono (by decide), (List.forall_mem_cons.mpr ⟨(fs__law_twos c).mono (by decide), (fun _ z => nomatch z)⟩)⟩)⟩) false (fun z => nomatch z) (TT K) none (fun _ z => nomatch z) (fun cells acts E => t__law_graded K cells acts (TT K) none (fun cls d _ H' => E cls d H')) (fun cells acts E => eq__law_graded K cells acts (TT K)  _) (fun cells acts vs H Q E h => ok__law_graded  h) (fun _ _ _ _ _ _ _ _ h => h)
theorem fs__law_item (c : Ctx P w K mg base) : FnEOk P w K mg base 3 ⟨"_law_item", 1, [], 3, S__law_item K⟩ := by
  obtain ⟨fd, F⟩ := c.d.def_ 26 (d := d__law_item) rfl
  exact mk_fn (ix := [0]) (fun _ vs H Q E => sp_item vs H Q E) F (c.g 26 _ rfl) sc__law_item (fun _ _ _ _ _ _ us ws h1 h2 => match us, ws, h1, h2 with | [_], [], _, _ => rfl) (mdOf K) c.m (fl__law_item K) (List.forall_mem_cons.mpr ⟨(fs__law_two c).mono (by decide), (List.forall_mem_cons.mpr ⟨(fs__law_draw c).mono (by decide), (List.forall_mem_cons.mpr ⟨(fs__law_pick c).mono (by decide), (fun _ z => nomatch z)⟩)⟩)⟩) false (fun z => nomatch z) (TT K) none (fun _ z => nomatch z) (fun cells acts E => t__law_item K cells acts (TT K) none (fun cls d _ H' => E cls d H')) (fun cells acts E => eq__law_item K cells acts (TT K)  _) (fun cells acts vs H Q E h => ok__law_item  h) (fun _ _ _ _ _ _ _ _ h => h)
theorem fs__law_refused (c : Ctx P w K mg base) : FnEOk P w K mg base 45 ⟨"_law_refused", 3, [], 45, S__law_refused K⟩ := by
  obtain ⟨fd, F⟩ := c.d.def_ 27 (d := d__law_refused) rfl
  exact mk_fn (ix := [0, 1, 2]) (fun _ vs H Q E => sp_refused K vs H Q E) F (c.g 27 _ rfl) sc__law_refused (fun _ _ _ _ _ _ us ws h1 h2 => match us, ws, h1, h2 with | [_, _, _], [], _, _ => rfl) (mdOf K) c.m (fl__law_refused K) (List.forall_mem_cons.mpr ⟨(fs__law_pick c).mono (by decide), (List.forall_mem_cons.mpr ⟨(fs__law_caught c).mono (by decide), (List.forall_mem_cons.mpr ⟨(fs_folded c).mono (by decide), (List.forall_mem_cons.mpr ⟨(fs_long_bits c).mono (by decide), (List.forall_mem_cons.mpr ⟨(fs_grade_bits c).mono (by decide), (List.forall_mem_cons.mpr ⟨(fs_unfolded c).mono (by decide), (List.forall_mem_cons.mpr ⟨(fs_fixed_bits c).mono (by decide), (fun _ z => nomatch z)⟩)⟩)⟩)⟩)⟩)⟩)⟩) false (fun z => nomatch z) (TT K) (some (tT K)) (fun p z => by cases z; exact tab_ok F c.tb (List.mem_singleton.mpr rfl) (fun r hr _ => by rw [List.mem_singleton.mp hr])) (fun cells acts E => t__law_refused K cells acts (TT K) (some (tT K)) (fun cls d _ H' => E cls d H')) (fun cells acts E => eq__law_refused K cells acts (TT K) (tT K) _) (fun cells acts vs H Q E h => ok__law_refused c.c1 c.c2 c.c3 h) (fun _ _ _ _ _ _ _ _ h => h)
theorem fs_law (c : Ctx P w K mg base) : FnEOk P w K mg base 46 ⟨"law", 1, [], 46, S_law K⟩ := by
  obtain ⟨fd, F⟩ := c.d.def_ 28 (d := d_law) rfl
  exact mk_fn (ix := [0]) (fun _ vs H Q E => sp_law K vs H Q E) F (c.g 28 _ rfl) sc_law (fun _ _ _ _ _ _ us ws h1 h2 => match us, ws, h1, h2 with | [_], [], _, _ => rfl) (mdOf K) c.m (fl_law K) (List.forall_mem_cons.mpr ⟨(fs__law_begun c).mono (by decide), (List.forall_mem_cons.mpr ⟨(fs__law_item c).mono (by decide), (List.forall_mem_cons.mpr ⟨(fs__law_draw c).mono (by decide), (List.forall_mem_cons.mpr ⟨(fs_folded c).mono (by decide), (List.forall_mem_cons.mpr ⟨(fs_folded_k0_number c).mono (by decide), (List.forall_mem_cons.mpr ⟨(fs_unfolded c).mono (by decide), (List.forall_mem_cons.mpr ⟨(fs__law_fold c).mono (by decide), (List.forall_mem_cons.mpr ⟨(fs_unfolded_k0_number c).mono (by decide), (List.forall_mem_cons.mpr ⟨(fs_long_bits c).mono (by decide), (List.forall_mem_cons.mpr ⟨(fs_long_bits_k0_number c).mono (by decide), (List.forall_mem_cons.mpr ⟨(fs_grade_bits c).mono (by decide), (List.forall_mem_cons.mpr ⟨(fs_grade_bits_k0_grade_number c).mono (by decide), (List.forall_mem_cons.mpr ⟨(fs__law_long c).mono (by decide), (List.forall_mem_cons.mpr ⟨(fs__law_graded c).mono (by decide), (List.forall_mem_cons.mpr ⟨(fs__law_pick c).mono (by decide), (List.forall_mem_cons.mpr ⟨(fs__law_two c).mono (by decide), (List.forall_mem_cons.mpr ⟨(fs_fixed_bits c).mono (by decide), (List.forall_mem_cons.mpr ⟨(fs_fixed_bits_k0_many_number c).mono (by decide), (List.forall_mem_cons.mpr ⟨(fs__law_twos c).mono (by decide), (List.forall_mem_cons.mpr ⟨(fs__law_refused c).mono (by decide), (List.forall_mem_cons.mpr ⟨(fs_is_bits c).mono (by decide), (List.forall_mem_cons.mpr ⟨(fs_is_bits_k0_thing c).mono (by decide), (fun _ z => nomatch z)⟩)⟩)⟩)⟩)⟩)⟩)⟩)⟩)⟩)⟩)⟩)⟩)⟩)⟩)⟩)⟩)⟩)⟩)⟩)⟩)⟩)⟩) false (fun z => nomatch z) (TT K) none (fun _ z => nomatch z) (fun cells acts E => t_law K cells acts (TT K) none (fun cls d _ H' => E cls d H')) (fun cells acts E => eq_law K cells acts (TT K)  _) (fun cells acts vs H Q E h => ok_law c.c1 c.c2 c.c3 h) (fun _ _ _ _ _ _ _ _ h => h)
end

end K01

set_option Elab.async false
set_option linter.all false
set_option maxRecDepth 100000
set_option maxHeartbeats 0
namespace K01
open PySem PySem.Spec PyProof.Rows L2 LamX G Pk
/-! ### the head -/
abbrev R : PySem.W.OpenRow := PySem.W.OpenLaw.row PySem.Challenge.rw_pricedreels_k01_numbers_written_in_bits
def exx (K : PySem.W.Frag) : Bool := exB K (He.ga K "BadNumber") && (exB K (He.ga K "BadGrade") && exB K (He.ga K "BadMany"))
def tf : List He.Defn := [("_law_refused", none)]
abbrev hk : PySem.W.Hook := He.hookX 4 fa fn [] tf exx
def ob (s : PySem.W.SharedT) : He.AlX := He.obsX 4 fa fn [] tf exx (HandSHeadRun.getT s)
theorem ob_eq (s : PySem.W.SharedT) : ob s = hk.obs s.abs := He.obsX_eq (HandSHeadRun.getT_eq s)
def loose : List Str := (["ReelError", "BadGrade", "BadMany", "BadNumber", "MOST_TOLD", "MOST_FOLDED", "MOST_FIXED", "MOST_GRADE", "MANY_ONES", "is_number", "is_between", "is_told", "is_bits", "need_told", "need_grade"] : List Str) ++ (["need_many", "fold", "unfold", "folded", "unfolded", "in_twos", "fixed_bits", "long_word", "long_bits", "grade_word", "grade_bits", "_law_begun", "_law_draw", "_law_pick", "_law_caught"] : List Str) ++ (["_law_two", "_law_fold", "_law_twos", "_law_long", "_law_graded", "_law_item", "_law_refused"] : List Str)
theorem run (w : World) : HandSHeadRun.RunEq R (PySem.W.view R.prog [40]) hk ob 2500 loose w := by
  intro os
  kernel_rfl
theorem law_facts {w : World} {K : PySem.W.Frag} {mg : Str → Option Value} {f : Addr} {h : Heap} (KX : K.In h) (Gl : h.Ns mainGlobals mg) (c : He.SaysX fa fn [] tf exx w h K) (hmg : mg ("law" : Str) = some (.ref f)) :
    LawG PySem.Challenge.rw_pricedreels_k01_numbers_written_in_bits w K 46 63 mg f h := by
  have csd : He.SaysD fa fn K := congrArg Prod.fst c.t
  have hm : (("_law_refused", none) : He.Defn) ∈ tf := List.mem_singleton.mpr rfl
  obtain ⟨x1, x2⟩ := He.ba c.more
  obtain ⟨x2, x3⟩ := He.ba x2
  refine ⟨[He.cT K ("_law_refused", none)], S_law K, fun p hp => ?_, fun p hp => ?_, fun p hp => ?_, fun H a zs hl hb hT hS => ?_, fun base KB nb tb => ?_⟩
  · rw [List.mem_singleton.mp hp]
    exact c.empty _ hm
  · rw [List.mem_singleton.mp hp]
    exact c.out _ hm
  · rw [List.mem_singleton.mp hp]
    exact PySem.W.codeHd_of_K KX (c.hd _ hm)
  · refine ⟨a, zs, rfl, hS, by omega, fun q hq => ?_, fun _ => rfl⟩
    rw [List.mem_singleton.mp hq]
    exact ⟨#[], hT _ (List.mem_singleton.mpr rfl), trivial, fun pos cv h => nomatch h⟩
  · have C : Ctx PySem.Challenge.rw_pricedreels_k01_numbers_written_in_bits.prog w K mg base :=
      { m := md_ok KX Gl csd
        d := csd
        g := fun i x e => He.glo_ok KX Gl (csd.fact i e)
        c1 := ⟨He.exm_ok (csd.facts (f := .exm "BadNumber" "ReelError" true) (by simp [fa])), (exB_ok x1).1, (exB_ok x1).2⟩
        c2 := ⟨He.exm_ok (csd.facts (f := .exm "BadGrade" "ReelError" true) (by simp [fa])), (exB_ok x2).1, (exB_ok x2).2⟩
        c3 := ⟨He.exm_ok (csd.facts (f := .exm "BadMany" "ReelError" true) (by simp [fa])), (exB_ok x3).1, (exB_ok x3).2⟩
        tb := tb _ (List.mem_singleton.mpr rfl) }
    obtain ⟨_, f', e1, _, F⟩ := fs_law C
    have e2 := e1.symm.trans hmg
    cases e2
    exact F
end K01
open PySem PySem.W PySem.Calls PyProof.Rows
theorem PySem.Challenge.cw_pricedreels_k01_numbers_written_in_bits_holds : PySem.Challenge.rw_pricedreels_k01_numbers_written_in_bits.Holds := by
  w_on; o_law
  refine HandSHeadRun.head_any (r := OpenLaw.row PySem.Challenge.rw_pricedreels_k01_numbers_written_in_bits) (q := view (OpenLaw.row PySem.Challenge.rw_pricedreels_k01_numbers_written_in_bits).prog [40]) (H := K01.hk) (ob := K01.ob) (M := 2500) (loose := K01.loose) (d := HandSHeadRun.topDef (OpenLaw.row PySem.Challenge.rw_pricedreels_k01_numbers_written_in_bits).prog 40) (kwd := []) K01.ob_eq
    (by kernel_rfl) (fun s => by kernel_rfl) K01.run (by kernel_rfl) (by kernel_rfl) (by kernel_rfl) (by rfl) (by first | assumption | decide +kernel) (by decide +kernel) ⟨rfl, rfl, rfl, rfl, rfl, by decide +kernel⟩ ?hw ?hc
  case hw => w_witness2
  case hc =>
    refine G.law_end (n := 63) (k := 46) rfl (by decide) (by kernel_rfl) ⟨⟨rfl, by decide, by decide⟩, rfl⟩ ?F
    intro w mg fa h Y G hmg0
    obtain ⟨K, KX, c⟩ := Y
    have hmg : mg ("law" : PySem.Str) = some (.ref fa) := by
      have e : (HandSHeadRun.topDef (OpenLaw.row PySem.Challenge.rw_pricedreels_k01_numbers_written_in_bits).prog 40).name = ("law" : PySem.Str) := by kernel_rfl
      rw [← e]
      exact hmg0
    exact ⟨K, KX, K01.law_facts KX G c hmg⟩
