import PyProof.Rows.All
import Wide.All
import OpenK.AllK
import Wide.FinOn
import PySem.Challenge.RW_rh0070_01
set_option Elab.async false
set_option maxRecDepth 100000
set_option genInjectivity false
set_option genSizeOfSpec false
namespace Mine
open PySem

/-- pure data: trees -/
inductive PV where
  | none
  | bool (b : Bool)
  | int (i : Int)
  | str (s : Str)
  | txt (n : Nat)
  | tup (l : List PV)
  | lst (l : List PV)
  | dcti (ks : List Int) (vs : List PV)
  | dcts (ks : List Str) (vs : List PV)
  | dctt (ks : List (List Int)) (vs : List PV)
  deriving Inhabited

/-- what a mutable object of one owner holds -/
inductive MO where
  | lst (l : List PV)
  | dcti (ks : List Int) (vs : List PV)
  | dcts (ks : List Str) (vs : List PV)
  | dctt (ks : List (List Int)) (vs : List PV)
  deriving Inhabited

inductive LV where
  | pv (p : PV)
  | own (m : MO)
  deriving Inhabited

noncomputable def MO.pv : MO → PV
  | .lst l => .lst l
  | .dcti ks vs => .dcti ks vs
  | .dcts ks vs => .dcts ks vs
  | .dctt ks vs => .dctt ks vs
noncomputable def LV.toPV : LV → PV
  | .pv p => p
  | .own m => m.pv

noncomputable abbrev Lo := List (Str × Option LV)

noncomputable def getLo : Lo → Str → Option LV
  | [], _ => none
  | (y, v) :: r, x => if y = x then v else getLo r x
noncomputable def setLo : Lo → Str → LV → Lo
  | [], _, _ => []
  | (y, v) :: r, x, w => if y = x then (y, some w) :: r else (y, v) :: setLo r x w

inductive Res (α : Type) where
  | ok (a : α) (lo : Lo)
  | exc
  | fail

noncomputable def R (α : Type) := Lo → Res α
namespace R
noncomputable def ret {α : Type} (a : α) : R α := fun lo => .ok a lo
noncomputable def fail {α : Type} : R α := fun _ => .fail
noncomputable def bind {α β : Type} (x : R α) (f : α → R β) : R β := fun lo => match x lo with
  | .ok a lo' => f a lo'
  | .exc => .exc
  | .fail => .fail
noncomputable def lift {α : Type} : Option α → R α
  | some a => .ret a
  | none => .fail
end R

inductive Fl where
  | next | brk | cont | ret (v : LV)

inductive CRes where
  | ok (v : LV) (m : Option MO)
  | exc
  | fail

/-- reading operand: a tree, or a name that holds an own object -/
inductive Rd where
  | pv (p : PV)
  | var (x : Str)

/-! ### pure operations -/
noncomputable def keyI : PV → Option Int
  | .int i => some i
  | _ => none
noncomputable def keyS : PV → Option Str
  | .str s => some s
  | _ => none
noncomputable def keyT : PV → Option (List Int)
  | .tup l => l.mapM keyI
  | _ => none
noncomputable def isKey (p : PV) : Bool := (keyI p).isSome || (keyS p).isSome || (keyT p).isSome
noncomputable def eqvs (f : PV → PV → Option Bool) : List PV → List PV → Option Bool
  | [], [] => some true
  | a :: as, b :: bs => match f a b with
    | some true => eqvs f as bs
    | r => r
  | _, _ => none
/-- the items of two tables or lists -/
noncomputable def eqT (o : Option Bool) : Option Bool := match o with
  | some true => some true
  | _ => none
noncomputable def eqF (f : PV → PV → Option Bool) (p : PV) : PV → Option Bool := match p with
  | .none => fun q => match q with
    | .none => some true
    | _ => none
  | .bool a => fun q => match q with
    | .bool b => some (a == b)
    | _ => none
  | .int a => fun q => match q with
    | .int b => some (a == b)
    | _ => none
  | .str a => fun q => match q with
    | .str b => some (a == b)
    | _ => none
  | .txt _ => fun _ => none
  | .tup a => fun q => match q with
    | .tup b => eqvs f a b
    | _ => none
  | .lst a => fun q => match q with
    | .lst b => if a.length = b.length then eqT (eqvs f a b) else some false
    | _ => none
  | .dcti ka va => fun q => match q with
    | .dcti kb vb => if ka = kb then eqT (eqvs f va vb) else none
    | _ => none
  | .dcts _ _ => fun _ => none
  | .dctt ka va => fun q => match q with
    | .dctt kb vb => if ka = kb then eqT (eqvs f va vb) else none
    | _ => none
/-- ==, down to a depth -/
noncomputable def eqv : Nat → PV → PV → Option Bool
  | 0 => fun _ _ => none
  | n + 1 => eqF (eqv n)
noncomputable abbrev eqD : PV → PV → Option Bool := eqv 12
noncomputable def look {K : Type} [DecidableEq K] : List K → List PV → K → Option PV
  | k :: ks, v :: vs, x => if k = x then some v else look ks vs x
  | _, _, _ => none
noncomputable def put {K : Type} [DecidableEq K] : List K → List PV → K → PV → List K × List PV
  | k :: ks, v :: vs, x, y => if k = x then (k :: ks, y :: vs) else let q := put ks vs x y; (k :: q.1, v :: q.2)
  | _, _, x, y => ([x], [y])
/-- what a table holds at a key: none = not served -/
noncomputable def dget : PV → PV → Option (Option PV)
  | .dcti ks vs, p => match keyI p with
    | some k => some (look ks vs k)
    | none => if ks.isEmpty && isKey p then some none else none
  | .dcts ks vs, p => (keyS p).map fun k => look ks vs k
  | .dctt ks vs, p => (keyT p).map fun k => look ks vs k
  | _, _ => none
noncomputable def dset : MO → PV → PV → Option MO
  | .dcti ks vs, p, v => match keyI p with
    | some k => let q := put ks vs k v; some (.dcti q.1 q.2)
    | none => if ks.isEmpty then (match keyS p with
        | some k => some (.dcts [k] [v])
        | none => (keyT p).map fun k => .dctt [k] [v]) else none
  | .dcts ks vs, p, v => (keyS p).map fun k => let q := put ks vs k v; .dcts q.1 q.2
  | .dctt ks vs, p, v => (keyT p).map fun k => let q := put ks vs k v; .dctt q.1 q.2
  | _, _, _ => none
/-- the keys, in their order -/
noncomputable def keysOf : PV → Option (List PV)
  | .dcti ks _ => some (ks.map .int)
  | .dcts ks _ => some (ks.map .str)
  | .dctt ks _ => some (ks.map fun k => .tup (k.map .int))
  | _ => none

noncomputable def strLen : PV → Option Nat
  | .str s => some s.length
  | .txt n => some n
  | _ => none

noncomputable def lstP : PV → Option (List PV)
  | .lst l => some l
  | _ => none
/-- an operation of two int2 -/
noncomputable def int2 {α : Type} (f : Int → Int → Option α) (p q : PV) : Option α := (keyI p).bind fun a => (keyI q).bind fun b => f a b
noncomputable def addV (p q : PV) : Option LV := match keyI p with
  | some a => (keyI q).bind fun b => some (.pv (.int (a + b)))
  | none => match lstP p with
    | some a => (lstP q).bind fun b => if a.length + b.length < 2 ^ 20 then some (.own (.lst (a ++ b))) else none
    | none => (strLen p).bind fun m => (strLen q).bind fun n => if m + n < 2 ^ 20 then some (.pv (.txt (m + n))) else none
noncomputable def binop (op : Operator) (p q : PV) : Option LV := match op with
  | .Add => addV p q
  | .Sub => int2 (fun a b => some (.pv (.int (a - b)))) p q
  | .Mult => int2 (fun a b => if a.natAbs < 2 ^ 62 then some (.pv (.int (a * b))) else none) p q
  | .Mod => int2 (fun a b => if 0 < b then some (.pv (.int (a % b))) else none) p q
  | .FloorDiv => int2 (fun a b => if 0 < b ∧ b < 1073741824 then some (.pv (.int (a / b))) else none) p q
  | .Pow => int2 (fun a b => if a = 10 ∧ b = 18 then some (.pv (.int (10 ^ 18))) else none) p q
  | _ => none

/-- a text among texts -/
noncomputable def strsOf : List PV → Option (List Str)
  | [] => some []
  | .str a :: r => (strsOf r).map (a :: ·)
  | _ => none
noncomputable def memv (l : List PV) : PV → Option Bool
  | .str x => (strsOf l).map fun l => l.any (· == x)
  | _ => none
noncomputable def isNoneV : PV → Bool
  | .none => true
  | _ => false
noncomputable def tupP : PV → Option (List PV)
  | .tup l => some l
  | _ => none
noncomputable def neV (p q : PV) : Option Bool := match p with
  | .none => if isNoneV q then some false else none
  | .bool a => match q with
    | .bool b => some (a != b)
    | _ => none
  | .int a => (keyI q).map fun b => a != b
  | .str a => (keyS q).map fun b => a != b
  | .lst a => (lstP q).bind fun b => (eqD (.lst a) (.lst b)).map (!·)
  | _ => none
noncomputable def inV (p q : PV) : Option Bool := match tupP q with
  | some l => memv l p
  | none => (dget q p).map (·.isSome)
noncomputable def cmp (op : CmpOp) (p q : PV) : Option Bool := match op with
  | .Eq => eqD p q
  | .NotEq => neV p q
  | .Lt => int2 (fun a b => some (decide (a < b))) p q
  | .Gt => int2 (fun a b => some (decide (a > b))) p q
  | .GtE => int2 (fun a b => some (decide (a ≥ b))) p q
  | .Is => if isNoneV q then some (isNoneV p) else none
  | .IsNot => if isNoneV q then some (!isNoneV p) else none
  | .In => inV p q
  | .NotIn => (dget q p).map (·.isNone)
  | _ => none

noncomputable def truth : PV → Option Bool
  | .bool b => some b
  | _ => none

noncomputable def itemAt (l : List PV) (i : Int) : Option PV :=
  if i.natAbs < 2 ^ 20 then (if 0 ≤ i then l[i.toNat]? else if -i ≤ l.length then l[(i + l.length).toNat]? else none) else none

noncomputable def strAt (s : Str) (i : Int) : Option PV := if 0 ≤ i ∧ i < 2 ^ 20 then (s.cps[i.toNat]?).map fun c => .str ⟨#[c]⟩ else none
noncomputable def item (p k : PV) : Option PV := match tupP p with
  | some l => (keyI k).bind (itemAt l)
  | none => match lstP p with
    | some l => (keyI k).bind (itemAt l)
    | none => match keyS p with
      | some s => (keyI k).bind (strAt s)
      | none => (dget p k).join

/-- l[:k] -/
noncomputable def slice (p k : PV) : Option LV := (lstP p).bind fun l => (keyI k).bind fun i => if 0 ≤ i ∧ l.length < 2 ^ 20 then some (.own (.lst (l.take i.toNat))) else none

noncomputable def lenOf : PV → Option Nat
  | .tup l => if l.length < 2 ^ 20 then some l.length else none
  | .lst l => if l.length < 2 ^ 20 then some l.length else none
  | .str s => if s.length < 2 ^ 20 then some s.length else none
  | _ => none

noncomputable def small (l : List PV) : Option (List PV) := if l.length < 2 ^ 20 then some l else none
/-- what a for runs over -/
noncomputable def itemsOf : PV → Option (List PV)
  | .tup l => some l
  | .lst l => some l
  | _ => none

noncomputable def tyP : PV → Option Str
  | .int _ => some "int"
  | .str _ => some "str"
  | .tup _ => some "tuple"
  | .dcti _ _ => some "dict"
  | .dcts _ _ => some "dict"
  | .dctt _ _ => some "dict"
  | _ => none
noncomputable def isiNames : List Str := ["int", "bool", "tuple", "str", "dict"]
noncomputable def isInst (T : Str) (p : PV) : Option Bool := (tyP p).bind fun k => if isiNames.contains T = true then some (decide (T = k)) else none

/-- built-ins of one argument -/
noncomputable def bcall (f : Str) (p : PV) : Option LV :=
  if f = "len" then (lenOf p).map fun (n : Nat) => .pv (.int n)
  else if f = "list" then (itemsOf p).bind fun l => if l.length < 2 ^ 20 then some (.own (.lst l)) else none
  else if f = "tuple" then (lstP p).bind fun l => if l.length < 2 ^ 20 then some (.pv (.tup l)) else none
  else if f = "str" then (keyI p).bind fun i => if i.natAbs < 2 ^ 10 then some (.pv (.txt (i.natAbs + 2))) else none
  else if f = "abs" then (keyI p).map fun i => .pv (.int i.natAbs)
  else none
noncomputable def bnames : List Str := ["len", "list", "tuple", "str", "abs"]

/-- ''.join(reversed(l)) -/
noncomputable def joinLen : List PV → Option Nat
  | [] => some 0
  | p :: ps => match strLen p, joinLen ps with
    | some m, some n => if m + n < 2 ^ 19 then some (m + n) else none
    | _, _ => none
noncomputable def joined : PV → Option PV
  | .lst l => if l.length < 2 ^ 10 then (joinLen l).map .txt else none
  | _ => none

/-- the constants of the text's top -/
noncomputable def gconst (x : Str) : Option PV :=
  if x = "CON" then some (.int 4) else if x = "INT" then some (.int 5) else if x = "FAIL_ADDRESS" then some (.int 2) else none

noncomputable def constPV : Const → Option PV
  | .none => some .none
  | .bool b => some (.bool b)
  | .int i => some (.int i)
  | .str s => some (.str s)
  | _ => none

noncomputable def figs : Str := "figures"
end Mine
namespace Mine
open PySem
theorem dite_or {α : Type} {P : α → Prop} {c : Prop} [Decidable c] {f : c → α} {d : α} (h1 : ∀ h, P (f h)) (h2 : ¬ c → P d) : P (if h : c then f h else d) := by
  by_cases hc : c
  · rw [dif_pos hc]; exact h1 hc
  · rw [dif_neg hc]; exact h2 hc
theorem ite_or {α : Type} {P : α → Prop} {c : Prop} [Decidable c] {x d : α} (h1 : c → P x) (h2 : ¬ c → P d) : P (if c then x else d) := dite_or h1 h2
noncomputable def sFunctionDef {α : Type} (d : α) (s : PySem.Stmt) (f : Str → Arguments → List Stmt → List PySem.Expr → Option PySem.Expr → List TypeParam → Scope → Option Scope → Str → Pos → α) : α := if h : s.ctorIdx = 0 then PySem.Stmt.FunctionDef.elim (motive_2 := fun _ => α) s h f else d
noncomputable def sReturn {α : Type} (d : α) (s : PySem.Stmt) (f : Option PySem.Expr → Pos → α) : α := if h : s.ctorIdx = 3 then PySem.Stmt.Return.elim (motive_2 := fun _ => α) s h f else d
theorem sReturn_or {α : Type} {P : α → Prop} {d : α} {s : PySem.Stmt} {f : Option PySem.Expr → Pos → α} (h1 : ∀ a0 a1, s = PySem.Stmt.Return a0 a1 → P (f a0 a1)) (h2 : s.ctorIdx ≠ 3 → P d) : P (sReturn d s f) :=
  dite_or (fun hc => PySem.Stmt.Return.elim (motive_2 := fun s => ∀ hc, (∀ a0 a1, s = PySem.Stmt.Return a0 a1 → P (f a0 a1)) → P (PySem.Stmt.Return.elim (motive_2 := fun _ => α) s hc f)) s hc (fun a0 a1 _ h => h a0 a1 rfl) hc h1) h2
theorem sReturn_inv {α : Type} {d b : α} {s : PySem.Stmt} {f : Option PySem.Expr → Pos → α} (hb : b ≠ d) (h : sReturn d s f = b) : ∃ a0 a1, s = PySem.Stmt.Return a0 a1 ∧ f a0 a1 = b :=
  sReturn_or (P := fun v => v = b → ∃ a0 a1, s = PySem.Stmt.Return a0 a1 ∧ f a0 a1 = b) (fun a0 a1 e h => ⟨a0, a1, e, h⟩) (fun _ h => absurd h.symm hb) h
noncomputable def sAssign {α : Type} (d : α) (s : PySem.Stmt) (f : List PySem.Expr → PySem.Expr → Pos → α) : α := if h : s.ctorIdx = 5 then PySem.Stmt.Assign.elim (motive_2 := fun _ => α) s h f else d
theorem sAssign_or {α : Type} {P : α → Prop} {d : α} {s : PySem.Stmt} {f : List PySem.Expr → PySem.Expr → Pos → α} (h1 : ∀ a0 a1 a2, s = PySem.Stmt.Assign a0 a1 a2 → P (f a0 a1 a2)) (h2 : s.ctorIdx ≠ 5 → P d) : P (sAssign d s f) :=
  dite_or (fun hc => PySem.Stmt.Assign.elim (motive_2 := fun s => ∀ hc, (∀ a0 a1 a2, s = PySem.Stmt.Assign a0 a1 a2 → P (f a0 a1 a2)) → P (PySem.Stmt.Assign.elim (motive_2 := fun _ => α) s hc f)) s hc (fun a0 a1 a2 _ h => h a0 a1 a2 rfl) hc h1) h2
theorem sAssign_inv {α : Type} {d b : α} {s : PySem.Stmt} {f : List PySem.Expr → PySem.Expr → Pos → α} (hb : b ≠ d) (h : sAssign d s f = b) : ∃ a0 a1 a2, s = PySem.Stmt.Assign a0 a1 a2 ∧ f a0 a1 a2 = b :=
  sAssign_or (P := fun v => v = b → ∃ a0 a1 a2, s = PySem.Stmt.Assign a0 a1 a2 ∧ f a0 a1 a2 = b) (fun a0 a1 a2 e h => ⟨a0, a1, a2, e, h⟩) (fun _ h => absurd h.symm hb) h
noncomputable def sAugAssign {α : Type} (d : α) (s : PySem.Stmt) (f : PySem.Expr → Operator → PySem.Expr → Pos → α) : α := if h : s.ctorIdx = 7 then PySem.Stmt.AugAssign.elim (motive_2 := fun _ => α) s h f else d
theorem sAugAssign_or {α : Type} {P : α → Prop} {d : α} {s : PySem.Stmt} {f : PySem.Expr → Operator → PySem.Expr → Pos → α} (h1 : ∀ a0 a1 a2 a3, s = PySem.Stmt.AugAssign a0 a1 a2 a3 → P (f a0 a1 a2 a3)) (h2 : s.ctorIdx ≠ 7 → P d) : P (sAugAssign d s f) :=
  dite_or (fun hc => PySem.Stmt.AugAssign.elim (motive_2 := fun s => ∀ hc, (∀ a0 a1 a2 a3, s = PySem.Stmt.AugAssign a0 a1 a2 a3 → P (f a0 a1 a2 a3)) → P (PySem.Stmt.AugAssign.elim (motive_2 := fun _ => α) s hc f)) s hc (fun a0 a1 a2 a3 _ h => h a0 a1 a2 a3 rfl) hc h1) h2
noncomputable def sFor {α : Type} (d : α) (s : PySem.Stmt) (f : PySem.Expr → PySem.Expr → List Stmt → List Stmt → Pos → α) : α := if h : s.ctorIdx = 9 then PySem.Stmt.For.elim (motive_2 := fun _ => α) s h f else d
theorem sFor_or {α : Type} {P : α → Prop} {d : α} {s : PySem.Stmt} {f : PySem.Expr → PySem.Expr → List Stmt → List Stmt → Pos → α} (h1 : ∀ a0 a1 a2 a3 a4, s = PySem.Stmt.For a0 a1 a2 a3 a4 → P (f a0 a1 a2 a3 a4)) (h2 : s.ctorIdx ≠ 9 → P d) : P (sFor d s f) :=
  dite_or (fun hc => PySem.Stmt.For.elim (motive_2 := fun s => ∀ hc, (∀ a0 a1 a2 a3 a4, s = PySem.Stmt.For a0 a1 a2 a3 a4 → P (f a0 a1 a2 a3 a4)) → P (PySem.Stmt.For.elim (motive_2 := fun _ => α) s hc f)) s hc (fun a0 a1 a2 a3 a4 _ h => h a0 a1 a2 a3 a4 rfl) hc h1) h2
theorem sFor_inv {α : Type} {d b : α} {s : PySem.Stmt} {f : PySem.Expr → PySem.Expr → List Stmt → List Stmt → Pos → α} (hb : b ≠ d) (h : sFor d s f = b) : ∃ a0 a1 a2 a3 a4, s = PySem.Stmt.For a0 a1 a2 a3 a4 ∧ f a0 a1 a2 a3 a4 = b :=
  sFor_or (P := fun v => v = b → ∃ a0 a1 a2 a3 a4, s = PySem.Stmt.For a0 a1 a2 a3 a4 ∧ f a0 a1 a2 a3 a4 = b) (fun a0 a1 a2 a3 a4 e h => ⟨a0, a1, a2, a3, a4, e, h⟩) (fun _ h => absurd h.symm hb) h
noncomputable def sWhile {α : Type} (d : α) (s : PySem.Stmt) (f : PySem.Expr → List Stmt → List Stmt → Pos → α) : α := if h : s.ctorIdx = 11 then PySem.Stmt.While.elim (motive_2 := fun _ => α) s h f else d
theorem sWhile_or {α : Type} {P : α → Prop} {d : α} {s : PySem.Stmt} {f : PySem.Expr → List Stmt → List Stmt → Pos → α} (h1 : ∀ a0 a1 a2 a3, s = PySem.Stmt.While a0 a1 a2 a3 → P (f a0 a1 a2 a3)) (h2 : s.ctorIdx ≠ 11 → P d) : P (sWhile d s f) :=
  dite_or (fun hc => PySem.Stmt.While.elim (motive_2 := fun s => ∀ hc, (∀ a0 a1 a2 a3, s = PySem.Stmt.While a0 a1 a2 a3 → P (f a0 a1 a2 a3)) → P (PySem.Stmt.While.elim (motive_2 := fun _ => α) s hc f)) s hc (fun a0 a1 a2 a3 _ h => h a0 a1 a2 a3 rfl) hc h1) h2
noncomputable def sIf {α : Type} (d : α) (s : PySem.Stmt) (f : PySem.Expr → List Stmt → List Stmt → Pos → α) : α := if h : s.ctorIdx = 12 then PySem.Stmt.If.elim (motive_2 := fun _ => α) s h f else d
theorem sIf_or {α : Type} {P : α → Prop} {d : α} {s : PySem.Stmt} {f : PySem.Expr → List Stmt → List Stmt → Pos → α} (h1 : ∀ a0 a1 a2 a3, s = PySem.Stmt.If a0 a1 a2 a3 → P (f a0 a1 a2 a3)) (h2 : s.ctorIdx ≠ 12 → P d) : P (sIf d s f) :=
  dite_or (fun hc => PySem.Stmt.If.elim (motive_2 := fun s => ∀ hc, (∀ a0 a1 a2 a3, s = PySem.Stmt.If a0 a1 a2 a3 → P (f a0 a1 a2 a3)) → P (PySem.Stmt.If.elim (motive_2 := fun _ => α) s hc f)) s hc (fun a0 a1 a2 a3 _ h => h a0 a1 a2 a3 rfl) hc h1) h2
theorem sIf_inv {α : Type} {d b : α} {s : PySem.Stmt} {f : PySem.Expr → List Stmt → List Stmt → Pos → α} (hb : b ≠ d) (h : sIf d s f = b) : ∃ a0 a1 a2 a3, s = PySem.Stmt.If a0 a1 a2 a3 ∧ f a0 a1 a2 a3 = b :=
  sIf_or (P := fun v => v = b → ∃ a0 a1 a2 a3, s = PySem.Stmt.If a0 a1 a2 a3 ∧ f a0 a1 a2 a3 = b) (fun a0 a1 a2 a3 e h => ⟨a0, a1, a2, a3, e, h⟩) (fun _ h => absurd h.symm hb) h
noncomputable def sRaise {α : Type} (d : α) (s : PySem.Stmt) (f : Option PySem.Expr → Option PySem.Expr → Pos → α) : α := if h : s.ctorIdx = 16 then PySem.Stmt.Raise.elim (motive_2 := fun _ => α) s h f else d
theorem sRaise_or {α : Type} {P : α → Prop} {d : α} {s : PySem.Stmt} {f : Option PySem.Expr → Option PySem.Expr → Pos → α} (h1 : ∀ a0 a1 a2, s = PySem.Stmt.Raise a0 a1 a2 → P (f a0 a1 a2)) (h2 : s.ctorIdx ≠ 16 → P d) : P (sRaise d s f) :=
  dite_or (fun hc => PySem.Stmt.Raise.elim (motive_2 := fun s => ∀ hc, (∀ a0 a1 a2, s = PySem.Stmt.Raise a0 a1 a2 → P (f a0 a1 a2)) → P (PySem.Stmt.Raise.elim (motive_2 := fun _ => α) s hc f)) s hc (fun a0 a1 a2 _ h => h a0 a1 a2 rfl) hc h1) h2
theorem sRaise_inv {α : Type} {d b : α} {s : PySem.Stmt} {f : Option PySem.Expr → Option PySem.Expr → Pos → α} (hb : b ≠ d) (h : sRaise d s f = b) : ∃ a0 a1 a2, s = PySem.Stmt.Raise a0 a1 a2 ∧ f a0 a1 a2 = b :=
  sRaise_or (P := fun v => v = b → ∃ a0 a1 a2, s = PySem.Stmt.Raise a0 a1 a2 ∧ f a0 a1 a2 = b) (fun a0 a1 a2 e h => ⟨a0, a1, a2, e, h⟩) (fun _ h => absurd h.symm hb) h
noncomputable def sTry {α : Type} (d : α) (s : PySem.Stmt) (f : List Stmt → List ExceptHandler → List Stmt → List Stmt → Pos → α) : α := if h : s.ctorIdx = 17 then PySem.Stmt.Try.elim (motive_2 := fun _ => α) s h f else d
theorem sTry_or {α : Type} {P : α → Prop} {d : α} {s : PySem.Stmt} {f : List Stmt → List ExceptHandler → List Stmt → List Stmt → Pos → α} (h1 : ∀ a0 a1 a2 a3 a4, s = PySem.Stmt.Try a0 a1 a2 a3 a4 → P (f a0 a1 a2 a3 a4)) (h2 : s.ctorIdx ≠ 17 → P d) : P (sTry d s f) :=
  dite_or (fun hc => PySem.Stmt.Try.elim (motive_2 := fun s => ∀ hc, (∀ a0 a1 a2 a3 a4, s = PySem.Stmt.Try a0 a1 a2 a3 a4 → P (f a0 a1 a2 a3 a4)) → P (PySem.Stmt.Try.elim (motive_2 := fun _ => α) s hc f)) s hc (fun a0 a1 a2 a3 a4 _ h => h a0 a1 a2 a3 a4 rfl) hc h1) h2
theorem sTry_inv {α : Type} {d b : α} {s : PySem.Stmt} {f : List Stmt → List ExceptHandler → List Stmt → List Stmt → Pos → α} (hb : b ≠ d) (h : sTry d s f = b) : ∃ a0 a1 a2 a3 a4, s = PySem.Stmt.Try a0 a1 a2 a3 a4 ∧ f a0 a1 a2 a3 a4 = b :=
  sTry_or (P := fun v => v = b → ∃ a0 a1 a2 a3 a4, s = PySem.Stmt.Try a0 a1 a2 a3 a4 ∧ f a0 a1 a2 a3 a4 = b) (fun a0 a1 a2 a3 a4 e h => ⟨a0, a1, a2, a3, a4, e, h⟩) (fun _ h => absurd h.symm hb) h
noncomputable def sExpr {α : Type} (d : α) (s : PySem.Stmt) (f : PySem.Expr → Pos → α) : α := if h : s.ctorIdx = 24 then PySem.Stmt.Expr.elim (motive_2 := fun _ => α) s h f else d
theorem sExpr_or {α : Type} {P : α → Prop} {d : α} {s : PySem.Stmt} {f : PySem.Expr → Pos → α} (h1 : ∀ a0 a1, s = PySem.Stmt.Expr a0 a1 → P (f a0 a1)) (h2 : s.ctorIdx ≠ 24 → P d) : P (sExpr d s f) :=
  dite_or (fun hc => PySem.Stmt.Expr.elim (motive_2 := fun s => ∀ hc, (∀ a0 a1, s = PySem.Stmt.Expr a0 a1 → P (f a0 a1)) → P (PySem.Stmt.Expr.elim (motive_2 := fun _ => α) s hc f)) s hc (fun a0 a1 _ h => h a0 a1 rfl) hc h1) h2
theorem sExpr_inv {α : Type} {d b : α} {s : PySem.Stmt} {f : PySem.Expr → Pos → α} (hb : b ≠ d) (h : sExpr d s f = b) : ∃ a0 a1, s = PySem.Stmt.Expr a0 a1 ∧ f a0 a1 = b :=
  sExpr_or (P := fun v => v = b → ∃ a0 a1, s = PySem.Stmt.Expr a0 a1 ∧ f a0 a1 = b) (fun a0 a1 e h => ⟨a0, a1, e, h⟩) (fun _ h => absurd h.symm hb) h
noncomputable def sBreak {α : Type} (d : α) (s : PySem.Stmt) (f : Pos → α) : α := if h : s.ctorIdx = 26 then PySem.Stmt.Break.elim (motive_2 := fun _ => α) s h f else d
theorem sBreak_or {α : Type} {P : α → Prop} {d : α} {s : PySem.Stmt} {f : Pos → α} (h1 : ∀ a0, s = PySem.Stmt.Break a0 → P (f a0)) (h2 : s.ctorIdx ≠ 26 → P d) : P (sBreak d s f) :=
  dite_or (fun hc => PySem.Stmt.Break.elim (motive_2 := fun s => ∀ hc, (∀ a0, s = PySem.Stmt.Break a0 → P (f a0)) → P (PySem.Stmt.Break.elim (motive_2 := fun _ => α) s hc f)) s hc (fun a0 _ h => h a0 rfl) hc h1) h2
noncomputable def xBoolOp {α : Type} (d : α) (s : PySem.Expr) (f : BoolOp → List PySem.Expr → Pos → α) : α := if h : s.ctorIdx = 0 then PySem.Expr.BoolOp.elim (motive_1 := fun _ => α) s h f else d
theorem xBoolOp_or {α : Type} {P : α → Prop} {d : α} {s : PySem.Expr} {f : BoolOp → List PySem.Expr → Pos → α} (h1 : ∀ a0 a1 a2, s = PySem.Expr.BoolOp a0 a1 a2 → P (f a0 a1 a2)) (h2 : s.ctorIdx ≠ 0 → P d) : P (xBoolOp d s f) :=
  dite_or (fun hc => PySem.Expr.BoolOp.elim (motive_1 := fun s => ∀ hc, (∀ a0 a1 a2, s = PySem.Expr.BoolOp a0 a1 a2 → P (f a0 a1 a2)) → P (PySem.Expr.BoolOp.elim (motive_1 := fun _ => α) s hc f)) s hc (fun a0 a1 a2 _ h => h a0 a1 a2 rfl) hc h1) h2
theorem xBoolOp_inv {α : Type} {d b : α} {s : PySem.Expr} {f : BoolOp → List PySem.Expr → Pos → α} (hb : b ≠ d) (h : xBoolOp d s f = b) : ∃ a0 a1 a2, s = PySem.Expr.BoolOp a0 a1 a2 ∧ f a0 a1 a2 = b :=
  xBoolOp_or (P := fun v => v = b → ∃ a0 a1 a2, s = PySem.Expr.BoolOp a0 a1 a2 ∧ f a0 a1 a2 = b) (fun a0 a1 a2 e h => ⟨a0, a1, a2, e, h⟩) (fun _ h => absurd h.symm hb) h
noncomputable def xBinOp {α : Type} (d : α) (s : PySem.Expr) (f : PySem.Expr → Operator → PySem.Expr → Pos → α) : α := if h : s.ctorIdx = 2 then PySem.Expr.BinOp.elim (motive_1 := fun _ => α) s h f else d
theorem xBinOp_or {α : Type} {P : α → Prop} {d : α} {s : PySem.Expr} {f : PySem.Expr → Operator → PySem.Expr → Pos → α} (h1 : ∀ a0 a1 a2 a3, s = PySem.Expr.BinOp a0 a1 a2 a3 → P (f a0 a1 a2 a3)) (h2 : s.ctorIdx ≠ 2 → P d) : P (xBinOp d s f) :=
  dite_or (fun hc => PySem.Expr.BinOp.elim (motive_1 := fun s => ∀ hc, (∀ a0 a1 a2 a3, s = PySem.Expr.BinOp a0 a1 a2 a3 → P (f a0 a1 a2 a3)) → P (PySem.Expr.BinOp.elim (motive_1 := fun _ => α) s hc f)) s hc (fun a0 a1 a2 a3 _ h => h a0 a1 a2 a3 rfl) hc h1) h2
theorem xBinOp_inv {α : Type} {d b : α} {s : PySem.Expr} {f : PySem.Expr → Operator → PySem.Expr → Pos → α} (hb : b ≠ d) (h : xBinOp d s f = b) : ∃ a0 a1 a2 a3, s = PySem.Expr.BinOp a0 a1 a2 a3 ∧ f a0 a1 a2 a3 = b :=
  xBinOp_or (P := fun v => v = b → ∃ a0 a1 a2 a3, s = PySem.Expr.BinOp a0 a1 a2 a3 ∧ f a0 a1 a2 a3 = b) (fun a0 a1 a2 a3 e h => ⟨a0, a1, a2, a3, e, h⟩) (fun _ h => absurd h.symm hb) h
noncomputable def xUnaryOp {α : Type} (d : α) (s : PySem.Expr) (f : UnaryOp → PySem.Expr → Pos → α) : α := if h : s.ctorIdx = 3 then PySem.Expr.UnaryOp.elim (motive_1 := fun _ => α) s h f else d
theorem xUnaryOp_or {α : Type} {P : α → Prop} {d : α} {s : PySem.Expr} {f : UnaryOp → PySem.Expr → Pos → α} (h1 : ∀ a0 a1 a2, s = PySem.Expr.UnaryOp a0 a1 a2 → P (f a0 a1 a2)) (h2 : s.ctorIdx ≠ 3 → P d) : P (xUnaryOp d s f) :=
  dite_or (fun hc => PySem.Expr.UnaryOp.elim (motive_1 := fun s => ∀ hc, (∀ a0 a1 a2, s = PySem.Expr.UnaryOp a0 a1 a2 → P (f a0 a1 a2)) → P (PySem.Expr.UnaryOp.elim (motive_1 := fun _ => α) s hc f)) s hc (fun a0 a1 a2 _ h => h a0 a1 a2 rfl) hc h1) h2
noncomputable def xIfExp {α : Type} (d : α) (s : PySem.Expr) (f : PySem.Expr → PySem.Expr → PySem.Expr → Pos → α) : α := if h : s.ctorIdx = 5 then PySem.Expr.IfExp.elim (motive_1 := fun _ => α) s h f else d
theorem xIfExp_or {α : Type} {P : α → Prop} {d : α} {s : PySem.Expr} {f : PySem.Expr → PySem.Expr → PySem.Expr → Pos → α} (h1 : ∀ a0 a1 a2 a3, s = PySem.Expr.IfExp a0 a1 a2 a3 → P (f a0 a1 a2 a3)) (h2 : s.ctorIdx ≠ 5 → P d) : P (xIfExp d s f) :=
  dite_or (fun hc => PySem.Expr.IfExp.elim (motive_1 := fun s => ∀ hc, (∀ a0 a1 a2 a3, s = PySem.Expr.IfExp a0 a1 a2 a3 → P (f a0 a1 a2 a3)) → P (PySem.Expr.IfExp.elim (motive_1 := fun _ => α) s hc f)) s hc (fun a0 a1 a2 a3 _ h => h a0 a1 a2 a3 rfl) hc h1) h2
theorem xIfExp_inv {α : Type} {d b : α} {s : PySem.Expr} {f : PySem.Expr → PySem.Expr → PySem.Expr → Pos → α} (hb : b ≠ d) (h : xIfExp d s f = b) : ∃ a0 a1 a2 a3, s = PySem.Expr.IfExp a0 a1 a2 a3 ∧ f a0 a1 a2 a3 = b :=
  xIfExp_or (P := fun v => v = b → ∃ a0 a1 a2 a3, s = PySem.Expr.IfExp a0 a1 a2 a3 ∧ f a0 a1 a2 a3 = b) (fun a0 a1 a2 a3 e h => ⟨a0, a1, a2, a3, e, h⟩) (fun _ h => absurd h.symm hb) h
noncomputable def xDict {α : Type} (d : α) (s : PySem.Expr) (f : List (Option PySem.Expr) → List PySem.Expr → Pos → α) : α := if h : s.ctorIdx = 6 then PySem.Expr.Dict.elim (motive_1 := fun _ => α) s h f else d
theorem xDict_or {α : Type} {P : α → Prop} {d : α} {s : PySem.Expr} {f : List (Option PySem.Expr) → List PySem.Expr → Pos → α} (h1 : ∀ a0 a1 a2, s = PySem.Expr.Dict a0 a1 a2 → P (f a0 a1 a2)) (h2 : s.ctorIdx ≠ 6 → P d) : P (xDict d s f) :=
  dite_or (fun hc => PySem.Expr.Dict.elim (motive_1 := fun s => ∀ hc, (∀ a0 a1 a2, s = PySem.Expr.Dict a0 a1 a2 → P (f a0 a1 a2)) → P (PySem.Expr.Dict.elim (motive_1 := fun _ => α) s hc f)) s hc (fun a0 a1 a2 _ h => h a0 a1 a2 rfl) hc h1) h2
noncomputable def xListComp {α : Type} (d : α) (s : PySem.Expr) (f : PySem.Expr → List Comprehension → Scope → Pos → α) : α := if h : s.ctorIdx = 8 then PySem.Expr.ListComp.elim (motive_1 := fun _ => α) s h f else d
theorem xListComp_or {α : Type} {P : α → Prop} {d : α} {s : PySem.Expr} {f : PySem.Expr → List Comprehension → Scope → Pos → α} (h1 : ∀ a0 a1 a2 a3, s = PySem.Expr.ListComp a0 a1 a2 a3 → P (f a0 a1 a2 a3)) (h2 : s.ctorIdx ≠ 8 → P d) : P (xListComp d s f) :=
  dite_or (fun hc => PySem.Expr.ListComp.elim (motive_1 := fun s => ∀ hc, (∀ a0 a1 a2 a3, s = PySem.Expr.ListComp a0 a1 a2 a3 → P (f a0 a1 a2 a3)) → P (PySem.Expr.ListComp.elim (motive_1 := fun _ => α) s hc f)) s hc (fun a0 a1 a2 a3 _ h => h a0 a1 a2 a3 rfl) hc h1) h2
theorem xListComp_inv {α : Type} {d b : α} {s : PySem.Expr} {f : PySem.Expr → List Comprehension → Scope → Pos → α} (hb : b ≠ d) (h : xListComp d s f = b) : ∃ a0 a1 a2 a3, s = PySem.Expr.ListComp a0 a1 a2 a3 ∧ f a0 a1 a2 a3 = b :=
  xListComp_or (P := fun v => v = b → ∃ a0 a1 a2 a3, s = PySem.Expr.ListComp a0 a1 a2 a3 ∧ f a0 a1 a2 a3 = b) (fun a0 a1 a2 a3 e h => ⟨a0, a1, a2, a3, e, h⟩) (fun _ h => absurd h.symm hb) h
noncomputable def xDictComp {α : Type} (d : α) (s : PySem.Expr) (f : PySem.Expr → PySem.Expr → List Comprehension → Scope → Pos → α) : α := if h : s.ctorIdx = 10 then PySem.Expr.DictComp.elim (motive_1 := fun _ => α) s h f else d
theorem xDictComp_or {α : Type} {P : α → Prop} {d : α} {s : PySem.Expr} {f : PySem.Expr → PySem.Expr → List Comprehension → Scope → Pos → α} (h1 : ∀ a0 a1 a2 a3 a4, s = PySem.Expr.DictComp a0 a1 a2 a3 a4 → P (f a0 a1 a2 a3 a4)) (h2 : s.ctorIdx ≠ 10 → P d) : P (xDictComp d s f) :=
  dite_or (fun hc => PySem.Expr.DictComp.elim (motive_1 := fun s => ∀ hc, (∀ a0 a1 a2 a3 a4, s = PySem.Expr.DictComp a0 a1 a2 a3 a4 → P (f a0 a1 a2 a3 a4)) → P (PySem.Expr.DictComp.elim (motive_1 := fun _ => α) s hc f)) s hc (fun a0 a1 a2 a3 a4 _ h => h a0 a1 a2 a3 a4 rfl) hc h1) h2
noncomputable def xCompare {α : Type} (d : α) (s : PySem.Expr) (f : PySem.Expr → List CmpOp → List PySem.Expr → Pos → α) : α := if h : s.ctorIdx = 15 then PySem.Expr.Compare.elim (motive_1 := fun _ => α) s h f else d
theorem xCompare_or {α : Type} {P : α → Prop} {d : α} {s : PySem.Expr} {f : PySem.Expr → List CmpOp → List PySem.Expr → Pos → α} (h1 : ∀ a0 a1 a2 a3, s = PySem.Expr.Compare a0 a1 a2 a3 → P (f a0 a1 a2 a3)) (h2 : s.ctorIdx ≠ 15 → P d) : P (xCompare d s f) :=
  dite_or (fun hc => PySem.Expr.Compare.elim (motive_1 := fun s => ∀ hc, (∀ a0 a1 a2 a3, s = PySem.Expr.Compare a0 a1 a2 a3 → P (f a0 a1 a2 a3)) → P (PySem.Expr.Compare.elim (motive_1 := fun _ => α) s hc f)) s hc (fun a0 a1 a2 a3 _ h => h a0 a1 a2 a3 rfl) hc h1) h2
theorem xCompare_inv {α : Type} {d b : α} {s : PySem.Expr} {f : PySem.Expr → List CmpOp → List PySem.Expr → Pos → α} (hb : b ≠ d) (h : xCompare d s f = b) : ∃ a0 a1 a2 a3, s = PySem.Expr.Compare a0 a1 a2 a3 ∧ f a0 a1 a2 a3 = b :=
  xCompare_or (P := fun v => v = b → ∃ a0 a1 a2 a3, s = PySem.Expr.Compare a0 a1 a2 a3 ∧ f a0 a1 a2 a3 = b) (fun a0 a1 a2 a3 e h => ⟨a0, a1, a2, a3, e, h⟩) (fun _ h => absurd h.symm hb) h
noncomputable def xCall {α : Type} (d : α) (s : PySem.Expr) (f : PySem.Expr → List PySem.Expr → List Keyword → Pos → α) : α := if h : s.ctorIdx = 16 then PySem.Expr.Call.elim (motive_1 := fun _ => α) s h f else d
theorem xCall_or {α : Type} {P : α → Prop} {d : α} {s : PySem.Expr} {f : PySem.Expr → List PySem.Expr → List Keyword → Pos → α} (h1 : ∀ a0 a1 a2 a3, s = PySem.Expr.Call a0 a1 a2 a3 → P (f a0 a1 a2 a3)) (h2 : s.ctorIdx ≠ 16 → P d) : P (xCall d s f) :=
  dite_or (fun hc => PySem.Expr.Call.elim (motive_1 := fun s => ∀ hc, (∀ a0 a1 a2 a3, s = PySem.Expr.Call a0 a1 a2 a3 → P (f a0 a1 a2 a3)) → P (PySem.Expr.Call.elim (motive_1 := fun _ => α) s hc f)) s hc (fun a0 a1 a2 a3 _ h => h a0 a1 a2 a3 rfl) hc h1) h2
theorem xCall_inv {α : Type} {d b : α} {s : PySem.Expr} {f : PySem.Expr → List PySem.Expr → List Keyword → Pos → α} (hb : b ≠ d) (h : xCall d s f = b) : ∃ a0 a1 a2 a3, s = PySem.Expr.Call a0 a1 a2 a3 ∧ f a0 a1 a2 a3 = b :=
  xCall_or (P := fun v => v = b → ∃ a0 a1 a2 a3, s = PySem.Expr.Call a0 a1 a2 a3 ∧ f a0 a1 a2 a3 = b) (fun a0 a1 a2 a3 e h => ⟨a0, a1, a2, a3, e, h⟩) (fun _ h => absurd h.symm hb) h
noncomputable def xConstant {α : Type} (d : α) (s : PySem.Expr) (f : Const → Nat → Pos → α) : α := if h : s.ctorIdx = 19 then PySem.Expr.Constant.elim (motive_1 := fun _ => α) s h f else d
theorem xConstant_or {α : Type} {P : α → Prop} {d : α} {s : PySem.Expr} {f : Const → Nat → Pos → α} (h1 : ∀ a0 a1 a2, s = PySem.Expr.Constant a0 a1 a2 → P (f a0 a1 a2)) (h2 : s.ctorIdx ≠ 19 → P d) : P (xConstant d s f) :=
  dite_or (fun hc => PySem.Expr.Constant.elim (motive_1 := fun s => ∀ hc, (∀ a0 a1 a2, s = PySem.Expr.Constant a0 a1 a2 → P (f a0 a1 a2)) → P (PySem.Expr.Constant.elim (motive_1 := fun _ => α) s hc f)) s hc (fun a0 a1 a2 _ h => h a0 a1 a2 rfl) hc h1) h2
theorem xConstant_inv {α : Type} {d b : α} {s : PySem.Expr} {f : Const → Nat → Pos → α} (hb : b ≠ d) (h : xConstant d s f = b) : ∃ a0 a1 a2, s = PySem.Expr.Constant a0 a1 a2 ∧ f a0 a1 a2 = b :=
  xConstant_or (P := fun v => v = b → ∃ a0 a1 a2, s = PySem.Expr.Constant a0 a1 a2 ∧ f a0 a1 a2 = b) (fun a0 a1 a2 e h => ⟨a0, a1, a2, e, h⟩) (fun _ h => absurd h.symm hb) h
noncomputable def xAttribute {α : Type} (d : α) (s : PySem.Expr) (f : PySem.Expr → Str → Pos → α) : α := if h : s.ctorIdx = 20 then PySem.Expr.Attribute.elim (motive_1 := fun _ => α) s h f else d
theorem xAttribute_or {α : Type} {P : α → Prop} {d : α} {s : PySem.Expr} {f : PySem.Expr → Str → Pos → α} (h1 : ∀ a0 a1 a2, s = PySem.Expr.Attribute a0 a1 a2 → P (f a0 a1 a2)) (h2 : s.ctorIdx ≠ 20 → P d) : P (xAttribute d s f) :=
  dite_or (fun hc => PySem.Expr.Attribute.elim (motive_1 := fun s => ∀ hc, (∀ a0 a1 a2, s = PySem.Expr.Attribute a0 a1 a2 → P (f a0 a1 a2)) → P (PySem.Expr.Attribute.elim (motive_1 := fun _ => α) s hc f)) s hc (fun a0 a1 a2 _ h => h a0 a1 a2 rfl) hc h1) h2
theorem xAttribute_inv {α : Type} {d b : α} {s : PySem.Expr} {f : PySem.Expr → Str → Pos → α} (hb : b ≠ d) (h : xAttribute d s f = b) : ∃ a0 a1 a2, s = PySem.Expr.Attribute a0 a1 a2 ∧ f a0 a1 a2 = b :=
  xAttribute_or (P := fun v => v = b → ∃ a0 a1 a2, s = PySem.Expr.Attribute a0 a1 a2 ∧ f a0 a1 a2 = b) (fun a0 a1 a2 e h => ⟨a0, a1, a2, e, h⟩) (fun _ h => absurd h.symm hb) h
noncomputable def xSubscript {α : Type} (d : α) (s : PySem.Expr) (f : PySem.Expr → PySem.Expr → Pos → α) : α := if h : s.ctorIdx = 21 then PySem.Expr.Subscript.elim (motive_1 := fun _ => α) s h f else d
theorem xSubscript_or {α : Type} {P : α → Prop} {d : α} {s : PySem.Expr} {f : PySem.Expr → PySem.Expr → Pos → α} (h1 : ∀ a0 a1 a2, s = PySem.Expr.Subscript a0 a1 a2 → P (f a0 a1 a2)) (h2 : s.ctorIdx ≠ 21 → P d) : P (xSubscript d s f) :=
  dite_or (fun hc => PySem.Expr.Subscript.elim (motive_1 := fun s => ∀ hc, (∀ a0 a1 a2, s = PySem.Expr.Subscript a0 a1 a2 → P (f a0 a1 a2)) → P (PySem.Expr.Subscript.elim (motive_1 := fun _ => α) s hc f)) s hc (fun a0 a1 a2 _ h => h a0 a1 a2 rfl) hc h1) h2
theorem xSubscript_inv {α : Type} {d b : α} {s : PySem.Expr} {f : PySem.Expr → PySem.Expr → Pos → α} (hb : b ≠ d) (h : xSubscript d s f = b) : ∃ a0 a1 a2, s = PySem.Expr.Subscript a0 a1 a2 ∧ f a0 a1 a2 = b :=
  xSubscript_or (P := fun v => v = b → ∃ a0 a1 a2, s = PySem.Expr.Subscript a0 a1 a2 ∧ f a0 a1 a2 = b) (fun a0 a1 a2 e h => ⟨a0, a1, a2, e, h⟩) (fun _ h => absurd h.symm hb) h
noncomputable def xName {α : Type} (d : α) (s : PySem.Expr) (f : Str → Pos → α) : α := if h : s.ctorIdx = 23 then PySem.Expr.Name.elim (motive_1 := fun _ => α) s h f else d
theorem xName_or {α : Type} {P : α → Prop} {d : α} {s : PySem.Expr} {f : Str → Pos → α} (h1 : ∀ a0 a1, s = PySem.Expr.Name a0 a1 → P (f a0 a1)) (h2 : s.ctorIdx ≠ 23 → P d) : P (xName d s f) :=
  dite_or (fun hc => PySem.Expr.Name.elim (motive_1 := fun s => ∀ hc, (∀ a0 a1, s = PySem.Expr.Name a0 a1 → P (f a0 a1)) → P (PySem.Expr.Name.elim (motive_1 := fun _ => α) s hc f)) s hc (fun a0 a1 _ h => h a0 a1 rfl) hc h1) h2
theorem xName_inv {α : Type} {d b : α} {s : PySem.Expr} {f : Str → Pos → α} (hb : b ≠ d) (h : xName d s f = b) : ∃ a0 a1, s = PySem.Expr.Name a0 a1 ∧ f a0 a1 = b :=
  xName_or (P := fun v => v = b → ∃ a0 a1, s = PySem.Expr.Name a0 a1 ∧ f a0 a1 = b) (fun a0 a1 e h => ⟨a0, a1, e, h⟩) (fun _ h => absurd h.symm hb) h
noncomputable def xList {α : Type} (d : α) (s : PySem.Expr) (f : List PySem.Expr → Pos → α) : α := if h : s.ctorIdx = 24 then PySem.Expr.List.elim (motive_1 := fun _ => α) s h f else d
theorem xList_or {α : Type} {P : α → Prop} {d : α} {s : PySem.Expr} {f : List PySem.Expr → Pos → α} (h1 : ∀ a0 a1, s = PySem.Expr.List a0 a1 → P (f a0 a1)) (h2 : s.ctorIdx ≠ 24 → P d) : P (xList d s f) :=
  dite_or (fun hc => PySem.Expr.List.elim (motive_1 := fun s => ∀ hc, (∀ a0 a1, s = PySem.Expr.List a0 a1 → P (f a0 a1)) → P (PySem.Expr.List.elim (motive_1 := fun _ => α) s hc f)) s hc (fun a0 a1 _ h => h a0 a1 rfl) hc h1) h2
theorem xList_inv {α : Type} {d b : α} {s : PySem.Expr} {f : List PySem.Expr → Pos → α} (hb : b ≠ d) (h : xList d s f = b) : ∃ a0 a1, s = PySem.Expr.List a0 a1 ∧ f a0 a1 = b :=
  xList_or (P := fun v => v = b → ∃ a0 a1, s = PySem.Expr.List a0 a1 ∧ f a0 a1 = b) (fun a0 a1 e h => ⟨a0, a1, e, h⟩) (fun _ h => absurd h.symm hb) h
noncomputable def xTuple {α : Type} (d : α) (s : PySem.Expr) (f : List PySem.Expr → Nat → Pos → α) : α := if h : s.ctorIdx = 25 then PySem.Expr.Tuple.elim (motive_1 := fun _ => α) s h f else d
theorem xTuple_or {α : Type} {P : α → Prop} {d : α} {s : PySem.Expr} {f : List PySem.Expr → Nat → Pos → α} (h1 : ∀ a0 a1 a2, s = PySem.Expr.Tuple a0 a1 a2 → P (f a0 a1 a2)) (h2 : s.ctorIdx ≠ 25 → P d) : P (xTuple d s f) :=
  dite_or (fun hc => PySem.Expr.Tuple.elim (motive_1 := fun s => ∀ hc, (∀ a0 a1 a2, s = PySem.Expr.Tuple a0 a1 a2 → P (f a0 a1 a2)) → P (PySem.Expr.Tuple.elim (motive_1 := fun _ => α) s hc f)) s hc (fun a0 a1 a2 _ h => h a0 a1 a2 rfl) hc h1) h2
theorem xTuple_inv {α : Type} {d b : α} {s : PySem.Expr} {f : List PySem.Expr → Nat → Pos → α} (hb : b ≠ d) (h : xTuple d s f = b) : ∃ a0 a1 a2, s = PySem.Expr.Tuple a0 a1 a2 ∧ f a0 a1 a2 = b :=
  xTuple_or (P := fun v => v = b → ∃ a0 a1 a2, s = PySem.Expr.Tuple a0 a1 a2 ∧ f a0 a1 a2 = b) (fun a0 a1 a2 e h => ⟨a0, a1, a2, e, h⟩) (fun _ h => absurd h.symm hb) h
noncomputable def xSlice {α : Type} (d : α) (s : PySem.Expr) (f : Option PySem.Expr → Option PySem.Expr → Option PySem.Expr → Pos → α) : α := if h : s.ctorIdx = 26 then PySem.Expr.Slice.elim (motive_1 := fun _ => α) s h f else d
theorem xSlice_or {α : Type} {P : α → Prop} {d : α} {s : PySem.Expr} {f : Option PySem.Expr → Option PySem.Expr → Option PySem.Expr → Pos → α} (h1 : ∀ a0 a1 a2 a3, s = PySem.Expr.Slice a0 a1 a2 a3 → P (f a0 a1 a2 a3)) (h2 : s.ctorIdx ≠ 26 → P d) : P (xSlice d s f) :=
  dite_or (fun hc => PySem.Expr.Slice.elim (motive_1 := fun s => ∀ hc, (∀ a0 a1 a2 a3, s = PySem.Expr.Slice a0 a1 a2 a3 → P (f a0 a1 a2 a3)) → P (PySem.Expr.Slice.elim (motive_1 := fun _ => α) s hc f)) s hc (fun a0 a1 a2 a3 _ h => h a0 a1 a2 a3 rfl) hc h1) h2
theorem xSlice_inv {α : Type} {d b : α} {s : PySem.Expr} {f : Option PySem.Expr → Option PySem.Expr → Option PySem.Expr → Pos → α} (hb : b ≠ d) (h : xSlice d s f = b) : ∃ a0 a1 a2 a3, s = PySem.Expr.Slice a0 a1 a2 a3 ∧ f a0 a1 a2 a3 = b :=
  xSlice_or (P := fun v => v = b → ∃ a0 a1 a2 a3, s = PySem.Expr.Slice a0 a1 a2 a3 ∧ f a0 a1 a2 a3 = b) (fun a0 a1 a2 a3 e h => ⟨a0, a1, a2, a3, e, h⟩) (fun _ h => absurd h.symm hb) h
noncomputable def dE : Expr := .Tuple [] 0 default
noncomputable def one {α β : Type} (d : β) (l : List α) (f : α → β) : β := match l with
  | [x] => f x
  | _ => d
noncomputable def hd1 {α β : Type} (d : β) (l : List α) (f : α → List α → β) : β := match l with
  | x :: l => f x l
  | [] => d
noncomputable def nil1 {α β : Type} (d : β) (l : List α) (b : β) : β := match l with
  | [] => b
  | _ :: _ => d
noncomputable def non {α β : Type} (d : β) (o : Option α) (b : β) : β := match o with
  | none => b
  | some _ => d
noncomputable def yes {α β : Type} (d : β) (o : Option α) (f : α → β) : β := match o with
  | none => d
  | some x => f x
noncomputable def cnone {β : Type} (d : β) (k : Const) (b : β) : β := if k.ctorIdx = 0 then b else d
noncomputable def cstr {β : Type} (d : β) (k : Const) (f : Str → β) : β := if h : k.ctorIdx = 5 then Const.str.elim (motive := fun _ => β) k h f else d
noncomputable def cpT : Comprehension → Expr
  | .mk t _ _ _ => t
noncomputable def cpI : Comprehension → Expr
  | .mk _ i _ _ => i
noncomputable def cpF : Comprehension → List Expr
  | .mk _ _ f _ => f
noncomputable def cpA : Comprehension → Int
  | .mk _ _ _ a => a
noncomputable def ehT : ExceptHandler → Option Expr
  | .ExceptHandler t _ _ _ => t
noncomputable def ehN : ExceptHandler → Option Str
  | .ExceptHandler _ n _ _ => n
noncomputable def ehB : ExceptHandler → List Stmt
  | .ExceptHandler _ _ b _ => b
section
variable {α β : Type} {d b : β} {P : β → Prop}
theorem one_or {l : List α} {f : α → β} (h1 : ∀ x, l = [x] → P (f x)) (h2 : P d) : P (one d l f) := by
  rcases l with _ | ⟨y, _ | _⟩
  · exact h2
  · exact h1 y rfl
  · exact h2
theorem hd1_or {l : List α} {f : α → List α → β} (h1 : ∀ x r, l = x :: r → P (f x r)) (h2 : P d) : P (hd1 d l f) := by
  cases l with
  | nil => exact h2
  | cons y l => exact h1 y l rfl
theorem nil1_or {l : List α} {x : β} (h1 : l = [] → P x) (h2 : P d) : P (nil1 d l x) := by
  cases l with
  | nil => exact h1 rfl
  | cons => exact h2
theorem non_or {o : Option α} {x : β} (h1 : o = none → P x) (h2 : P d) : P (non d o x) := by
  cases o with
  | none => exact h1 rfl
  | some => exact h2
theorem yes_or {o : Option α} {f : α → β} (h1 : ∀ x, o = some x → P (f x)) (h2 : P d) : P (yes d o f) := by
  cases o with
  | none => exact h2
  | some x => exact h1 x rfl
theorem cnone_or {k : Const} {x : β} (h1 : k = .none → P x) (h2 : P d) : P (cnone d k x) := ite_or (fun c => h1 (Const.none.elim (motive := fun k => k = .none) k c rfl)) fun _ => h2
theorem cstr_or {k : Const} {f : Str → β} (h1 : ∀ x, k = .str x → P (f x)) (h2 : P d) : P (cstr d k f) :=
  dite_or (fun hc => Const.str.elim (motive := fun s => ∀ hc, (∀ x, s = .str x → P (f x)) → P (Const.str.elim (motive := fun _ => β) s hc f)) k hc (fun x _ h => h x rfl) hc h1) fun _ => h2
theorem one_inv {l : List α} {f : α → β} (hb : b ≠ d) (h : one d l f = b) : ∃ x, l = [x] ∧ f x = b := one_or (P := fun v => v = b → ∃ x, l = [x] ∧ f x = b) (fun x e h => ⟨x, e, h⟩) (fun h => absurd h.symm hb) h
theorem hd1_inv {l : List α} {f : α → List α → β} (hb : b ≠ d) (h : hd1 d l f = b) : ∃ x r, l = x :: r ∧ f x r = b := hd1_or (P := fun v => v = b → ∃ x r, l = x :: r ∧ f x r = b) (fun x r e h => ⟨x, r, e, h⟩) (fun h => absurd h.symm hb) h
theorem nil1_inv {l : List α} {x : β} (hb : b ≠ d) (h : nil1 d l x = b) : l = [] ∧ x = b := nil1_or (P := fun v => v = b → l = [] ∧ x = b) (fun e h => ⟨e, h⟩) (fun h => absurd h.symm hb) h
theorem non_inv {o : Option α} {x : β} (hb : b ≠ d) (h : non d o x = b) : o = none ∧ x = b := non_or (P := fun v => v = b → o = none ∧ x = b) (fun e h => ⟨e, h⟩) (fun h => absurd h.symm hb) h
theorem yes_inv {o : Option α} {f : α → β} (hb : b ≠ d) (h : yes d o f = b) : ∃ x, o = some x ∧ f x = b := yes_or (P := fun v => v = b → ∃ x, o = some x ∧ f x = b) (fun x e h => ⟨x, e, h⟩) (fun h => absurd h.symm hb) h
theorem cnone_inv {k : Const} {x : β} (hb : b ≠ d) (h : cnone d k x = b) : k = .none ∧ x = b := cnone_or (P := fun v => v = b → k = .none ∧ x = b) (fun e h => ⟨e, h⟩) (fun h => absurd h.symm hb) h
theorem cstr_inv {k : Const} {f : Str → β} (hb : b ≠ d) (h : cstr d k f = b) : ∃ x, k = .str x ∧ f x = b := cstr_or (P := fun v => v = b → ∃ x, k = .str x ∧ f x = b) (fun x e h => ⟨x, e, h⟩) (fun h => absurd h.symm hb) h
end
theorem tf : true ≠ false := fun h => nomatch h
theorem sn {α : Type} {x : α} : some x ≠ none := fun h => nomatch h
theorem band {a b : Bool} (h : (a && b) = true) : a = true ∧ b = true := Bool.and_eq_true_iff.mp h
theorem dand {p : Prop} [Decidable p] {b : Bool} (h : (decide p && b) = true) : p ∧ b = true := ⟨of_decide_eq_true (band h).1, (band h).2⟩
/-- a call of a name, no keywords -/
noncomputable def xCallN {β : Type} (d : β) (e : Expr) (f : Str → Pos → List Expr → Pos → β) : β := xCall d e fun g as ks p => nil1 d ks (xName d g fun x q => f x q as p)
theorem xCallN_or {β : Type} {P : β → Prop} {d : β} {e : Expr} {f : Str → Pos → List Expr → Pos → β} (h1 : ∀ x q as p, e = .Call (.Name x q) as [] p → P (f x q as p)) (h2 : P d) : P (xCallN d e f) :=
  xCall_or (fun g as ks p e1 => nil1_or (fun e2 => xName_or (fun x q e3 => h1 x q as p (by rw [e1, e2, e3])) fun _ => h2) h2) fun _ => h2
theorem xCallN_inv {β : Type} {d b : β} {e : Expr} {f : Str → Pos → List Expr → Pos → β} (hb : b ≠ d) (h : xCallN d e f = b) : ∃ x q as p, e = .Call (.Name x q) as [] p ∧ f x q as p = b :=
  xCallN_or (P := fun v => v = b → ∃ x q as p, e = .Call (.Name x q) as [] p ∧ f x q as p = b) (fun x q as p e h => ⟨x, q, as, p, e, h⟩) (fun h => absurd h.symm hb) h
end Mine
namespace Mine
open PySem

structure FnDef where
  name : Str
  params : Arguments
  body : List Stmt
  scope : Scope
  deriving Inhabited

noncomputable def fnOfStmt (s : Stmt) : Option FnDef := sFunctionDef none s fun n a b _ _ _ sc _ _ _ => some ⟨n, a, b, sc⟩
noncomputable def findFn (g : Str) : List Stmt → Option FnDef
  | [] => none
  | s :: r => match fnOfStmt s with
    | some d => if d.name = g then some d else findFn g r
    | none => findFn g r

structure Ev where
  e : Scope → Expr → R LV
  b : Scope → Expr → R Bool
  s : Scope → Stmt → R Fl
  c : Str → Option MO → List PV → CRes

noncomputable def isVar (sc : Scope) (x : Str) : Bool := match sc.names.lookup x with
  | some .local | some .cell | some .free => true
  | _ => false
noncomputable def isLocal (sc : Scope) (x : Str) : Bool := sc.names.lookup x == some .local && !(x == ("__debug__" : Str)) && !(x == ("__classdict__" : Str))
noncomputable def isGlob (sc : Scope) (x : Str) : Bool := sc.names.lookup x == some .globalImplicit

noncomputable def varR (x : Str) : R PV := fun lo => match getLo lo x with
  | some (.pv p) => .ok p lo
  | some (.own m) => .ok m.pv (setLo lo x (.pv m.pv))
  | none => .fail
noncomputable def nameR (sc : Scope) (x : Str) : R PV :=
  if x = "__debug__" ∨ x = "__classdict__" then .fail else
  if isVar sc x then varR x
  else if isGlob sc x then .lift (gconst x) else .fail
noncomputable def excR : R Fl := fun _ => .exc
noncomputable def retOwn (x : Str) : R Fl := fun lo => match getLo lo x with
  | some (.own m) => .ok (.ret (.own m)) lo
  | _ => .fail
noncomputable def tryR (t : R Fl) : R Fl := fun lo => match t lo with
  | .exc => .ok (.ret (.pv .none)) []
  | q => q

namespace Ev
variable (r : Ev)
noncomputable def pvE (sc : Scope) (e : Expr) : R PV := (r.e sc e).bind fun v => .ret v.toPV
noncomputable def rdOr (x : Str) (f : R Rd) : R Rd := fun lo => match getLo lo x with
  | some (.own _) => .ok (.var x) lo
  | _ => f lo
noncomputable def rdG (sc : Scope) (e : Expr) : R Rd := (r.pvE sc e).bind fun p => .ret (.pv p)
noncomputable def rdE (sc : Scope) (e : Expr) : R Rd := xName (r.rdG sc e) e fun x _ => if isLocal sc x then rdOr x (r.rdG sc e) else r.rdG sc e
noncomputable def val : Rd → R PV
  | .pv p => .ret p
  | .var x => fun lo => match getLo lo x with
    | some v => .ok v.toPV lo
    | none => .fail
noncomputable def isStar (e : Expr) : Bool := decide (e.ctorIdx = 22)
noncomputable def evs (sc : Scope) : List Expr → R (List PV)
  | [] => .ret []
  | e :: es => if isStar e then .fail else (r.pvE sc e).bind fun p => (evs sc es).bind fun ps => .ret (p :: ps)
/-- the constant texts of a display -/
noncomputable def strE (e : Expr) : Option Str := xConstant none e fun k _ _ => cstr none k some
noncomputable def strPairs : List (Option Expr) → List Expr → Option (List (Str × Str))
  | [], [] => some []
  | k :: kr, v :: vr => (k.bind strE).bind fun a => (strE v).bind fun b => (strPairs kr vr).map ((a, b) :: ·)
  | _, _ => none
noncomputable def dictE (ks : List (Option Expr)) (vs : List Expr) : Option LV := match strPairs ks vs with
  | some [] => some (.own (.dcti [] []))
  | some l => if (l.map (·.1)).Nodup ∧ l.length < 2 ^ 10 then some (.own (.dcts (l.map (·.1)) (l.map fun p => .str p.2))) else none
  | none => none
noncomputable def boolE (sc : Scope) (op : BoolOp) : List Expr → R PV
  | [] => .fail
  | [e] => r.pvE sc e
  | e :: es => (r.pvE sc e).bind fun p => (R.lift (truth p)).bind fun t => match op, t with
    | .And, false | .Or, true => .ret p
    | _, _ => boolE sc op es
noncomputable def boolB (sc : Scope) (op : BoolOp) : List Expr → R Bool
  | [] => .fail
  | [e] => r.b sc e
  | e :: es => (r.b sc e).bind fun t => match op, t with
    | .And, false => .ret false
    | .Or, true => .ret true
    | _, _ => boolB sc op es
/-- the tests of a comprehension's clause -/
noncomputable def tests (sc : Scope) : List Expr → R Bool
  | [] => .ret true
  | [e] => r.b sc e
  | _ => .fail
/-- a turn of a block runs over its own names -/
noncomputable def inLo {α : Type} (lo' : Lo) (x : R α) : R α := fun lo => match x lo' with
  | .ok a _ => .ok a lo
  | .exc => .exc
  | .fail => .fail
noncomputable def pvFree (scope : Scope) (x : Str) : Option LV → Option LV
  | some (.pv p) => if scope.names.lookup x = some .free then some (.pv p) else none
  | _ => none
noncomputable def pvOnly (scope : Scope) : Lo → Lo
  | [] => []
  | (x, v) :: r => (x, pvFree scope x v) :: pvOnly scope r
noncomputable def dsetS (m : MO) (k v : PV) : Option MO := if (match m with | .lst l => l.length | .dcti ks _ => ks.length | .dcts ks _ => ks.length | .dctt ks _ => ks.length) < 2 ^ 20 then dset m k v else none
noncomputable def compGo (f : PV → R (Option PV)) : List PV → R (List PV)
  | [] => .ret []
  | p :: ps => (f p).bind fun o => (compGo f ps).bind fun l => .ret (o.toList ++ l)
noncomputable def dcompGo (f : PV → R (Option (PV × PV))) : List PV → MO → R MO
  | [], m => .ret m
  | p :: ps, m => (f p).bind fun o => match o with
    | none => dcompGo f ps m
    | some kv => (R.lift (dsetS m kv.1 kv.2)).bind fun m' => dcompGo f ps m'
noncomputable def onItem {α : Type} (scope : Scope) (x : Str) (body : R α) (p : PV) : R α := fun lo => inLo ((x, some (.pv p)) :: pvOnly scope lo) body lo
/-- a block's own frame; isCoroutine is its mark -/
noncomputable def marked (scope : Scope) : Scope := { scope with isCoroutine := true }
noncomputable def isSetE (e : Expr) : Bool := decide (e.ctorIdx = 7)
noncomputable def compOk (sc scope : Scope) (x : Str) (it : Expr) : Bool :=
  !isSetE it && decide (scope.kind = .function) && isLocal scope x && !scope.isCoroutine && scope.names.all fun p => decide (p.2 ≠ .cell) && (decide (p.2 ≠ .local) || decide (scope.names.lookup p.1 = some .local)) && (decide (p.2 ≠ .free) || decide (sc.names.lookup p.1 = some .cell))
noncomputable def listCompE (sc scope : Scope) (elt : Expr) (x : Str) (it : Expr) (ifs : List Expr) : R LV := if compOk sc scope x it then
  (r.pvE sc it).bind fun p => (R.lift ((itemsOf p).bind small)).bind fun items =>
    (compGo (onItem scope x ((r.tests (marked scope) ifs).bind fun t => if t then (r.pvE (marked scope) elt).bind fun y => .ret (some y) else .ret none)) items).bind fun l => .ret (.own (.lst l)) else .fail
noncomputable def dictCompE (sc scope : Scope) (k v : Expr) (x : Str) (it : Expr) (ifs : List Expr) : R LV := if compOk sc scope x it then
  (r.pvE sc it).bind fun p => (R.lift ((keysOf p).bind small)).bind fun items =>
    (dcompGo (onItem scope x ((r.tests (marked scope) ifs).bind fun t => if t then (r.pvE (marked scope) k).bind fun y => (r.pvE (marked scope) v).bind fun z => .ret (some (y, z)) else .ret none)) items (.dcti [] [])).bind fun m => .ret (.own m) else .fail

/-- a call of the text's own def, its arguments trees -/
noncomputable def userE (g : Str) (ps : List PV) : R LV := fun lo => match r.c g none ps with
  | .ok v none => .ok v lo
  | .exc => .exc
  | _ => .fail
/-- the same, its first argument lent -/
noncomputable def lendE (g x : Str) (ps : List PV) : R LV := fun lo => match getLo lo x with
  | some (.own m) => (match r.c g (some m) ps with
    | .ok v (some m') => .ok v (setLo lo x (.own m'))
    | _ => .fail)
  | _ => .fail
noncomputable def ownAny {α : Type} (x : Str) (t : R α) : R α := fun lo => match getLo lo x with
  | some (.own _) => t lo
  | _ => .fail
/-- no argument raises -/
noncomputable def noExc {α : Type} (t : R α) : R α := fun lo => match t lo with
  | .exc => .fail
  | q => q
noncomputable def argsG (sc : Scope) (g : Str) (args : List Expr) : R LV := (noExc (r.evs sc args)).bind fun ps => r.userE g ps
noncomputable def argsE (sc : Scope) (g : Str) (args : List Expr) : R LV := hd1 (r.argsG sc g args) args fun a rest => xName (r.argsG sc g args) a fun x _ =>
  if x = figs ∧ isLocal sc x then ownAny x ((noExc (r.evs sc rest)).bind fun ps => r.lendE g x ps) else r.argsG sc g args

/-- what a method does to a list -/
noncomputable def lmeth (m : Str) (l : List PV) (ps : List PV) : Option (PV × List PV) :=
  if 2 ^ 20 ≤ l.length then none
  else if m = "append" then match ps with
    | [p] => some (.none, l ++ [p])
    | _ => none
  else if m = "pop" then match ps, l.getLast? with
    | [], some p => some (p, l.dropLast)
    | _, _ => none
  else if m = "insert" then match ps with
    | [.int i, p] => if 0 ≤ i ∧ i ≤ l.length then some (.none, l.take i.toNat ++ p :: l.drop i.toNat) else none
    | _ => none
  else if m = "reverse" then match ps with
    | [] => some (.none, l.reverse)
    | _ => none
  else if m = "remove" then match ps with
    | [p] => (go p l).map fun l' => (.none, l')
    | _ => none
  else none
where go (p : PV) : List PV → Option (List PV)
  | [] => none
  | a :: r => match eqD a p with
    | some true => some r
    | some false => (go p r).map (a :: ·)
    | none => none
noncomputable def methGo (x m : Str) (ps : List PV) : R LV := fun lo => match getLo lo x with
  | some (.own (.lst l)) => (match lmeth m l ps with
    | some (p, l') => .ok (.pv p) (setLo lo x (.own (.lst l')))
    | none => .fail)
  | _ => .fail
noncomputable def ownFirst {α : Type} (x : Str) (t : R α) : R α := fun lo => match getLo lo x with
  | some (.own (.lst _)) => t lo
  | _ => .fail
noncomputable def meths : List Str := ["append", "pop", "insert", "reverse", "remove"]
noncomputable def methE (sc : Scope) (x m : Str) (args : List Expr) : R LV :=
  if isLocal sc x ∧ meths.contains m = true then ownFirst x ((r.evs sc args).bind fun ps => methGo x m ps) else .fail
noncomputable def isDct : PV → Bool
  | .dcti .. => true
  | .dcts .. => true
  | .dctt .. => true
  | _ => false
noncomputable def getGo (p : PV) : List PV → Option LV
  | [k, d] => (dget p k).map fun o => .pv (o.getD d)
  | _ => none
noncomputable def getE (sc : Scope) (o : Expr) (args : List Expr) : R LV := (r.rdE sc o).bind fun rd => (val rd).bind fun p0 => if isDct p0 then
    (r.evs sc args).bind fun ps => (val rd).bind fun p => .lift (getGo p ps) else .fail
noncomputable def isInstE (sc : Scope) (args : List Expr) : R LV := hd1 .fail args fun a l => one .fail l fun b => xName .fail b fun T _ =>
  if isGlob sc T then (r.rdE sc a).bind fun rd => (val rd).bind fun p => .lift ((isInst T p).map fun b => .pv (.bool b)) else .fail
noncomputable def callB (sc : Scope) (g : Str) (args : List Expr) : R LV := one .fail args fun a => (r.rdE sc a).bind fun rd => (val rd).bind fun p => .lift (bcall g p)
/-- the call of a name -/
noncomputable def callG (sc : Scope) (g : Str) (args : List Expr) : R LV := if isGlob sc g then
    if g = "isinstance" then r.isInstE sc args
    else if bnames.contains g then r.callB sc g args
    else r.argsE sc g args
  else .fail
/-- ''.join(reversed(a)) -/
noncomputable def callJ (sc : Scope) (args : List Expr) : R LV := one .fail args fun y => xCallN .fail y fun g _ as _ => one .fail as fun a =>
  if g = "reversed" ∧ isGlob sc g ∧ isStar a = false then (r.pvE sc a).bind fun p => .lift ((joined p).map .pv) else .fail
noncomputable def callA (sc : Scope) (v : Expr) (m : Str) (apos : Pos) (args : List Expr) (pos : Pos) : R LV :=
  xConstant (xName .fail v fun x _ => if (apos.endLine == pos.line) = true then (if m = "get" then r.getE sc v args else r.methE sc x m args) else .fail) v fun k _ _ => cstr .fail k fun s =>
    if s = "" ∧ m = "join" ∧ (apos.endLine == pos.line) = true then r.callJ sc args else .fail
noncomputable def callE (sc : Scope) (f : Expr) (args : List Expr) (pos : Pos) : R LV := if args.any isStar || decide (10 ≤ args.length) then .fail else
  xName (xAttribute .fail f fun v m apos => r.callA sc v m apos args pos) f fun g _ => r.callG sc g args

/-- the clause of a block: one name, no async -/
noncomputable def gen1 {α : Type} (d : α) (gs : List Comprehension) (f : Str → Pos → Expr → List Expr → α) : α := one d gs fun g => xName d (cpT g) fun x px => if cpA g = 0 then f x px (cpI g) (cpF g) else d
noncomputable def unE (sc : Scope) (op : UnaryOp) (x : Expr) : R LV := match op with
  | .Not => (r.pvE sc x).bind fun p => .lift ((truth p).map fun b => .pv (.bool !b))
  | .USub => (r.pvE sc x).bind fun p => .lift ((keyI p).map fun i => .pv (.int (-i)))
  | .Invert => .fail
  | .UAdd => .fail
noncomputable def cmpE {α : Type} (sc : Scope) (l : Expr) (ops : List CmpOp) (rs : List Expr) (f : Bool → α) : R α := one .fail ops fun op => one .fail rs fun rr => if behindInMarks op rr then .fail else
  (r.rdE sc l).bind fun x => (r.rdE sc rr).bind fun y => (val x).bind fun p => (val y).bind fun q => .lift ((cmp op p q).map f)
noncomputable def subG (sc : Scope) (v i : Expr) : R LV := (r.rdE sc v).bind fun x => (r.pvE sc i).bind fun y => (val x).bind fun p => .lift ((item p y).map .pv)
noncomputable def subE (sc : Scope) (v i : Expr) : R LV := xSlice (r.subG sc v i) i fun a b c _ => non (r.subG sc v i) a (yes (r.subG sc v i) b fun u => non (r.subG sc v i) c
  ((r.rdE sc v).bind fun x => (r.pvE sc u).bind fun y => (val x).bind fun p => .lift (slice p y)))
noncomputable def eStep (sc : Scope) (e : Expr) : R LV :=
  xName (xConstant (xCall (xBinOp (xCompare (xBoolOp (xUnaryOp (xIfExp (xSubscript (xTuple (xList (xDict (xListComp (xDictComp .fail
    e fun k v gs scope _ => gen1 .fail gs fun x _ it ifs => r.dictCompE sc scope k v x it ifs)
    e fun elt gs scope _ => gen1 .fail gs fun x _ it ifs => r.listCompE sc scope elt x it ifs)
    e fun ks vs _ => .lift (dictE ks vs))
    e fun es _ => if 2 ^ 20 ≤ es.length then .fail else (r.evs sc es).bind fun ps => .ret (.own (.lst ps)))
    e fun es _ _ => if 2 ^ 20 ≤ es.length then .fail else (r.evs sc es).bind fun ps => .ret (.pv (.tup ps)))
    e fun v i _ => r.subE sc v i)
    e fun t a b _ => (r.b sc t).bind fun c => if c then r.e sc a else r.e sc b)
    e fun op x _ => r.unE sc op x)
    e fun op es _ => (r.boolE sc op es).bind fun p => .ret (.pv p))
    e fun l ops rs _ => r.cmpE sc l ops rs fun b => .pv (.bool b))
    e fun a op b _ => (r.pvE sc a).bind fun x => (r.pvE sc b).bind fun y => .lift (binop op x y))
    e fun f args ks p => nil1 .fail ks (r.callE sc f args p))
    e fun c _ _ => .lift ((constPV c).map .pv))
    e fun x _ => (nameR sc x).bind fun p => .ret (.pv p)

noncomputable def bG (sc : Scope) (e : Expr) : R Bool := (r.pvE sc e).bind fun p => .lift (truth p)
noncomputable def bStep (sc : Scope) (e : Expr) : R Bool :=
  xCompare (xBoolOp (xUnaryOp (xIfExp (r.bG sc e)
    e fun _ _ _ _ => .fail)
    e fun op x _ => if op.ctorIdx = 1 then (r.b sc x).bind fun b => .ret !b else r.bG sc e)
    e fun op es _ => r.boolB sc op es)
    e fun l ops rs _ => r.cmpE sc l ops rs id

noncomputable def ss (sc : Scope) : List Stmt → R Fl
  | [] => .ret .next
  | st :: rest => (r.s sc st).bind fun f => match f with
    | .next => ss sc rest
    | f => .ret f

noncomputable def setVar (sc : Scope) (x : Str) (v : LV) : R Unit := fun lo =>
  if (isLocal sc x ∨ sc.names.lookup x = some .cell) ∧ ¬ (x = figs ∧ sc.isCoroutine = true) then .ok () (setLo lo x v) else .fail
noncomputable def forGo (x : Str) (sc : Scope) (body : R Fl) : List PV → R Fl
  | [] => .ret .next
  | p :: ps => (setVar sc x (.pv p)).bind fun _ => body.bind fun f => match f with
    | .next | .cont => forGo x sc body ps
    | .brk => .ret .next
    | .ret v => .ret (.ret v)
/-- what a for runs over -/
noncomputable def rangeOf (p : PV) : Option (List PV) := match p with
  | .int i => if 0 ≤ i ∧ i < 2 ^ 20 then some ((List.range i.toNat).map fun (k : Nat) => .int (k : Int)) else none
  | _ => none
noncomputable def iterG (sc : Scope) (it : Expr) : R (List PV) := (r.pvE sc it).bind fun p => .lift ((itemsOf p).bind small)
noncomputable def iterE (sc : Scope) (it : Expr) : R (List PV) := if it.ctorIdx = 7 then .fail else xCallN (r.iterG sc it) it fun g _ as _ => one (r.iterG sc it) as fun a =>
  if g = "range" ∧ isGlob sc g ∧ isStar a = false then (r.pvE sc a).bind fun p => .lift (rangeOf p) else r.iterG sc it
noncomputable def MO.size : MO → Nat
  | .lst l => l.length
  | .dcti ks _ => ks.length
  | .dcts ks _ => ks.length
  | .dctt ks _ => ks.length
noncomputable def putItem (m : MO) (k v : PV) : Option MO := match m, k with
  | .lst l, .int i => if 0 ≤ i ∧ i < l.length ∧ l.length < 2 ^ 20 then some (.lst (l.set i.toNat v)) else none
  | m, k => if MO.size m < 2 ^ 20 then dset m k v else none
noncomputable def storeItem (sc : Scope) (x : Str) (k v : PV) : R Unit := fun lo => if isLocal sc x then match getLo lo x with
    | some (.own m) => (match putItem m k v with
      | some m' => .ok () (setLo lo x (.own m'))
      | none => .fail)
    | _ => .fail
  else .fail

noncomputable def isComp (e : Expr) : Bool := decide (e.ctorIdx = 8 ∨ e.ctorIdx = 9 ∨ e.ctorIdx = 10)
noncomputable def addI : PV → PV → Option LV := int2 fun a b => some (.pv (.int (a + b)))
/-- `except NAME: return None` -/
noncomputable def ehX (h : ExceptHandler) : Option Str := non none (ehN h) (one none (ehB h) fun s => sReturn none s fun v _ => yes none v fun e => xConstant none e fun c _ _ => cnone none c (yes none (ehT h) fun t => xName none t fun x _ => some x))
noncomputable def asgE (sc : Scope) (t e : Expr) : R Fl := xName (xSubscript .fail t fun v k _ => xName .fail v fun x _ =>
      (r.pvE sc e).bind fun v => if isLocal sc x then ownAny x ((r.pvE sc k).bind fun kp => (storeItem sc x kp v).bind fun _ => .ret .next) else .fail)
    t fun x _ => (r.e sc e).bind fun v => (setVar sc x v).bind fun _ => .ret .next
noncomputable def retG (sc : Scope) (e : Expr) : R Fl := (r.pvE sc e).bind fun v => .ret (.ret (.pv v))
noncomputable def retE (sc : Scope) (e : Expr) : R Fl := xName (r.retG sc e) e fun x _ => if x = figs ∧ isLocal sc x then retOwn x else r.retG sc e
noncomputable def raiseE (sc : Scope) (e : Expr) : R Fl := xCallN .fail e fun f _ as _ => one .fail as fun a => if f = "LinkFault" ∧ isGlob sc f ∧ isStar a = false then (r.pvE sc a).bind fun p => match strLen p with
      | some _ => excR
      | none => .fail
    else .fail
noncomputable def tryE (sc : Scope) (body : List Stmt) (hs : List ExceptHandler) : R Fl := one .fail hs fun h => yes .fail (ehX h) fun f => if f = "LinkFault" ∧ isGlob sc f ∧ sc.isCoroutine = false then tryR (r.ss sc body) else .fail
noncomputable def sStep (sc : Scope) (s : Stmt) : R Fl :=
  sAssign (sAugAssign (sIf (sFor (sWhile (sReturn (sRaise (sTry (sExpr (sBreak .fail
    s fun _ => .ret .brk)
    s fun e _ => if isComp e then .fail else (r.pvE sc e).bind fun p => if isNoneV p then .ret .next else .fail)
    s fun body hs o f _ => nil1 .fail o (nil1 .fail f (r.tryE sc body hs)))
    s fun v o _ => non .fail o (yes .fail v (r.raiseE sc)))
    s fun v _ => yes .fail v (r.retE sc))
    s fun t _ o _ => nil1 .fail o ((r.b sc t).bind fun c => if c then .fail else .ret .next))
    s fun t it body o _ => nil1 .fail o (xName .fail t fun x _ => (r.iterE sc it).bind fun items => forGo x sc (r.ss sc body) items))
    s fun t b o _ => (r.b sc t).bind fun c => if c then r.ss sc b else r.ss sc o)
    s fun t op e _ => xName .fail t fun x _ => if op.ctorIdx = 0 then (nameR sc x).bind fun o => (r.pvE sc e).bind fun v => (R.lift (addI o v)).bind fun n => (setVar sc x n).bind fun _ => .ret .next else .fail)
    s fun ts e _ => one .fail ts fun t => r.asgE sc t e

noncomputable def lo0 : List (Str × NameKind) → Lo
  | [] => []
  | (x, .local) :: r => (x, none) :: lo0 r
  | (x, .cell) :: r => (x, none) :: lo0 r
  | _ :: r => lo0 r
noncomputable def bindLo : List Str → List LV → Lo → Option Lo
  | [], [], lo => some lo
  | x :: xs, v :: vs, lo => bindLo xs vs (setLo lo x v)
  | _, _, _ => none
noncomputable def argNames (a : Arguments) : List Str := a.args.map (·.arg)
/-- the missing last argument of the one def with a default -/
noncomputable def fill (a : Arguments) (vs : List LV) : List LV := one vs a.defaults fun e => xConstant vs e fun k _ _ => cnone vs k (if vs.length + 1 = a.args.length then vs ++ [.pv .none] else vs)
/-- a list is lent to a def whose first name is `figures` -/
noncomputable def lendOk (d : FnDef) (m : Option MO) : Bool := m.isNone || (match argNames d.params with | x :: _ => decide (x = figs ∧ d.scope.names.lookup figs = some .local) | [] => false)
noncomputable def cStep (body : List Stmt) (g : Str) (m : Option MO) (ps : List PV) : CRes := match findFn g body with
  | none => .fail
  | some d => if lendOk d m = false then .fail else (match bindLo (argNames d.params) (fill d.params ((m.map LV.own).toList ++ ps.map .pv)) (lo0 d.scope.names) with
    | none => .fail
    | some lo => (match r.ss (if m.isSome then { d.scope with isCoroutine := true } else d.scope) d.body lo with
      | .exc => if m.isSome then .fail else .exc
      | .fail => .fail
      | .ok f lo' => (match m with
        | none => .ok (match f with | .ret v => v | _ => .pv .none) none
        | some _ => (match argNames d.params with
          | x :: _ => (match getLo lo' x, f with
            | some (.own m'), .ret (.pv p) => .ok (.pv p) (some m')
            | some (.own m'), .next => .ok (.pv .none) (some m')
            | _, _ => .fail)
          | [] => .fail))))
end Ev

noncomputable def Ev.step (body : List Stmt) (r : Ev) : Ev := ⟨r.eStep, r.bStep, r.sStep, r.cStep body⟩
noncomputable def Ev.bot : Ev := ⟨fun _ _ => .fail, fun _ _ => .fail, fun _ _ => .fail, fun _ _ _ => .fail⟩
noncomputable def evN (body : List Stmt) : Nat → Ev
  | 0 => .bot
  | n + 1 => (evN body n).step body
noncomputable abbrev pwL : Program := PySem.Challenge.pw_rh0070_01
noncomputable abbrev bodyL : List Stmt := pwL.main.body
end Mine
namespace Mine
open PySem PyProof.Rows PySem.W PySem.SeqAt

/-! ### what the text's top leaves of the class and of assemble -/
noncomputable def keepS (s : Stmt) : Bool := sAssign (sFunctionDef true s fun n _ _ _ _ _ _ _ _ _ => n != "assemble") s fun ts _ _ => one true ts fun t => xName true t fun x _ => x != "__name__"
noncomputable def viewL : Program := { pwL with main := { pwL.main with body := bodyL.filter keepS } }
noncomputable def looseL : List Str := ["LinkFault", "assemble"]
noncomputable def initOf (s : Stmt) : Option FnDef := if h : s.ctorIdx = 2 then Stmt.ClassDef.elim (motive_2 := fun _ => Option FnDef) s h (fun n _ _ body _ _ _ _ _ _ _ => if n = "LinkFault" then hd1 none body fun st _ => fnOfStmt st else none) else none
noncomputable def initD : FnDef := (bodyL.findSome? initOf).getD default
noncomputable def initPs : Pos × Pos × Pos × Pos := one default initD.body fun s => sAssign default s fun ts v d => one default ts fun t => xAttribute default t fun u _ b => xName default u fun _ a => xName default v fun _ c => (a, b, c, d)
noncomputable def asmD : FnDef := (findFn "assemble" bodyL).getD default

noncomputable def cls45 : Obj := { cls := .type "type", data := .cls { name := "LinkFault", bases := [.ref 24], mro := [.ref 45, .ref 24, .type "Exception", .type "BaseException", .type "object"], ns := 44, qualname := "LinkFault" }, slots := #[some (.ref 28), none, some (.str "LinkFault" 209), some (.str "LinkFault" 217), some (.builtin "Exception.__new__"), some (.bool true)] }
noncomputable def cd24 : ClassData := { name := "ClausemillError", bases := [.type "Exception"], mro := [.ref 24, .type "Exception", .type "BaseException", .type "object"], ns := 23, qualname := "ClausemillError", subclasses := [.ref 45] }
noncomputable def sl24 : Array (Option Value) := #[some (.ref 15), none, some (.str "ClausemillError" 189), some (.str "ClausemillError" 197), some (.builtin "Exception.__new__"), some (.bool true)]
noncomputable def cls24 : Obj := { cls := .type "type", data := .cls cd24, slots := sl24 }
noncomputable def fd42 : FuncData := { name := "__init__", qualname := "LinkFault.__init__", params := initD.params, body := .stmts initD.body, scope := initD.scope, globals := mainGlobals, closure := [], defaults := .ref 35, kwdefaults := .none, pyModule := .str "clausemill.symbols" 187, code := .ref 41, builtins := builtinsNs }
noncomputable def fd172 : FuncData := { name := "assemble", qualname := "assemble", params := asmD.params, body := .stmts asmD.body, scope := asmD.scope, globals := mainGlobals, closure := [], defaults := .ref 167, kwdefaults := .none, pyModule := .str "clausemill.assembler" 251, code := .ref 171, builtins := builtinsNs }

noncomputable abbrev SeenL : Type := List (Option Obj) × List (Option (Value × FuncData)) × List (Option (Array Value)) × List Bool × List (Option Value)
noncomputable def fnSeen (h : Heap) (a : Addr) : Option (Value × FuncData) := (h.get? a).bind fun o => match o.data with | .func fd => some (o.cls, fd) | _ => none
noncomputable def seqSeen (h : Heap) (a : Addr) : Option (Array Value) := (h.get? a).bind fun o => match o.data with | .seq xs _ => some xs | _ => none
noncomputable def codeSeen (h : Heap) (a : Addr) : Option Value := (h.get? a).bind fun o => match o.data with | .fields vs => vs[1]? | _ => none
noncomputable def obsL (s : Shared) : SeenL := ([s.heap.get? 45, s.heap.get? 24], [fnSeen s.heap 42, fnSeen s.heap 172], [seqSeen s.heap 35, seqSeen s.heap 167], [s.heap.isNs 44, s.heap.isNs 23, s.heap.isNs mainGlobals, s.heap.isNs sysModules],
  [codeSeen s.heap 41, codeSeen s.heap 171, s.heap.nsMap 44 "__init__", s.heap.nsMap 44 "__setattr__", s.heap.nsMap 44 "what", s.heap.nsMap 23 "__init__", s.heap.nsMap 23 "__setattr__", s.heap.nsMap 23 "what", s.heap.nsMap mainGlobals "LinkFault", s.heap.nsMap mainGlobals "assemble"])
noncomputable def valL : SeenL := ([some cls45, some cls24], [some (.type "function", fd42), some (.type "function", fd172)], [some #[.str "" 221], some #[.none]], [true, true, true, true],
  [some (.str "LinkFault.__init__" 223), some (.str "assemble" 398), some (.ref 42), none, none, none, none, none, some (.ref 45), some (.ref 172)])

set_option maxHeartbeats 8000000 in
theorem leftL : LeftO PySem.Challenge.rw_rh0070_01.row.prog viewL looseL (fun s => xlAt viewL [] s && recOk (RowW.records PySem.Challenge.rw_rh0070_01.row.toRowW) s) obsL (fun _ => valL) 2734 := fun w => by kernel_rfl

end Mine
namespace Mine
open PySem PyProof.Rows PySem.W

/-- what stands at an address -/
inductive FO where
  | tup (vs : List Value)
  | lst (vs : List Value)
  | dcti (kvs : List (Int × Value))
  | dcts (kvs : List (Str × Value))
  | dctt (kvs : List (List Int × Addr × Value))

noncomputable abbrev Led := List (Addr × FO)

inductive IntVals : List Int → List Value → Prop
  | nil : IntVals [] []
  | cons {i t ks vs} : IntVals ks vs → IntVals (i :: ks) (.int i t :: vs)

mutual
inductive VRep (F : Led) : Value → PV → Prop
  | none : VRep F .none .none
  | bool (b : Bool) : VRep F (.bool b) (.bool b)
  | int (i : Int) (t : Tok) : VRep F (.int i t) (.int i)
  | str (x : Str) (t : Tok) : VRep F (.str x t) (.str x)
  | txt {x : Str} {t : Tok} {n : Nat} : x.length ≤ n → VRep F (.str x t) (.txt n)
  | tup {a : Addr} {vs : List Value} {ps : List PV} : (a, FO.tup vs) ∈ F → VReps F vs ps → VRep F (.ref a) (.tup ps)
  | lst {a : Addr} {vs : List Value} {ps : List PV} : (a, FO.lst vs) ∈ F → VReps F vs ps → VRep F (.ref a) (.lst ps)
  | dcti {a : Addr} {kvs : List (Int × Value)} {ps : List PV} : (a, FO.dcti kvs) ∈ F → VReps F (kvs.map (·.2)) ps → VRep F (.ref a) (.dcti (kvs.map (·.1)) ps)
  | dcts {a : Addr} {kvs : List (Str × Value)} {ps : List PV} : (a, FO.dcts kvs) ∈ F → VReps F (kvs.map (·.2)) ps → VRep F (.ref a) (.dcts (kvs.map (·.1)) ps)
  | dctt {a : Addr} {kvs : List (List Int × Addr × Value)} {ps : List PV} : (a, FO.dctt kvs) ∈ F → VReps F (kvs.map (·.2.2)) ps →
      (∀ x ∈ kvs, ∃ vs, (x.2.1, FO.tup vs) ∈ F ∧ IntVals x.1 vs) → VRep F (.ref a) (.dctt (kvs.map (·.1)) ps)
inductive VReps (F : Led) : List Value → List PV → Prop
  | nil : VReps F [] []
  | cons {v : Value} {p : PV} {vs : List Value} {ps : List PV} : VRep F v p → VReps F vs ps → VReps F (v :: vs) (p :: ps)
end

noncomputable def KReps (F : Led) (kvs : List (List Int × Addr × Value)) : Prop := ∀ x ∈ kvs, ∃ vs, (x.2.1, FO.tup vs) ∈ F ∧ IntVals x.1 vs

/-- what stands there holds this -/
inductive FORep (F : Led) : FO → MO → Prop
  | lst {vs : List Value} {ps : List PV} : VReps F vs ps → FORep F (.lst vs) (.lst ps)
  | dcti {kvs : List (Int × Value)} {ps : List PV} : VReps F (kvs.map (·.2)) ps → FORep F (.dcti kvs) (.dcti (kvs.map (·.1)) ps)
  | dcts {kvs : List (Str × Value)} {ps : List PV} : VReps F (kvs.map (·.2)) ps → FORep F (.dcts kvs) (.dcts (kvs.map (·.1)) ps)
  | dctt {kvs : List (List Int × Addr × Value)} {ps : List PV} : VReps F (kvs.map (·.2.2)) ps → KReps F kvs → FORep F (.dctt kvs) (.dctt (kvs.map (·.1)) ps)

section
variable {F F' : Led}
theorem KReps.mono (hs : ∀ p ∈ F, p ∈ F') {kvs} (h : KReps F kvs) : KReps F' kvs := fun x hx => Exists.elim (h x hx) fun vs q => ⟨vs, hs _ q.1, q.2⟩
theorem VRep.mono (hs : ∀ p ∈ F, p ∈ F') {v : Value} {p : PV} (h : VRep F v p) : VRep F' v p :=
  VRep.rec (motive_1 := fun v p _ => VRep F' v p) (motive_2 := fun vs ps _ => VReps F' vs ps) .none .bool .int .str .txt (fun h _ r => .tup (hs _ h) r) (fun h _ r => .lst (hs _ h) r) (fun h _ r => .dcti (hs _ h) r) (fun h _ r => .dcts (hs _ h) r)
    (fun h _ k r => .dctt (hs _ h) r (KReps.mono hs k)) .nil (fun _ _ h r => .cons h r) h
theorem VReps.mono (hs : ∀ p ∈ F, p ∈ F') {vs : List Value} {ps : List PV} (h : VReps F vs ps) : VReps F' vs ps :=
  VReps.rec (motive_1 := fun v p _ => VRep F' v p) (motive_2 := fun vs ps _ => VReps F' vs ps) .none .bool .int .str .txt (fun h _ r => .tup (hs _ h) r) (fun h _ r => .lst (hs _ h) r) (fun h _ r => .dcti (hs _ h) r) (fun h _ r => .dcts (hs _ h) r)
    (fun h _ k r => .dctt (hs _ h) r (KReps.mono hs k)) .nil (fun _ _ h r => .cons h r) h
theorem FORep.mono (hs : ∀ p ∈ F, p ∈ F') {fo : FO} {m : MO} (h : FORep F fo m) : FORep F' fo m := by
  cases h with
  | lst r => exact .lst (r.mono hs)
  | dcti r => exact .dcti (r.mono hs)
  | dcts r => exact .dcts (r.mono hs)
  | dctt r k => exact .dctt (r.mono hs) (k.mono hs)
theorem FORep.vrep {fo : FO} {m : MO} {a : Addr} (h : FORep F fo m) (ha : (a, fo) ∈ F) : VRep F (.ref a) m.pv := by
  cases h with
  | lst r => exact .lst ha r
  | dcti r => exact .dcti ha r
  | dcts r => exact .dcts ha r
  | dctt r k => exact .dctt ha r k
end

section
variable {F : Led}
/-- an object that holds items -/
inductive VSeq (F : Led) (mk : List Value → FO) (u : Value) (ps : List PV) : Prop
  | mk {a : Addr} {vs : List Value} : u = .ref a → (a, mk vs) ∈ F → VReps F vs ps → VSeq F mk u ps
inductive VDct {K : Type} (F : Led) (mk : List K → FO) {α : Type} (ky : K → α) (vl : K → Value) (u : Value) (ks : List α) (ps : List PV) : Prop
  | mk {a : Addr} {kvs : List K} : u = .ref a → ks = kvs.map ky → (a, mk kvs) ∈ F → VReps F (kvs.map vl) ps → VDct F mk ky vl u ks ps
/-- what a tree stands for, by its shape -/
noncomputable def VInv (F : Led) (u : Value) : PV → Prop
  | .none => u = .none
  | .bool b => u = .bool b
  | .int i => ∃ t, u = .int i t
  | .str x => ∃ t, u = .str x t
  | .txt n => ∃ x t, u = .str x t ∧ x.length ≤ n
  | .tup ps => VSeq F .tup u ps
  | .lst ps => VSeq F .lst u ps
  | .dcti ks ps => VDct F .dcti (·.1) (·.2) u ks ps
  | .dcts ks ps => VDct F .dcts (·.1) (·.2) u ks ps
  | .dctt ks ps => ∃ a kvs, u = .ref a ∧ ks = kvs.map (·.1) ∧ (a, FO.dctt kvs) ∈ F ∧ VReps F (kvs.map (·.2.2)) ps ∧ KReps F kvs
theorem VRep.inv {u : Value} {p : PV} (h : VRep F u p) : VInv F u p := by
  cases h with
  | none => rfl
  | bool => rfl
  | int _ t => exact ⟨t, rfl⟩
  | str _ t => exact ⟨t, rfl⟩
  | txt h => exact ⟨_, _, rfl, h⟩
  | tup h r => exact ⟨rfl, h, r⟩
  | lst h r => exact ⟨rfl, h, r⟩
  | dcti h r => exact ⟨rfl, rfl, h, r⟩
  | dcts h r => exact ⟨rfl, rfl, h, r⟩
  | dctt h r k => exact ⟨_, _, rfl, rfl, h, r, k⟩
theorem VRep.toInt {u : Value} {i : Int} (h : VRep F u (.int i)) : ∃ t, u = .int i t := h.inv
theorem VRep.toStr {u : Value} {x : Str} (h : VRep F u (.str x)) : ∃ t, u = .str x t := h.inv
theorem VRep.toTup {u : Value} {ps : List PV} (h : VRep F u (.tup ps)) : VSeq F .tup u ps := h.inv
theorem VRep.toLst {u : Value} {ps : List PV} (h : VRep F u (.lst ps)) : VSeq F .lst u ps := h.inv
theorem VReps.length {vs : List Value} {ps : List PV} (h : VReps F vs ps) : vs.length = ps.length := by
  induction vs generalizing ps with
  | nil => cases h; rfl
  | cons v vs ih => cases h with | cons _ r => rw [List.length_cons, List.length_cons, ih r]
theorem VReps.append {vs ws : List Value} {ps qs : List PV} (h : VReps F vs ps) (k : VReps F ws qs) : VReps F (vs ++ ws) (ps ++ qs) := by
  induction vs generalizing ps with
  | nil => cases h; exact k
  | cons v vs ih => cases h with | cons h r => exact .cons h (ih r)
theorem VReps.one {v : Value} {p : PV} (h : VRep F v p) : VReps F [v] [p] := .cons h .nil
theorem VReps.get {vs : List Value} {ps : List PV} (h : VReps F vs ps) {k : Nat} {p : PV} (hk : ps[k]? = some p) : ∃ v, vs[k]? = some v ∧ VRep F v p := by
  induction vs generalizing ps k with
  | nil => cases h; simp at hk
  | cons v vs ih =>
    cases h with
    | cons h r =>
      cases k with
      | zero => simp at hk; subst hk; exact ⟨v, rfl, h⟩
      | succ k => simp at hk; exact ih r (by simpa using hk)
theorem VReps.getV {vs : List Value} {ps : List PV} (h : VReps F vs ps) {k : Nat} {v : Value} (hk : vs[k]? = some v) : ∃ p, ps[k]? = some p ∧ VRep F v p := by
  induction vs generalizing ps k with
  | nil => simp at hk
  | cons u vs ih =>
    cases h with
    | cons h r =>
      cases k with
      | zero => simp at hk; subst hk; exact ⟨_, rfl, h⟩
      | succ k => simp at hk; exact ih r (by simpa using hk)
theorem VReps.take {vs : List Value} {ps : List PV} (h : VReps F vs ps) (n : Nat) : VReps F (vs.take n) (ps.take n) := by
  induction vs generalizing ps n with
  | nil => cases h; simpa using VReps.nil
  | cons u vs ih =>
    cases h with
    | cons h r =>
      cases n with
      | zero => exact .nil
      | succ n => exact .cons h (ih r n)
theorem VReps.drop {vs : List Value} {ps : List PV} (h : VReps F vs ps) (n : Nat) : VReps F (vs.drop n) (ps.drop n) := by
  induction vs generalizing ps n with
  | nil => cases h; simpa using VReps.nil
  | cons u vs ih =>
    cases h with
    | cons h r =>
      cases n with
      | zero => exact .cons h r
      | succ n => exact ih r n
theorem VReps.reverse {vs : List Value} {ps : List PV} (h : VReps F vs ps) : VReps F vs.reverse ps.reverse := by
  induction vs generalizing ps with
  | nil => cases h; exact .nil
  | cons u vs ih =>
    cases h with
    | cons h r => simp only [List.reverse_cons]; exact (ih r).append (.one h)
theorem VReps.set {vs : List Value} {ps : List PV} {v : Value} {p : PV} (h : VReps F vs ps) (hv : VRep F v p) (n : Nat) : VReps F (vs.set n v) (ps.set n p) := by
  induction vs generalizing ps n with
  | nil => cases h; simpa using VReps.nil
  | cons u vs ih =>
    cases h with
    | cons h r =>
      cases n with
      | zero => exact .cons hv r
      | succ n => exact .cons h (ih r n)
end

noncomputable def FO.is (prog : Program) (w : World) : FO → Obj → Prop
  | .tup vs, o => ∃ n, o = { cls := .type "tuple", dict := none, data := .seq vs.toArray n, slots := #[] }
  | .lst vs, o => ∃ n, o = { cls := .type "list", dict := none, data := .seq vs.toArray n, slots := #[] }
  | .dcti kvs, o => o.ExactDict ∧ ∃ es ep, o.data = .dict es ep ∧ KeysOf (intKind prog w) es ∧ Pairs (intKind prog w) es.toList kvs ∧ (kvs.map (·.1)).Nodup
  | .dcts kvs, o => o.ExactDict ∧ ∃ es ep, o.data = .dict es ep ∧ KeysOf (strKind prog w) es ∧ Pairs (strKind prog w) es.toList kvs ∧ (kvs.map (·.1)).Nodup
  | .dctt kvs, o => o.ExactDict ∧ ∃ es ep, o.data = .dict es ep ∧ es.toList = kvs.map (entryOfKey (tupleKind (intKind prog w))) ∧ (kvs.map (·.1)).Nodup

end Mine
namespace Mine
open PySem PyProof.Rows PySem.W

/-- whom a raised thing reaches -/
structure XC where
  B : Heap
  Fp : List (Addr × (Obj → Prop))
  cls : Value
  fenv : Env
  outer : List Env

structure Cx where
  prog : Program
  w : World
  base : Heap
  os : OsState
  sc : Scope
  env : Env
  cl : List (Str × Addr)
  X : List (Addr × (Obj → Prop))
  A : Around
  E : Value → Shared → Prop
  x : XC
  Fs : Led
  la : Option Addr

structure Wd where
  F : Led
  O : Led

noncomputable abbrev Cx.M (c : Cx) : Model := model c.prog c.w

noncomputable def muts (c : Cx) (O : Led) : List Addr := c.env.locals :: (c.cl.map (·.2) ++ (c.X.map (·.1) ++ O.map (·.1)))

noncomputable def CellP (v : Option Value) (o : Obj) : Prop := o.data = .cell v

/-- the name holds the value -/
noncomputable def Held (c : Cx) (m : Str → Option Value) (cv : Addr → Option Value) (x : Str) (u : Value) : Prop :=
  (c.env.kindOf x = some .local ∧ m x = some u) ∨
  ((c.env.kindOf x = some .cell ∨ c.env.kindOf x = some .free) ∧ ∃ a, c.env.cells.lookup x = some a ∧ ((a ∈ c.cl.map (·.2) ∧ cv a = some u) ∨ (a, CellP (some u)) ∈ c.X))

inductive LRep (W : Wd) : Value → LV → Prop
  | pv {u p} : VRep W.F u p → LRep W u (.pv p)
  | own {a fo m} : (a, fo) ∈ W.O → FORep W.F fo m → LRep W (.ref a) (.own m)

structure Inv (c : Cx) (lo : Lo) (W : Wd) (m : Str → Option Value) (cv : Addr → Option Value) (h : Heap) : Prop where
  keep : ∀ b o, c.base.get? b = some o → h.get? b = some o
  ns : h.Ns c.env.locals m
  cells : ∀ p ∈ c.cl, h.IsCell p.2 (cv p.2)
  ext : ∀ p ∈ c.X, ∃ o, h.get? p.1 = some o ∧ p.2 o
  fix : ∀ p ∈ W.F, ∃ o, h.get? p.1 = some o ∧ p.2.is c.prog c.w o
  own : ∀ p ∈ W.O, ∃ o, h.get? p.1 = some o ∧ p.2.is c.prog c.w o
  los : ∀ x v, getLo lo x = some v → ∃ u, Held c m cv x u ∧ LRep W u v
  inj : ∀ x y mx my a, getLo lo x = some (.own mx) → getLo lo y = some (.own my) → Held c m cv x (.ref a) → Held c m cv y (.ref a) → x = y
  nodup : (muts c W.O).Nodup
  off : ∀ p ∈ W.F, p.1 ∉ muts c W.O
  new : ∀ a ∈ muts c W.O, c.base.get? a = none
  sys : c.base.get? sysModules ≠ none
  mods : ∀ p ∈ W.F, p.1 ≠ sysModules
  fresh : ∀ p ∈ W.F, p ∈ c.Fs ∨ c.base.get? p.1 = none
  pin : ∀ a, c.la = some a → m figs = some (.ref a)

/-! ### names -/
theorem getLo_setLo (lo : Lo) (x : Str) (v : LV) (y : Str) : getLo (setLo lo x v) y = if y = x ∧ (lo.any fun p => decide (p.1 = x)) then some v else getLo lo y := by
  induction lo with
  | nil => simp [setLo, getLo]
  | cons p r ih =>
    obtain ⟨z, w⟩ := p
    unfold setLo
    by_cases hz : z = x
    · subst hz
      rw [if_pos rfl]
      unfold getLo
      by_cases hy : z = y
      · subst hy; simp
      · rw [if_neg hy, if_neg hy, if_neg]; rintro ⟨e, _⟩; exact hy e.symm
    · rw [if_neg hz]
      unfold getLo
      by_cases hy : z = y
      · subst hy; simp [hz]
      · rw [if_neg hy, if_neg hy, ih]
        simp only [List.any_cons, decide_eq_false hz, Bool.false_or]
theorem getLo_setLo_ne {lo : Lo} {x y : Str} {v : LV} (h : y ≠ x) : getLo (setLo lo x v) y = getLo lo y := by
  rw [getLo_setLo, if_neg]; rintro ⟨e, _⟩; exact h e

section
variable {c : Cx} {lo : Lo} {W : Wd} {m : Str → Option Value} {cv : Addr → Option Value} {h h' : Heap}

theorem Inv.lt (I : Inv c lo W m cv h) {a : Addr} (ha : a ∈ muts c W.O) : a < h.objs.size := by
  unfold muts at ha
  rcases List.mem_cons.mp ha with rfl | ha
  · exact I.ns.lt
  · rcases List.mem_append.mp ha with ha | ha
    · obtain ⟨p, hp, rfl⟩ := List.mem_map.mp ha; exact (I.cells p hp).lt
    · rcases List.mem_append.mp ha with ha | ha
      · obtain ⟨p, hp, rfl⟩ := List.mem_map.mp ha; obtain ⟨o, ho, _⟩ := I.ext p hp; exact Heap.lt_size ho
      · obtain ⟨p, hp, rfl⟩ := List.mem_map.mp ha; obtain ⟨o, ho, _⟩ := I.own p hp; exact Heap.lt_size ho
theorem Inv.ltF (I : Inv c lo W m cv h) {p} (hp : p ∈ W.F) : p.1 < h.objs.size := by obtain ⟨o, ho, _⟩ := I.fix p hp; exact Heap.lt_size ho

/-- all that stood stands -/
theorem Inv.keeps (I : Inv c lo W m cv h) (k : ∀ b o, h.get? b = some o → h'.get? b = some o) : Inv c lo W m cv h' where
  keep := fun b o e => k b o (I.keep b o e)
  ns := I.ns.keeps k
  cells := fun p hp => (I.cells p hp).keeps k
  ext := fun p hp => let ⟨o, a, b⟩ := I.ext p hp; ⟨o, k _ _ a, b⟩
  fix := fun p hp => let ⟨o, a, b⟩ := I.fix p hp; ⟨o, k _ _ a, b⟩
  own := fun p hp => let ⟨o, a, b⟩ := I.own p hp; ⟨o, k _ _ a, b⟩
  los := I.los
  inj := I.inj
  nodup := I.nodup
  off := I.off
  new := I.new
  sys := I.sys
  mods := I.mods
  fresh := I.fresh
  pin := I.pin

theorem Inv.push (I : Inv c lo W m cv h) (o : Obj) : Inv c lo W m cv (h.push o) := I.keeps fun _ _ e => Heap.get?_push_of_some _ e

/-- an address that the frame does not know -/
structure Free (c : Cx) (W : Wd) (a : Addr) : Prop where
  away : a ∉ muts c W.O
  fixd : ∀ p ∈ W.F, p.1 ≠ a
  based : c.base.get? a = none

theorem Inv.free (I : Inv c lo W m cv h) {a : Addr} (ha : h.objs.size ≤ a) : Free c W a where
  away := fun hm => Nat.lt_irrefl _ (Nat.lt_of_lt_of_le (I.lt hm) ha)
  fixd := fun p hp e => Nat.lt_irrefl _ (Nat.lt_of_lt_of_le (e ▸ I.ltF hp) ha)
  based := by
    cases hq : c.base.get? a with
    | none => rfl
    | some o => exact absurd (Nat.lt_of_lt_of_le (Heap.lt_size (I.keep _ _ hq)) ha) (Nat.lt_irrefl _)

/-- what is free may turn -/
theorem Inv.but (I : Inv c lo W m cv h) {a : Addr} (f : Free c W a) (k : ∀ b o, b ≠ a → h.get? b = some o → h'.get? b = some o) : Inv c lo W m cv h' where
  keep := fun b o e => k b o (fun q => by rw [q, f.based] at e; cases e) (I.keep b o e)
  ns := I.ns.extBut k (fun q => f.away (q ▸ List.mem_cons_self))
  cells := fun p hp => by
    obtain ⟨o, a', b⟩ := I.cells p hp
    exact ⟨o, k _ _ (fun q => f.away (List.mem_cons_of_mem _ (List.mem_append_left _ (q ▸ List.mem_map_of_mem hp)))) a', b⟩
  ext := fun p hp => let ⟨o, a', b⟩ := I.ext p hp; ⟨o, k _ _ (fun q => f.away (List.mem_cons_of_mem _ (List.mem_append_right _ (List.mem_append_left _ (q ▸ List.mem_map_of_mem hp))))) a', b⟩
  fix := fun p hp => let ⟨o, a', b⟩ := I.fix p hp; ⟨o, k _ _ (f.fixd p hp) a', b⟩
  own := fun p hp => let ⟨o, a', b⟩ := I.own p hp; ⟨o, k _ _ (fun q => f.away (List.mem_cons_of_mem _ (List.mem_append_right _ (List.mem_append_right _ (q ▸ List.mem_map_of_mem hp))))) a', b⟩
  los := I.los
  inj := I.inj
  nodup := I.nodup
  off := I.off
  new := I.new
  sys := I.sys
  mods := I.mods
  fresh := I.fresh
  pin := I.pin

/-- a free object is kept as it is -/
theorem Inv.fixed (I : Inv c lo W m cv h) {a : Addr} {fo : FO} (f : Free c W a) (hf : ∃ o, h.get? a = some o ∧ fo.is c.prog c.w o) : Inv c lo ⟨(a, fo) :: W.F, W.O⟩ m cv h where
  keep := I.keep
  ns := I.ns
  cells := I.cells
  ext := I.ext
  fix := fun p hp => by
    rcases List.mem_cons.mp hp with rfl | hp
    · exact hf
    · exact I.fix p hp
  own := I.own
  los := fun x v e => by
    obtain ⟨u, hu, r⟩ := I.los x v e
    refine ⟨u, hu, ?_⟩
    cases r with
    | pv r => exact .pv (r.mono fun p hp => List.mem_cons_of_mem _ hp)
    | own h1 h2 => exact .own h1 (h2.mono fun p hp => List.mem_cons_of_mem _ hp)
  inj := I.inj
  nodup := I.nodup
  off := fun p hp => by
    rcases List.mem_cons.mp hp with rfl | hp
    · exact f.away
    · exact I.off p hp
  new := I.new
  sys := I.sys
  mods := fun p hp => by
    rcases List.mem_cons.mp hp with rfl | hp
    · exact fun e => I.sys (e ▸ f.based)
    · exact I.mods p hp
  fresh := fun p hp => by
    rcases List.mem_cons.mp hp with rfl | hp
    · exact .inr f.based
    · exact I.fresh p hp
  pin := I.pin

theorem nodup_of_sub {c : Cx} {O O' : Led} (hs : O'.Sublist O) (h : (muts c O).Nodup) : (muts c O').Nodup := by
  refine List.Sublist.nodup ?_ h
  exact List.Sublist.cons_cons _ ((List.Sublist.refl _).append ((List.Sublist.refl _).append (hs.map _)))
theorem mem_of_sub {c : Cx} {O O' : Led} (hs : O'.Sublist O) {a : Addr} (h : a ∈ muts c O') : a ∈ muts c O :=
  (List.Sublist.cons_cons _ ((List.Sublist.refl _).append ((List.Sublist.refl _).append (hs.map _)))).subset h
theorem own_mem {c : Cx} {O : Led} {a : Addr} {fo : FO} (h : (a, fo) ∈ O) : a ∈ muts c O :=
  List.mem_cons_of_mem _ (List.mem_append_right _ (List.mem_append_right _ (List.mem_map.mpr ⟨_, h, rfl⟩)))
/-- without its own a, all others -/
noncomputable def cut (O : Led) (a : Addr) : Led := O.filter fun p => decide (p.1 ≠ a)
theorem cut_sub (O : Led) (a : Addr) : (cut O a).Sublist O := List.filter_sublist
theorem mem_cut {O : Led} {a b : Addr} {fo : FO} (h : (b, fo) ∈ O) (hb : b ≠ a) : (b, fo) ∈ cut O a := List.mem_filter.mpr ⟨h, by simpa using hb⟩
theorem not_mem_cut {c : Cx} {O : Led} {a : Addr} {fo : FO} (hn : (muts c O).Nodup) (h : (a, fo) ∈ O) : a ∉ muts c (cut O a) := by
  intro hm
  unfold muts at hm hn
  rw [List.nodup_cons, List.nodup_append, List.nodup_append] at hn
  obtain ⟨h1, h2, ⟨h3, h4, h5⟩, h6⟩ := hn
  have ha : a ∈ O.map (·.1) := List.mem_map.mpr ⟨_, h, rfl⟩
  rcases List.mem_cons.mp hm with e | hm
  · exact h1 (e ▸ List.mem_append_right _ (List.mem_append_right _ ha))
  · rcases List.mem_append.mp hm with hm | hm
    · exact h6 a hm a (List.mem_append_right _ ha) rfl
    · rcases List.mem_append.mp hm with hm | hm
      · exact h5 a hm a ha rfl
      · obtain ⟨p, hp, rfl⟩ := List.mem_map.mp hm
        have := (List.mem_filter.mp hp).2
        simp at this
end
end Mine
namespace Mine
open PySem PyProof.Rows PySem.W

theorem getLo_any {lo : Lo} {x : Str} {v : LV} (h : getLo lo x = some v) : (lo.any fun p => decide (p.1 = x)) = true := by
  induction lo with
  | nil => cases h
  | cons p r ih =>
    obtain ⟨z, u⟩ := p
    unfold getLo at h
    by_cases hz : z = x
    · simp [hz]
    · rw [if_neg hz] at h; simp only [List.any_cons]; rw [ih h]; simp
theorem getLo_set_cases {lo : Lo} {x y : Str} {v u : LV} (h : getLo (setLo lo x v) y = some u) : (y = x ∧ u = v) ∨ (y ≠ x ∧ getLo lo y = some u) := by
  by_cases hy : y = x
  · subst hy
    rw [getLo_setLo] at h
    split at h
    · exact .inl ⟨rfl, (Option.some.inj h).symm⟩
    · rename_i hn; exact absurd ⟨rfl, getLo_any h⟩ hn
  · rw [getLo_setLo_ne hy] at h; exact .inr ⟨hy, h⟩

noncomputable def repl (O : Led) (a : Addr) (fo : FO) : Led := O.map fun p => if p.1 = a then (a, fo) else p
theorem repl_fst (O : Led) (a : Addr) (fo : FO) : (repl O a fo).map (·.1) = O.map (·.1) := by
  unfold repl
  rw [List.map_map]
  refine List.map_congr_left fun p _ => ?_
  by_cases h : p.1 = a
  · simp [h]
  · simp [h]
theorem repl_muts (c : Cx) (O : Led) (a : Addr) (fo : FO) : muts c (repl O a fo) = muts c O := by unfold muts; rw [repl_fst]
theorem mem_repl {O : Led} {a b : Addr} {fo fo' : FO} (h : (b, fo') ∈ O) (hb : b ≠ a) : (b, fo') ∈ repl O a fo := List.mem_map.mpr ⟨_, h, by simp [hb]⟩
theorem mem_repl_self {O : Led} {a : Addr} {fo fo' : FO} (h : (a, fo') ∈ O) : (a, fo) ∈ repl O a fo := List.mem_map.mpr ⟨_, h, by simp⟩

section
variable {c : Cx} {lo : Lo} {W : Wd} {m : Str → Option Value} {cv : Addr → Option Value} {h h' : Heap}

theorem LRep.mono {W W' : Wd} (hF : ∀ p ∈ W.F, p ∈ W'.F) (hO : ∀ p ∈ W.O, p ∈ W'.O) {u v} (r : LRep W u v) : LRep W' u v := by
  cases r with
  | pv r => exact .pv (r.mono hF)
  | own h1 h2 => exact .own (hO _ h1) (h2.mono hF)

theorem Inv.offF (I : Inv c lo W m cv h) {a : Addr} (ha : a ∈ muts c W.O) {p} (hp : p ∈ W.F) : p.1 ≠ a := fun e => I.off p hp (e ▸ ha)

/-- the address of an own name is in the ledger -/
theorem Inv.own_at (I : Inv c lo W m cv h) (hfn : ∀ x u u', Held c m cv x u → Held c m cv x u' → u = u') {x : Str} {mo : MO} {u : Value} (e : getLo lo x = some (.own mo)) (hu : Held c m cv x u) :
    ∃ a fo, u = .ref a ∧ (a, fo) ∈ W.O ∧ FORep W.F fo mo := by
  obtain ⟨u', hu', r⟩ := I.los x _ e
  have := hfn _ _ _ hu hu'
  subst this
  cases r with
  | own h1 h2 => exact ⟨_, _, rfl, h1, h2⟩

/-- an own name's object is kept for good -/
theorem Inv.freeze (I : Inv c lo W m cv h) {x : Str} {mo : MO} {a : Addr} {fo : FO} (e : getLo lo x = some (.own mo)) (hu : Held c m cv x (.ref a)) (ha : (a, fo) ∈ W.O) (hr : FORep W.F fo mo) :
    Inv c (setLo lo x (.pv mo.pv)) ⟨(a, fo) :: W.F, cut W.O a⟩ m cv h ∧ VRep ((a, fo) :: W.F) (.ref a) mo.pv := by
  have hF : ∀ p ∈ W.F, p ∈ (a, fo) :: W.F := fun p hp => List.mem_cons_of_mem _ hp
  have hv : VRep ((a, fo) :: W.F) (.ref a) mo.pv := (hr.mono hF).vrep List.mem_cons_self
  refine ⟨⟨I.keep, I.ns, I.cells, I.ext, ?_, fun p hp => I.own p ((cut_sub _ _).subset hp), ?_, ?_, nodup_of_sub (cut_sub _ _) I.nodup, ?_, fun b hb => I.new b (mem_of_sub (cut_sub _ _) hb), I.sys, ?_, ?_, I.pin⟩, hv⟩
  · intro p hp
    rcases List.mem_cons.mp hp with rfl | hp
    · exact I.own _ ha
    · exact I.fix p hp
  · intro y v hy
    rcases getLo_set_cases hy with ⟨rfl, rfl⟩ | ⟨hne, hy⟩
    · exact ⟨_, hu, .pv hv⟩
    · obtain ⟨u, hu', r⟩ := I.los y v hy
      refine ⟨u, hu', ?_⟩
      cases r with
      | pv r => exact .pv (r.mono hF)
      | @own b fo' mo' h1 h2 =>
        refine .own (mem_cut h1 fun q => ?_) (h2.mono hF)
        subst q
        exact hne (I.inj _ _ _ _ _ hy e hu' hu)
  · intro y z my mz b hy hz hb hb'
    rcases getLo_set_cases hy with ⟨rfl, q⟩ | ⟨hne, hy⟩
    · cases q
    · rcases getLo_set_cases hz with ⟨rfl, q⟩ | ⟨hne', hz⟩
      · cases q
      · exact I.inj _ _ _ _ _ hy hz hb hb'
  · intro p hp
    rcases List.mem_cons.mp hp with rfl | hp
    · exact not_mem_cut I.nodup ha
    · exact fun hm => I.off p hp (mem_of_sub (cut_sub _ _) hm)
  · intro p hp
    rcases List.mem_cons.mp hp with rfl | hp
    · exact fun e => I.sys (e ▸ I.new _ (own_mem ha))
    · exact I.mods p hp
  · intro p hp
    rcases List.mem_cons.mp hp with rfl | hp
    · exact .inr (I.new _ (own_mem ha))
    · exact I.fresh p hp

/-- an own name's object turns -/
theorem Inv.turn (I : Inv c lo W m cv h) {x : Str} {mo mo' : MO} {a : Addr} {fo fo' : FO} (e : getLo lo x = some (.own mo)) (hu : Held c m cv x (.ref a)) (ha : (a, fo) ∈ W.O) (hr : FORep W.F fo' mo')
    (ho : ∃ o, h'.get? a = some o ∧ fo'.is c.prog c.w o) (k : ∀ b o, b ≠ a → h.get? b = some o → h'.get? b = some o) :
    Inv c (setLo lo x (.own mo')) ⟨W.F, repl W.O a fo'⟩ m cv h' := by
  have hm := own_mem (c := c) ha
  have hnd := I.nodup
  have hl : c.env.locals ≠ a := fun q => by
    unfold muts at hnd; rw [List.nodup_cons] at hnd
    exact hnd.1 (q ▸ List.mem_append_right _ (List.mem_append_right _ (List.mem_map.mpr ⟨_, ha, rfl⟩)))
  have hc : ∀ p ∈ c.cl, p.2 ≠ a := fun p hp q => by
    unfold muts at hnd; rw [List.nodup_cons, List.nodup_append] at hnd
    exact hnd.2.2.2 _ (List.mem_map_of_mem hp) _ (List.mem_append_right _ (List.mem_map.mpr ⟨_, ha, rfl⟩)) q
  have hx : ∀ p ∈ c.X, p.1 ≠ a := fun p hp q => by
    unfold muts at hnd; rw [List.nodup_cons, List.nodup_append, List.nodup_append] at hnd
    exact hnd.2.2.1.2.2 _ (List.mem_map_of_mem hp) _ (List.mem_map.mpr ⟨_, ha, rfl⟩) q
  refine ⟨fun b o q => k b o (fun z => by rw [z, I.new a hm] at q; cases q) (I.keep b o q), I.ns.extBut k hl, ?_, ?_, ?_, ?_, ?_, ?_, by rw [repl_muts]; exact I.nodup, by rw [repl_muts]; exact I.off, by rw [repl_muts]; exact I.new, I.sys, I.mods, I.fresh, I.pin⟩
  · intro p hp; obtain ⟨o, a1, a2⟩ := I.cells p hp; exact ⟨o, k _ _ (hc p hp) a1, a2⟩
  · intro p hp; obtain ⟨o, a1, a2⟩ := I.ext p hp; exact ⟨o, k _ _ (hx p hp) a1, a2⟩
  · intro p hp; obtain ⟨o, a1, a2⟩ := I.fix p hp; exact ⟨o, k _ _ (I.offF hm hp) a1, a2⟩
  · intro p hp
    obtain ⟨q, hq, rfl⟩ := List.mem_map.mp hp
    by_cases hqa : q.1 = a
    · rw [if_pos hqa]; exact ho
    · rw [if_neg hqa]; obtain ⟨o, a1, a2⟩ := I.own q hq; exact ⟨o, k _ _ hqa a1, a2⟩
  · intro y v hy
    rcases getLo_set_cases hy with ⟨rfl, rfl⟩ | ⟨hne, hy⟩
    · exact ⟨_, hu, .own (mem_repl_self ha) hr⟩
    · obtain ⟨u, hu', r⟩ := I.los y v hy
      refine ⟨u, hu', ?_⟩
      cases r with
      | pv r => exact .pv r
      | @own b fo' mo' h1 h2 =>
        refine .own (mem_repl h1 fun q => ?_) h2
        subst q
        exact hne (I.inj _ _ _ _ _ hy e hu' hu)
  · intro y z my mz b hy hz hb hb'
    have step : ∀ {y my}, getLo (setLo lo x (.own mo')) y = some (.own my) → ∃ my', getLo lo y = some (.own my') := by
      intro y my hy
      rcases getLo_set_cases hy with ⟨rfl, _⟩ | ⟨_, hy⟩
      · exact ⟨_, e⟩
      · exact ⟨_, hy⟩
    obtain ⟨_, hy⟩ := step hy
    obtain ⟨_, hz⟩ := step hz
    exact I.inj _ _ _ _ _ hy hz hb hb'

/-- a free object goes to the own ones -/
theorem Inv.owned (I : Inv c lo W m cv h) {a : Addr} {fo : FO} (f : Free c W a) (ho : ∃ o, h.get? a = some o ∧ fo.is c.prog c.w o) : Inv c lo ⟨W.F, (a, fo) :: W.O⟩ m cv h := by
  have f' := f.away
  have hmuts : ∀ b, b ∈ muts c ((a, fo) :: W.O) → b = a ∨ b ∈ muts c W.O := fun b hb => by
    unfold muts at hb ⊢
    simp only [List.map_cons, List.mem_cons, List.mem_append] at hb ⊢
    rcases hb with hb | hb | hb | hb | hb
    · exact .inr (.inl hb)
    · exact .inr (.inr (.inl hb))
    · exact .inr (.inr (.inr (.inl hb)))
    · exact .inl hb
    · exact .inr (.inr (.inr (.inr hb)))
  refine ⟨I.keep, I.ns, I.cells, I.ext, I.fix, ?_, ?_, I.inj, ?_, ?_, ?_, I.sys, I.mods, I.fresh, I.pin⟩
  · intro p hp
    rcases List.mem_cons.mp hp with rfl | hp
    · exact ho
    · exact I.own p hp
  · intro x v e
    obtain ⟨u, hu, r⟩ := I.los x v e
    exact ⟨u, hu, LRep.mono (W := W) (W' := ⟨W.F, (a, fo) :: W.O⟩) (fun _ hp => hp) (fun _ hp => List.mem_cons_of_mem _ hp) r⟩
  · have hn := I.nodup
    unfold muts at hn f' ⊢
    simp only [List.mem_cons, List.mem_append, not_or] at f'
    rw [List.nodup_cons, List.nodup_append, List.nodup_append] at hn ⊢
    obtain ⟨n1, n2, ⟨n3, n4, n5⟩, n6⟩ := hn
    simp only [List.mem_append, not_or] at n1
    refine ⟨?_, n2, ⟨n3, ?_, ?_⟩, ?_⟩
    · simp only [List.map_cons, List.mem_append, List.mem_cons, not_or]
      exact ⟨n1.1, n1.2.1, fun e => f'.1 e.symm, n1.2.2⟩
    · rw [List.map_cons, List.nodup_cons]; exact ⟨f'.2.2.2, n4⟩
    · intro x hx y hy
      rw [List.map_cons] at hy
      rcases List.mem_cons.mp hy with rfl | hy
      · exact fun e => f'.2.2.1 (e ▸ hx)
      · exact n5 x hx y hy
    · intro x hx y hy
      rw [List.map_cons] at hy
      rcases List.mem_append.mp hy with hy | hy
      · exact n6 x hx y (List.mem_append_left _ hy)
      · rcases List.mem_cons.mp hy with rfl | hy
        · exact fun e => f'.2.1 (e ▸ hx)
        · exact n6 x hx y (List.mem_append_right _ hy)
  · intro p hp hm
    rcases hmuts _ hm with e | hm
    · exact f.fixd p hp e
    · exact I.off p hp hm
  · intro b hb
    rcases hmuts _ hb with rfl | hb
    · exact f.based
    · exact I.new b hb

/-- what a name is to hold -/
inductive New (c : Cx) (W : Wd) (h : Heap) : Value → LV → Prop
  | pv {u p} : VRep W.F u p → New c W h u (.pv p)
  | own {a fo mo} : FORep W.F fo mo → Free c W a → (∃ o, h.get? a = some o ∧ fo.is c.prog c.w o) → New c W h (.ref a) (.own mo)

/-- a name tells one value -/
theorem Inv.fn (I : Inv c lo W m cv h) {x : Str} {u u' : Value} (h1 : Held c m cv x u) (h2 : Held c m cv x u') : u = u' := by
  have hnd := I.nodup
  unfold muts at hnd
  rw [List.nodup_cons, List.nodup_append, List.nodup_append] at hnd
  rcases h1 with ⟨k, e⟩ | ⟨k, a, ha, e⟩ <;> rcases h2 with ⟨k', e'⟩ | ⟨k', a', ha', e'⟩
  · rw [e] at e'; exact Option.some.inj e'
  · rcases k' with k' | k' <;> rw [k] at k' <;> cases k'
  · rcases k with k | k <;> rw [k'] at k <;> cases k
  · rw [ha] at ha'; cases ha'
    rcases e with ⟨i, e⟩ | e <;> rcases e' with ⟨i', e'⟩ | e'
    · rw [e] at e'; exact Option.some.inj e'
    · exact absurd rfl (hnd.2.2.2 _ i _ (List.mem_append_left _ (List.mem_map.mpr ⟨_, e', rfl⟩)))
    · exact absurd rfl (hnd.2.2.2 _ i' _ (List.mem_append_left _ (List.mem_map.mpr ⟨_, e, rfl⟩)))
    · obtain ⟨o, o1, o2⟩ := I.ext _ e
      obtain ⟨o', o1', o2'⟩ := I.ext _ e'
      rw [o1] at o1'; cases o1'
      have q1 : o.data = .cell (some u) := o2
      have q2 : o.data = .cell (some u') := o2'
      rw [q1] at q2; cases q2; rfl

/-- a name is stored: what is left to say -/
theorem Inv.set {m' : Str → Option Value} {cv' : Addr → Option Value} (I : Inv c lo W m cv h) {x : Str} {u : Value} {v : LV} (hr : LRep W u v)
    (hfresh : ∀ a mo, v = .own mo → u = .ref a → ∀ z mz, z ≠ x → getLo lo z = some (.own mz) → ¬ Held c m cv z (.ref a))
    (held : ∀ y w, y ≠ x → Held c m cv y w → Held c m' cv' y w) (held' : ∀ y w, y ≠ x → Held c m' cv' y w → Held c m cv y w) (heldx : Held c m' cv' x u) (fnx : ∀ w, Held c m' cv' x w → w = u)
    (keep : ∀ b o, c.base.get? b = some o → h'.get? b = some o) (ns : h'.Ns c.env.locals m') (cells : ∀ p ∈ c.cl, h'.IsCell p.2 (cv' p.2)) (ext : ∀ p ∈ c.X, ∃ o, h'.get? p.1 = some o ∧ p.2 o)
    (fix : ∀ p ∈ W.F, ∃ o, h'.get? p.1 = some o ∧ p.2.is c.prog c.w o) (own : ∀ p ∈ W.O, ∃ o, h'.get? p.1 = some o ∧ p.2.is c.prog c.w o)
    (pin : ∀ a, c.la = some a → m' figs = some (.ref a)) : Inv c (setLo lo x v) W m' cv' h' := by
  refine ⟨keep, ns, cells, ext, fix, own, ?_, ?_, I.nodup, I.off, I.new, I.sys, I.mods, I.fresh, pin⟩
  · intro y w hy
    rcases getLo_set_cases hy with ⟨rfl, rfl⟩ | ⟨hne, hy⟩
    · exact ⟨u, heldx, hr⟩
    · obtain ⟨u', hu', r⟩ := I.los y w hy
      exact ⟨u', held _ _ hne hu', r⟩
  · intro y z my mz b hy hz hb hb'
    rcases getLo_set_cases hy with ⟨e1, q⟩ | ⟨hne, hy'⟩ <;> rcases getLo_set_cases hz with ⟨e2, q'⟩ | ⟨hne', hz'⟩
    · rw [e1, e2]
    · subst e1; exact absurd (held' _ _ hne' hb') (hfresh _ _ q.symm (fnx _ hb).symm _ _ hne' hz')
    · subst e2; exact absurd (held' _ _ hne hb) (hfresh _ _ q'.symm (fnx _ hb').symm _ _ hne hy')
    · exact I.inj _ _ _ _ _ hy' hz' (held' _ _ hne hb) (held' _ _ hne' hb')

theorem New.enter (I : Inv c lo W m cv h) {u : Value} {v : LV} (hv : New c W h u v) :
    ∃ O', Inv c lo ⟨W.F, O'⟩ m cv h ∧ LRep ⟨W.F, O'⟩ u v ∧ ∀ a mo, v = .own mo → u = .ref a → ∀ z mz, getLo lo z = some (.own mz) → ¬ Held c m cv z (.ref a) := by
  cases hv with
  | pv r => exact ⟨W.O, I, .pv r, fun a mo e => by cases e⟩
  | @own a fo mo r f ho =>
    refine ⟨(a, fo) :: W.O, I.owned f ho, .own List.mem_cons_self r, fun a' mo' _ e z mz hz hh => ?_⟩
    cases e
    obtain ⟨u, hu, q⟩ := I.los z _ hz
    obtain rfl := I.fn hu hh
    cases q with
    | own h1 h2 => exact f.away (own_mem h1)

/-- a local name is stored -/
theorem Inv.store (I : Inv c lo W m cv h) {x : Str} {u : Value} {v : LV} (hk : c.env.kindOf x = some .local) (hv : New c W h u v) (hn : h'.Ns c.env.locals (fun y => if y = x then some u else m y)) (hs : Heap.SameBut c.env.locals h h') (hpin : c.la ≠ none → x ≠ figs) :
    ∃ O', Inv c (setLo lo x v) ⟨W.F, O'⟩ (fun y => if y = x then some u else m y) cv h' := by
  obtain ⟨O', I', hr, hf⟩ := hv.enter I
  refine ⟨O', ?_⟩
  have nd := I'.nodup
  unfold muts at nd
  rw [List.nodup_cons] at nd
  simp only [List.mem_append, not_or] at nd
  refine I'.set hr (fun a mo e1 e2 z mz _ e3 => hf a mo e1 e2 z mz e3) ?_ ?_ (.inl ⟨hk, if_pos rfl⟩) ?_ ?_ hn ?_ ?_ ?_ ?_ fun a ha => (if_neg fun e => hpin (by rw [ha]; exact fun e => nomatch e) e.symm).trans (I'.pin a ha)
  · rintro y w hy (⟨k, e⟩ | r)
    · exact .inl ⟨k, (if_neg hy).trans e⟩
    · exact .inr r
  · rintro y w hy (⟨k, e⟩ | r)
    · exact .inl ⟨k, (if_neg hy).symm.trans e⟩
    · exact .inr r
  · rintro w (⟨k, e⟩ | ⟨k, _⟩)
    · exact (Option.some.inj ((if_pos rfl).symm.trans e)).symm
    · rw [hk] at k; rcases k with k | k <;> cases k
  · exact fun b o e => (hs.2 b (fun q => by rw [q, I'.new _ List.mem_cons_self] at e; cases e)).trans (I'.keep b o e)
  · exact fun p hp => (I'.cells p hp).sameBut hs fun q => nd.1.1 (q ▸ List.mem_map_of_mem hp)
  · exact fun p hp => let ⟨o, a1, a2⟩ := I'.ext p hp; ⟨o, (hs.2 _ fun q => nd.1.2.1 (q ▸ List.mem_map_of_mem hp)).trans a1, a2⟩
  · exact fun p hp => let ⟨o, a1, a2⟩ := I'.fix p hp; ⟨o, (hs.2 _ (I'.offF List.mem_cons_self hp)).trans a1, a2⟩
  · exact fun p hp => let ⟨o, a1, a2⟩ := I'.own p hp; ⟨o, (hs.2 _ fun q => nd.1.2.2 (q ▸ List.mem_map_of_mem hp)).trans a1, a2⟩

/-- a cell is stored -/
theorem Inv.storeCell (I : Inv c lo W m cv h) {x : Str} {a : Addr} {u : Value} {v : LV} (hk : c.env.kindOf x = some .cell) (hl : c.env.cells.lookup x = some a) (ha : a ∈ c.cl.map (·.2))
    (hinj : ∀ y, y ≠ x → c.env.cells.lookup y ≠ some a)
    (hv : New c W h u v) (hn : h'.IsCell a (some u)) (hs : Heap.SameBut a h h') :
    ∃ O', Inv c (setLo lo x v) ⟨W.F, O'⟩ m (fun b => if b = a then some u else cv b) h' := by
  obtain ⟨O', I', hr, hf⟩ := hv.enter I
  refine ⟨O', ?_⟩
  have nd := I'.nodup
  unfold muts at nd
  rw [List.nodup_cons, List.nodup_append] at nd
  simp only [List.mem_append, not_or] at nd
  have am : a ∈ muts c O' := List.mem_cons_of_mem _ (List.mem_append_left _ ha)
  have ha' : ∀ b, b ∈ c.X.map (·.1) → b ≠ a := fun b hb e => nd.2.2.2 a ha b (.inl hb) e.symm
  refine I'.set hr (fun a mo e1 e2 z mz _ e3 => hf a mo e1 e2 z mz e3) ?_ ?_ (.inr ⟨.inl hk, a, hl, .inl ⟨ha, if_pos rfl⟩⟩) ?_ ?_ (I'.ns.sameBut hs fun q => nd.1.1 (q ▸ ha)) ?_ ?_ ?_ ?_ I'.pin
  · rintro y w hy (⟨k, e⟩ | ⟨k, b, hb, e⟩)
    · exact .inl ⟨k, e⟩
    · refine .inr ⟨k, b, hb, ?_⟩
      rcases e with ⟨i, e⟩ | e
      · exact .inl ⟨i, (if_neg fun (q : b = a) => hinj y hy (q ▸ hb)).trans e⟩
      · exact .inr e
  · rintro y w hy (⟨k, e⟩ | ⟨k, b, hb, e⟩)
    · exact .inl ⟨k, e⟩
    · refine .inr ⟨k, b, hb, ?_⟩
      rcases e with ⟨i, e⟩ | e
      · exact .inl ⟨i, (if_neg fun (q : b = a) => hinj y hy (q ▸ hb)).symm.trans e⟩
      · exact .inr e
  · rintro w (⟨k, e⟩ | ⟨k, b, hb, e⟩)
    · rw [hk] at k; cases k
    · rw [hl] at hb; cases hb
      rcases e with ⟨i, e⟩ | e
      · exact (Option.some.inj ((if_pos rfl).symm.trans e)).symm
      · exact absurd rfl (ha' _ (List.mem_map.mpr ⟨_, e, rfl⟩))
  · exact fun b o e => (hs.2 b (fun q => by rw [q, I'.new _ am] at e; cases e)).trans (I'.keep b o e)
  · intro p hp
    by_cases hpa : p.2 = a
    · show h'.IsCell p.2 (if p.2 = a then some u else cv p.2)
      rw [if_pos hpa, hpa]; exact hn
    · show h'.IsCell p.2 (if p.2 = a then some u else cv p.2)
      rw [if_neg hpa]; exact (I'.cells p hp).sameBut hs hpa
  · exact fun p hp => let ⟨o, a1, a2⟩ := I'.ext p hp; ⟨o, (hs.2 _ (ha' _ (List.mem_map_of_mem hp))).trans a1, a2⟩
  · exact fun p hp => let ⟨o, a1, a2⟩ := I'.fix p hp; ⟨o, (hs.2 _ (I'.offF am hp)).trans a1, a2⟩
  · exact fun p hp => let ⟨o, a1, a2⟩ := I'.own p hp; ⟨o, (hs.2 _ fun q => nd.2.2.2 a ha _ (.inr (List.mem_map_of_mem hp)) q.symm).trans a1, a2⟩
end
end Mine
namespace Mine
open PySem PyProof.Rows PySem.W

structure St (c : Cx) (lo : Lo) (W : Wd) (m : Str → Option Value) (cv : Addr → Option Value) (s : Shared) : Prop where
  gens : s.gens = #[]
  os : s.os = c.os
  inv : Inv c lo W m cv s.heap

noncomputable abbrev Sub (F F' : Led) : Prop := ∀ p ∈ F, p ∈ F'
theorem Sub.refl (F : Led) : Sub F F := fun _ h => h
theorem Sub.trans {F G H : Led} (a : Sub F G) (b : Sub G H) : Sub F H := fun p h => b p (a p h)

noncomputable def Post {β : Type} (c : Cx) (lo : Lo) (m : Str → Option Value) (cv : Addr → Option Value) (F0 : Led) (Rel : Wd → Heap → β → Prop) : β → Shared → Prop :=
  fun b s' => ∃ W', Sub F0 W'.F ∧ St c lo W' m cv s' ∧ Rel W' s'.heap b
noncomputable abbrev No : Value → Shared → Prop := fun _ _ => False

/-- the two ends of a tree, by what the evaluator says -/
noncomputable def okQ {α β : Type} (c : Cx) (m : Str → Option Value) (cv : Addr → Option Value) (F0 : Led) (Rel : α → Wd → Heap → β → Prop) : Res α → β → Shared → Prop
  | .ok a lo' => Post c lo' m cv F0 (Rel a)
  | _ => fun _ _ => False
noncomputable def exE {α : Type} (c : Cx) : Res α → Value → Shared → Prop
  | .exc => c.E
  | _ => No
noncomputable def At {α β : Type} (c : Cx) (m : Str → Option Value) (cv : Addr → Option Value) (F0 : Led) (r : Res α) (G : (β → Shared → Prop) → (Value → Shared → Prop) → Shared → Prop) (s : Shared) (Rel : α → Wd → Heap → β → Prop) : Prop :=
  (r = .fail → False) → G (okQ c m cv F0 Rel r) (exE c r) s

noncomputable abbrev Go {β : Type} (c : Cx) (t : Sem β) : (β → Shared → Prop) → (Value → Shared → Prop) → Shared → Prop := fun Q E s => wpAny c.M c.A t Q E s

noncomputable def RelL (c : Cx) (v : LV) (W : Wd) (h : Heap) (b : Value) : Prop := New c W h b v
noncomputable def RelP (p : PV) (W : Wd) (_ : Heap) (b : Value) : Prop := VRep W.F b p
noncomputable def RelPs (ps : List PV) (W : Wd) (_ : Heap) (vs : List Value) : Prop := VReps W.F vs ps
noncomputable def RelB (t : Bool) (_ : Wd) (_ : Heap) (b : Bool) : Prop := b = t
inductive RelR (c : Cx) (m : Str → Option Value) (cv : Addr → Option Value) : Rd → Wd → Heap → Value → Prop
  | pv {p W h b} : VRep W.F b p → RelR c m cv (.pv p) W h b
  | var {x W h b} : Held c m cv x b → RelR c m cv (.var x) W h b

section
variable {c : Cx} {m : Str → Option Value} {cv : Addr → Option Value} {F0 F1 : Led} {lo : Lo} {W : Wd} {s : Shared}

theorem St.tok (S : St c lo W m cv s) (t : Nat) : St c lo W m cv { s with toks := t } := ⟨S.gens, S.os, S.inv⟩
theorem St.push (S : St c lo W m cv s) (o : Obj) (t : Nat) : St c lo W m cv { s with heap := s.heap.push o, toks := t } := ⟨S.gens, S.os, S.inv.push o⟩

theorem Post.sub {β : Type} {Rel : Wd → Heap → β → Prop} (hs : Sub F0 F1) {b : β} {s' : Shared} (h : Post c lo m cv F1 Rel b s') : Post c lo m cv F0 Rel b s' :=
  let ⟨W', a, r⟩ := h; ⟨W', hs.trans a, r⟩

theorem At.sub {α β : Type} {r : Res α} {t : Sem β} {Rel : α → Wd → Heap → β → Prop} (hs : Sub F0 F1) (h : At c m cv F1 r (Go c t) s Rel) : At c m cv F0 r (Go c t) s Rel := fun hne => by
  refine wpAny_mono (h hne) (fun b s' q => ?_) fun _ _ e => e
  cases r with
  | ok a lo' => exact q.sub hs
  | exc => exact q
  | fail => exact q

/-- one tree, then what follows -/
theorem At.seq {α β γ δ : Type} {x : R α} {f : α → R γ} {t : Sem β} {G : β → (δ → Shared → Prop) → (Value → Shared → Prop) → Shared → Prop}
    {Rel : α → Wd → Heap → β → Prop} {Rel' : γ → Wd → Heap → δ → Prop}
    (hx : At c m cv F1 (x lo) (Go c t) s Rel)
    (k : ∀ a lo' b s' W', St c lo' W' m cv s' → Sub F1 W'.F → Rel a W' s'.heap b → At c m cv F0 (f a lo') (G b) s' Rel') :
    At c m cv F0 (x.bind f lo) (fun Q E s => wpAny c.M c.A t (fun b s' => G b Q E s') E s) s Rel' := by
  intro hne
  unfold R.bind at hne ⊢
  cases hr : x lo with
  | ok a lo' =>
    rw [hr] at hx hne
    refine wpAny_mono (hx (fun e => by cases e)) (fun b s' q => ?_) fun _ _ e => e.elim
    obtain ⟨W', hs, S, r⟩ := q
    exact k a lo' b s' W' S hs r hne
  | exc =>
    rw [hr] at hx
    exact wpAny_mono (hx (fun e => by cases e)) (fun b s' q => q.elim) fun _ _ e => e
  | fail => rw [hr] at hne; exact (hne rfl).elim
/-- one tree, then a result that takes no step -/
theorem At.post {α β γ : Type} {x : R α} {f : α → R γ} {t : Sem β} {Rel : α → Wd → Heap → β → Prop} {Rel' : γ → Wd → Heap → β → Prop}
    (hx : At c m cv F1 (x lo) (Go c t) s Rel)
    (k : ∀ a lo' b s' W', St c lo' W' m cv s' → Sub F1 W'.F → Rel a W' s'.heap b → At c m cv F0 (f a lo') (fun Q _ s => Q b s) s' Rel') :
    At c m cv F0 (x.bind f lo) (Go c t) s Rel' := At.seq (G := fun b Q _ s => Q b s) hx k

theorem At.pure {α β : Type} {a : α} {b : β} {Rel : α → Wd → Heap → β → Prop} (S : St c lo W m cv s) (hs : Sub F0 W.F) (h : Rel a W s.heap b) : At c m cv F0 (R.ret a lo) (fun Q _ s => Q b s) s Rel :=
  fun _ => ⟨W, hs, S, h⟩

/-- an operation that reads -/
theorem At.lift {α β : Type} {o : Option α} {t : Sem β} {Rel : α → Wd → Heap → β → Prop} (h : ∀ a, o = some a → wpAny c.M c.A t (Post c lo m cv F0 (Rel a)) No s) :
    At c m cv F0 (R.lift o lo) (Go c t) s Rel := by
  intro hne
  cases o with
  | none => exact (hne rfl).elim
  | some a => exact h a rfl

theorem At.map {α β : Type} {r : Res α} {G : (β → Shared → Prop) → (Value → Shared → Prop) → Shared → Prop} {G' : (β → Shared → Prop) → (Value → Shared → Prop) → Shared → Prop} {Rel : α → Wd → Heap → β → Prop}
    (h : At c m cv F0 r G s Rel) (k : ∀ Q E, G Q E s → G' Q E s) : At c m cv F0 r G' s Rel := fun hne => k _ _ (h hne)

/-- a result that is bound to be a tree -/
theorem At.toPV {x : R LV} {t : Sem Value} (h : At c m cv F0 (x lo) (Go c t) s (RelL c)) : At c m cv F0 (x.bind (fun v => R.ret v.toPV) lo) (Go c t) s RelP := by
  intro hne
  unfold R.bind at hne ⊢
  cases hr : x lo with
  | ok a lo' =>
    rw [hr] at h hne
    refine wpAny_mono (h (fun e => by cases e)) (fun b s' q => ?_) fun _ _ e => e.elim
    obtain ⟨W', hs, S, r⟩ := q
    cases r with
    | pv r => exact ⟨W', hs, S, r⟩
    | own r f ho => exact ⟨⟨_ :: W'.F, W'.O⟩, fun p hp => List.mem_cons_of_mem _ (hs p hp), ⟨S.gens, S.os, S.inv.fixed f ho⟩, (r.mono fun p hp => List.mem_cons_of_mem _ hp).vrep List.mem_cons_self⟩
  | exc =>
    rw [hr] at h
    exact wpAny_mono (h (fun e => by cases e)) (fun b s' q => q.elim) fun _ _ e => e
  | fail => rw [hr] at hne; exact (hne rfl).elim

theorem Post.pv {p : PV} {b : Value} (S : St c lo W m cv s) (hs : Sub F0 W.F) (h : VRep W.F b p) (t : Nat) : Post c lo m cv F0 (RelL c (.pv p)) b { s with toks := t } := ⟨W, hs, S.tok t, .pv h⟩
theorem Post.pvh {p : PV} {b : Value} (S : St c lo W m cv s) (hs : Sub F0 W.F) (h : VRep W.F b p) : Post c lo m cv F0 (RelL c (.pv p)) b s := ⟨W, hs, S, .pv h⟩
/-- a new object -/
theorem Post.own {mo : MO} {fo : FO} {o : Obj} (S : St c lo W m cv s) (hs : Sub F0 W.F) (hr : FORep W.F fo mo) (ho : fo.is c.prog c.w o) (hf : o.isFreed = false) (t : Nat) :
    Post c lo m cv F0 (RelL c (.own mo)) (.ref s.heap.objs.size) { s with heap := s.heap.push o, toks := t } :=
  ⟨W, hs, S.push o t, .own hr (S.inv.free (Nat.le_refl _)) ⟨o, Heap.get?_push_size _ hf, ho⟩⟩
theorem Post.tup {ps : List PV} {vs : List Value} (S : St c lo W m cv s) (hs : Sub F0 W.F) (hr : VReps W.F vs ps) (t : Nat) (n : Nat) :
    Post c lo m cv F0 (RelL c (.pv (.tup ps))) (.ref s.heap.objs.size) { s with heap := s.heap.push { cls := .type "tuple", data := .seq vs.toArray n }, toks := t } := by
  have I := (S.push { cls := .type "tuple", data := .seq vs.toArray n } t).inv
  refine ⟨⟨(s.heap.objs.size, .tup vs) :: W.F, W.O⟩, fun p hp => List.mem_cons_of_mem _ (hs p hp), ⟨S.gens, S.os, I.fixed (S.inv.free (Nat.le_refl _)) ⟨_, Heap.get?_push_size _ rfl, ⟨n, rfl⟩⟩⟩, .pv (.tup List.mem_cons_self (hr.mono fun p hp => List.mem_cons_of_mem _ hp))⟩
end

/-- what the frame stands on (its room) -/
structure Room (c : Cx) : Prop where
  units : c.A.units + 100 < cLine
  handled : c.A.handled = none

theorem lst_isList {prog w vs} {h : Heap} {a : Addr} (H : ∃ o, h.get? a = some o ∧ (FO.lst vs).is prog w o) : h.IsList a vs.toArray := by
  obtain ⟨o, ho, n, rfl⟩ := H; exact ⟨_, ho, rfl, n, rfl⟩

section
variable {c : Cx} {m : Str → Option Value} {cv : Addr → Option Value} {F0 : Led} {lo : Lo} {W : Wd} {s : Shared} {u u' : Value}

theorem add_strs {x y : Str} {t t' : Tok} (S : St c lo W m cv s) {k l : Nat} (hx : x.length ≤ k) (hy : y.length ≤ l) (hkl : k + l < 2 ^ 20) :
    wpAny c.M c.A (binaryOp .Add (.str x t) (.str y t')) (Post c lo m cv W.F (RelL c (.pv (.txt (k + l))))) No s := by
  refine PyProof.Rows.add_str (fun t' tk => Post.pv S (Sub.refl _) (.txt ?_) _) (by rw [sizeLine_eq]; omega)
  show (x ++ y).length ≤ _
  have : (x ++ y).length = x.length + y.length := Str.length_append x y
  omega

theorem strLen_rep {p : PV} {n : Nat} (h : strLen p = some n) {F : Led} (r : VRep F u p) : ∃ x t, u = .str x t ∧ x.length ≤ n := by
  cases p with
  | str x =>
    obtain ⟨t, e⟩ := r.toStr
    cases h
    exact ⟨x, t, e, Nat.le_refl _⟩
  | txt k =>
    cases h
    exact r.inv
  | _ => cases h
theorem keyI_val {F : Led} {p : PV} {i : Int} {u : Value} (h : keyI p = some i) (r : VRep F u p) : ∃ t, u = .int i t := by
  cases p with
  | int k => exact Option.some.inj h ▸ r.toInt
  | _ => cases h
theorem keyS_val {F : Led} {p : PV} {x : Str} {u : Value} (h : keyS p = some x) (r : VRep F u p) : ∃ t, u = .str x t := by
  cases p with
  | str k => exact Option.some.inj h ▸ r.toStr
  | _ => cases h
theorem keyS_eq {p : PV} {x : Str} (h : keyS p = some x) : p = .str x := by
  cases p with
  | str k => rw [Option.some.inj h]
  | _ => cases h
theorem keyI_eq {p : PV} {i : Int} (h : keyI p = some i) : p = .int i := by
  cases p with
  | int k => rw [Option.some.inj h]
  | _ => cases h
theorem lstP_eq {p : PV} {l : List PV} (h : lstP p = some l) : p = .lst l := by
  cases p with
  | lst k => rw [Option.some.inj h]
  | _ => cases h
theorem tupP_eq {p : PV} {l : List PV} (h : tupP p = some l) : p = .tup l := by
  cases p with
  | tup k => rw [Option.some.inj h]
  | _ => cases h
theorem ob {α β : Type} {o : Option α} {f : α → Option β} {b : β} (h : o.bind f = some b) : ∃ a, o = some a ∧ f a = some b := Option.bind_eq_some_iff.mp h
theorem ite_some {α : Type} {p : Prop} [Decidable p] {x : Option α} {a : α} (h : (if p then x else none) = some a) : p ∧ x = some a := by
  by_cases hp : p
  · rw [if_pos hp] at h; exact ⟨hp, h⟩
  · rw [if_neg hp] at h; cases h

theorem int2_ok {f : Int → Int → Option LV} {p q : PV} {v : LV} (h : int2 f p q = some v) (r1 : VRep W.F u p) (r2 : VRep W.F u' q) {t : Sem Value}
    (k : ∀ a b ta tb, u = .int a ta → u' = .int b tb → f a b = some v → wpAny c.M c.A t (Post c lo m cv W.F (RelL c v)) No s) : wpAny c.M c.A t (Post c lo m cv W.F (RelL c v)) No s := by
  obtain ⟨a, h1, h⟩ := ob h
  obtain ⟨b, h2, h⟩ := ob h
  obtain ⟨ta, e1⟩ := keyI_val h1 r1
  obtain ⟨tb, e2⟩ := keyI_val h2 r2
  exact k a b ta tb e1 e2 h
theorem cat_ok {a b : List PV} (S : St c lo W m cv s) (r1 : VSeq W.F .lst u a) (r2 : VSeq W.F .lst u' b) (h : a.length + b.length < 2 ^ 20) :
    wpAny c.M c.A (binaryOp .Add u u') (Post c lo m cv W.F (RelL c (.own (.lst (a ++ b))))) No s := by
  obtain ⟨h1, a1, b1⟩ := r1
  obtain ⟨h2, a2, b2⟩ := r2
  obtain ⟨o1, e1, n1, i1⟩ := S.inv.fix _ a1
  obtain ⟨o2, e2, n2, i2⟩ := S.inv.fix _ a2
  have l1 := b1.length
  have l2 := b2.length
  rw [i1] at e1
  rw [i2] at e2
  rw [h1, h2]
  refine concat_meets ⟨_, e1, rfl⟩ ⟨_, e2, rfl⟩ noFill_list_add seq_list_add PySem.F.slot_list_add PySem.F.entry_list_add (PySem.F.args_list_add_2 _ _) (list_addW _ _ _ _ n1 n2 none none #[] #[] (by simp only [List.size_toArray]; rw [sizeLine_eq]; omega)) ⟨e1, e2, ?_⟩
  rw [show ∀ (vs ws : List Value), vs.toArray ++ ws.toArray = (vs ++ ws).toArray by simp]
  exact Post.own (fo := .lst _) S (Sub.refl _) (.lst (b1.append b2)) ⟨0, rfl⟩ rfl _
theorem addV_ok (S : St c lo W m cv s) {p q : PV} {v : LV} (h : addV p q = some v) (r1 : VRep W.F u p) (r2 : VRep W.F u' q) : wpAny c.M c.A (binaryOp .Add u u') (Post c lo m cv W.F (RelL c v)) No s := by
  unfold addV at h
  cases e1 : keyI p with
  | some a =>
    rw [e1] at h
    obtain ⟨b, e2, h⟩ := ob h
    obtain ⟨ta, h1⟩ := keyI_val e1 r1
    obtain ⟨tb, h2⟩ := keyI_val e2 r2
    rw [h1, h2, ← Option.some.inj h]
    exact P.add_int (Post.pv S (Sub.refl _) (.int _ _) _)
  | none =>
    rw [e1] at h
    cases e2 : lstP p with
    | some a =>
      rw [e2] at h
      obtain ⟨b, e3, h⟩ := ob h
      obtain ⟨hl, h⟩ := ite_some h
      rw [lstP_eq e2] at r1
      rw [lstP_eq e3] at r2
      rw [← Option.some.inj h]
      exact cat_ok S r1.toLst r2.toLst hl
    | none =>
      rw [e2] at h
      obtain ⟨k, e3, h⟩ := ob h
      obtain ⟨l, e4, h⟩ := ob h
      obtain ⟨hl, h⟩ := ite_some h
      obtain ⟨x, t, h1, hx⟩ := strLen_rep e3 r1
      obtain ⟨y, t', h2, hy⟩ := strLen_rep e4 r2
      rw [h1, h2, ← Option.some.inj h]
      exact add_strs S hx hy hl
theorem binop_ok (S : St c lo W m cv s) {op : Operator} {p q : PV} {v : LV} (h : binop op p q = some v) (r1 : VRep W.F u p) (r2 : VRep W.F u' q) :
    wpAny c.M c.A (binaryOp op u u') (Post c lo m cv W.F (RelL c v)) No s := by
  cases op with
  | Add => exact addV_ok S h r1 r2
  | Sub =>
    refine int2_ok h r1 r2 fun a b ta tb h1 h2 h => ?_
    rw [h1, h2, ← Option.some.inj h]
    exact P.sub_int (Post.pv S (Sub.refl _) (.int _ _) _)
  | Mult =>
    refine int2_ok h r1 r2 fun a b ta tb h1 h2 h => ?_
    obtain ⟨hb, h⟩ := ite_some h
    rw [h1, h2, ← Option.some.inj h]
    exact P.mul_int (Post.pv S (Sub.refl _) (.int _ _) _) (IntMulOk.of_left (intBits_le_64 (by omega) (by omega)))
  | Mod =>
    refine int2_ok h r1 r2 fun a b ta tb h1 h2 h => ?_
    obtain ⟨hb, h⟩ := ite_some h
    rw [h1, h2, ← Option.some.inj h]
    refine PyProof.Rows.mod_int (by omega) ?_
    rw [Int.fmod_eq_emod_of_nonneg _ (by omega)]
    exact Post.pv S (Sub.refl _) (.int _ _) _
  | FloorDiv =>
    refine int2_ok h r1 r2 fun a b ta tb h1 h2 h => ?_
    obtain ⟨hb, h⟩ := ite_some h
    rw [h1, h2, ← Option.some.inj h]
    refine PyProof.Rows.floordiv_int (by omega) ?_ (.inl (PyProof.noPylong_small (by omega)))
    rw [Int.fdiv_eq_ediv_of_nonneg _ (by omega)]
    exact Post.pv S (Sub.refl _) (.int _ _) _
  | Pow =>
    refine int2_ok h r1 r2 fun a b ta tb h1 h2 h => ?_
    obtain ⟨⟨ha, hb⟩, h⟩ := ite_some h
    rw [h1, h2, ← Option.some.inj h, ha, hb]
    refine pow_int_small (by omega) (by omega) (by decide) ?_
    exact Post.pv S (Sub.refl _) (.int _ _) _
  | _ => cases h
end
end Mine
namespace Mine
open PySem PyProof.Rows PySem.W PySem.SeqAt
open AutoSeq1 (wpAny_loadPart')
open MeetsSeq MeetsSeq2 MeetsSeq3

/-- item by item, up to the first two that differ -/
inductive EqL (A : Around) (s : Shared) : List Value → List Value → Bool → Prop
  | nil : EqL A s [] [] true
  | cons {v w vs ws b} : EqAt A s v w true → EqL A s vs ws b → EqL A s (v :: vs) (w :: ws) b
  | stop {v w vs ws} : EqAt A s v w false → EqL A s (v :: vs) (w :: ws) false

theorem tuple_eqL (l b : Addr) (items items2 : Array Value) (n n2 : Nat) (r : Bool) :
    Meets (Builtin.«tuple.__eq__» ⟨[.ref l, .ref b], []⟩)
      (fun A R s => s.heap.get? l = some { cls := .type "tuple", dict := none, data := .seq items n, slots := #[] } ∧ s.heap.get? b = some { cls := .type "tuple", dict := none, data := .seq items2 n2, slots := #[] } ∧
        EqL A.in1 s items.toList items2.toList r ∧ R (.ok (.ret (.bool r))) s) :=
  .of_wp fun prog w A R s h => by
    obtain ⟨hp, g, d, tk, os⟩ := s; obtain ⟨hl, hb, he, h⟩ := h
    have f2 := AutoSeq1.sub_tuple_tuple
    wp_walk using wpAny_loadPart' hl, wpAny_loadPart' hb, wpAny_forIn_list _ (fun rest q s' => q.1 = none ∧ s' = ⟨hp, g, d, tk, os⟩ ∧ ∃ vs ws, rest = vs.zip ws ∧ EqL A.in1 ⟨hp, g, d, tk, os⟩ vs ws r ∧ (vs.length == ws.length) = (items.size == items2.size)) _
    case turn =>
      rintro ⟨y, x⟩ rest q s' ⟨hq, rfl, vs, ws, hz, hE, hlen⟩
      cases hE with
      | nil => cases hz
      | cons h1 h2 =>
        simp only [List.zip_cons_cons, List.cons.injEq, Prod.mk.injEq] at hz
        obtain ⟨⟨rfl, rfl⟩, hrest⟩ := hz
        refine wpAny_bind (h1 prog w _ _ ?_)
        wp_walk
        exact ⟨rfl, rfl, _, _, hrest, h2, by simpa using hlen⟩
      | stop h1 =>
        simp only [List.zip_cons_cons, List.cons.injEq, Prod.mk.injEq] at hz
        obtain ⟨⟨rfl, rfl⟩, hrest⟩ := hz
        refine wpAny_bind (h1 prog w _ _ ?_)
        wp_walk
        exact ⟨_, rfl, h⟩
    case fin =>
      rintro ⟨b1, b2⟩ s' ⟨hb', rfl, vs, ws, hz, hE, hlen⟩
      simp only at hb'
      subst hb'
      cases hE with
      | nil =>
        wp_walk
        refine ⟨_, rfl, ?_⟩
        have e : (items.size == items2.size) = true := by rw [← hlen]; rfl
        simpa [Builtin.Tuple.tupleCompareSizes, beq_iff_eq.mp e] using h
      | cons h1 h2 => cases hz
      | stop h1 => cases hz
    case h => exact ⟨rfl, rfl, _, _, rfl, he, by simp⟩

/-- the ledger stands -/
noncomputable def Stands (prog : Program) (w : World) (F : Led) (h : Heap) : Prop := ∀ p ∈ F, ∃ o, h.get? p.1 = some o ∧ p.2.is prog w o

theorem IntVals.items {prog : Program} {w : World} : ∀ {ks : List Int} {vs : List Value}, IntVals ks vs → ItemsAre (intKind prog w) ks vs
  | _, _, .nil => .nil
  | _, _, .cons h => .cons (by simp [intKind, Value.isInt]) h.items
theorem tupleKey_of {prog : Program} {w : World} {F : Led} {h : Heap} (H : Stands prog w F h) {prog' : Program} {w' : World} {a : Addr} {ks : List Int} {vs : List Value} (ha : (a, FO.tup vs) ∈ F) (hi : IntVals ks vs) : IsTupleKey (intKind prog' w') h ks a := by
  obtain ⟨o, ho, n, rfl⟩ := H _ ha
  exact ⟨_, _, n, ho, rfl, rfl, by simpa using hi.items⟩
theorem dictH_of {prog : Program} {w : World} {F : Led} {h : Heap} (H : Stands prog w F h) {prog' : Program} {w' : World} {a : Addr} {kvs : List (List Int × Addr × Value)} (hk : KReps F kvs) (ha : ∃ o, h.get? a = some o ∧ (FO.dctt kvs).is prog w o) :
    h.DictOfH (tupleKind (intKind prog' w')) a kvs := by
  obtain ⟨o, ho, hx, es, ep, hd, he, hn⟩ := ha
  refine ⟨o, es, ep, ho, hx, hd, he, fun x hx => ?_, hn⟩
  obtain ⟨vs, h1, h2⟩ := hk x hx
  exact tupleKey_of H h1 h2
theorem dictI_of {prog : Program} {w : World} {h : Heap} {prog' : Program} {w' : World} {a : Addr} {kvs : List (Int × Value)} (ha : ∃ o, h.get? a = some o ∧ (FO.dcti kvs).is prog w o) : h.DictOf (intKind prog' w') a kvs := by
  obtain ⟨o, ho, hx, es, ep, hd, he, hp, hn⟩ := ha
  refine ⟨o, es, ep, ho, hx, hd, he, ?_, hn⟩
  clear he hd hn
  generalize es.toList = l at hp
  induction hp with
  | nil => exact .nil
  | cons a b _ ih => exact .cons a b ih

theorem samePairs_heap {prog : Program} {w : World} {A : Around} {E : Value → Shared → Prop} {s : Shared} {nm : String} {a b : Addr} {xs ys : List (List Int × Addr × Value)} {Q : Bool → Shared → Prop}
    (hu : A.units < cLine) (ha : (a == sysModules) = false) (hb : (b == sysModules) = false)
    (da : s.heap.DictOfH (tupleKind (intKind prog w)) a xs) (db : s.heap.DictOfH (tupleKind (intKind prog w)) b ys) (hks : xs.map (·.1) = ys.map (·.1))
    (he : ∀ (j : Nat) (x y : List Int × Addr × Value), xs[j]? = some x → ys[j]? = some y → EqAt A s x.2.2 y.2.2 true) (h : Q true s) :
    wpAny (model prog w) A (Builtin.Dict.samePairs nm a b) Q E s := by
  obtain ⟨oa, es, ep, hoa, _, hda, hea, hia, _⟩ := da
  obtain ⟨ob, es', ep', hob, _, hdb, heb, hib, hnb⟩ := db
  have hla := size_of_entries hea
  have hlb := size_of_entries heb
  have hlen : xs.length = ys.length := by have := congrArg List.length hks; simpa using this
  unfold Builtin.Dict.samePairs Builtin.Dict.showsAll
  rw [if_neg (show ¬ (a == sysModules) = true by rw [ha]; exact Bool.false_ne_true), if_neg (show ¬ (b == sysModules) = true by rw [hb]; exact Bool.false_ne_true)]
  refine wpAny_bind (wpAny_pure (wpAny_bind (wpAny_pure ?_)))
  refine wpAny_bind (wpAny_dictEntries hoa hda ?_)
  dsimp only
  refine wpAny_bind (wpAny_dictEntries hob hdb ?_)
  rw [if_neg (by rw [hla, hlb, hlen]; simp)]
  refine wpAny_bind (wpAny_dictEpoch hoa hda ?_)
  refine wpAny_bind ?_
  rw [Std.Legacy.Range.forIn_eq_forIn_range']
  simp only [Std.Legacy.Range.size, Nat.sub_zero, Nat.add_sub_cancel, Nat.div_one]
  refine wpAny_forIn_list _ (fun rest q s' => s' = s ∧ q = (none, ()) ∧ ∃ i, rest = List.range' i (es.size - i) ∧ i ≤ es.size) _ ?_ ?_ _ _ ⟨rfl, rfl, 0, by simp, Nat.zero_le _⟩
  · rintro x rest q s' ⟨rfl, rfl, i, hr, hi⟩
    have hlt : i < es.size := by
      rcases Nat.lt_or_ge i es.size with h | h
      · exact h
      · rw [Nat.sub_eq_zero_of_le h] at hr; simp at hr
    obtain ⟨rfl, hrest⟩ : x = i ∧ rest = List.range' (i + 1) (es.size - (i + 1)) := by
      have e : es.size - i = (es.size - (i + 1)) + 1 := by omega
      rw [e, List.range'_succ] at hr
      injection hr with h1 h2
      exact ⟨h1, h2⟩
    have hx1 : x < xs.length := by omega
    have hx2 : x < ys.length := by omega
    have g1 := List.getElem?_eq_getElem hx1
    have g2 := List.getElem?_eq_getElem hx2
    refine wpAny_bind (wpAny_dictEntries hoa hda ?_)
    rw [entry_at hea x, g1]
    show wpAny _ _ (holding [_, _] _ >>= _) _ _ _
    have hkey : xs[x].1 = ys[x].1 := by
      have e1 : (xs.map (·.1))[x]? = some xs[x].1 := by rw [List.getElem?_map, g1]; rfl
      have e2 : (ys.map (·.1))[x]? = some ys[x].1 := by rw [List.getElem?_map, g2]; rfl
      rw [hks, e2] at e1; exact (Option.some.inj e1).symm
    refine wpAny_bind (wpAny_holding (wpAny_bind ?_))
    refine wpAny_dictFind_heap (knd := tupleKind (intKind prog w)) (xs := ys) hu (hia _ (List.getElem_mem hx1)) hob hdb heb hib hnb (fun hno => ?_) (fun j p hj => ?_)
    · exact absurd (by rw [hkey]; exact g2) (hno x ys[x].2)
    · have hjx : j = x := idxH_unique hnb hj (by rw [hkey]; exact g2)
      subst hjx
      refine wpAny_bind (wpAny_dictEntries hob hdb ?_)
      rw [entry_at heb j, g2]
      refine wpAny_holding (he j _ _ g1 g2 prog w _ _ ?_)
      show wpAny _ _ (if (!true) = true then _ else _) _ _ _
      rw [if_neg (by decide)]
      refine wpAny_bind (wpAny_dictEpoch hoa hda ?_)
      rw [if_neg (by simp)]
      exact wpAny_pure ⟨rfl, rfl, j + 1, hrest, hlt⟩
  · rintro q s' ⟨rfl, rfl, i, hr, hi⟩
    exact wpAny_pure h

theorem eq_dict {prog : Program} {w : World} {A : Around} {E : Value → Shared → Prop} {s : Shared} {a b : Addr} (ta : s.TypeIs (.ref a) "dict") (tb : s.TypeIs (.ref b) "dict") (hu : A.units < cLine)
    (h : ∀ (E : Value → Shared → Prop) (Q : Bool → Shared → Prop) nm, Q true s → wpAny (model prog w) A.in1 (Builtin.Dict.samePairs nm a b) Q E s) :
    wpAny (model prog w) A (richCompare .Eq (.ref a) (.ref b)) (fun v s' => v = .bool true ∧ s' = s) E s := by
  refine wpAny_richCompare_same_room (op := .Eq) ta tb PySem.F.slot_dict_eq (wpAny_call_entry PySem.F.slot_dict_eq ta PySem.F.entry_dict_eq ?_ (PySem.F.args_dict_eq_2 _ _)) hu
  show wpAny _ _ (Builtin.Dict.dictSlotArgs "__eq__" ⟨[.ref a, .ref b], []⟩ >>= _) _ _ s
  refine wpAny_bind ?_
  unfold Builtin.Dict.dictSlotArgs
  refine wpAny_bind (wpAny_notOrdered_dict ta ?_)
  show wpAny _ _ (pure (Value.ref a, Value.ref b)) _ _ s
  refine wpAny_pure ?_
  refine wpAny_bind (wpAny_isInstance (T := "dict") tb PySem.F.sub_dict_dict ?_)
  simp only [Bool.not_true, Bool.false_eq_true, if_false]
  refine wpAny_bind (wpAny_pure (wpAny_bind (wpAny_pure ?_)))
  refine wpAny_bind (h _ _ _ ?_)
  exact wpAny_pure ⟨_, rfl, (fun x => nomatch x), rfl, rfl⟩


theorem RcAt.int {A : Around} {s : Shared} (a : Int) (t : Tok) (b : Int) (u : Tok) : RcAt A s (.int a t) (.int b u) (a == b) := fun _ _ _ _ h => P.eq_int h
theorem RcAt.str {A : Around} {s : Shared} (a : Str) (t : Tok) (b : Str) (u : Tok) : RcAt A s (.str a t) (.str b u) (a == b) := fun _ _ _ _ h => PyProof.Rows.eq_str h
theorem RcAt.bool {A : Around} {s : Shared} (a b : Bool) : RcAt A s (.bool a) (.bool b) (a == b) := fun _ _ _ _ h => PyProof.Rows.eq_bool h
theorem RcAt.none {A : Around} {s : Shared} : RcAt A s .none .none true := fun _ _ _ _ h => PySem.EqNone.eq_none_none h

section
variable {prog : Program} {w : World} {F : Led}

theorem VSeq.elim {mk : List Value → FO} {u : Value} {ps : List PV} {P : Prop} (h : VSeq F mk u ps) (k : ∀ {a}, u = .ref a → P) : P := by
  obtain ⟨h1, _, _⟩ := h
  exact k h1
theorem stands_same {h : Heap} (H : Stands prog w F h) {a : Addr} {fo fo' : FO} (h1 : (a, fo) ∈ F) (h2 : (a, fo') ∈ F) : ∃ o, fo.is prog w o ∧ fo'.is prog w o := by
  obtain ⟨o, e, i⟩ := H _ h1
  obtain ⟨o', e', i'⟩ := H _ h2
  rw [e] at e'; cases e'
  exact ⟨o, i, i'⟩

theorem eqvs_same {f : PV → PV → Option Bool} (hf : ∀ {u p q b}, VRep F u p → VRep F u q → f p q = some b → b = true) {vs : List Value} {b : Bool} : ∀ {ps qs}, VReps F vs ps → VReps F vs qs → eqvs f ps qs = some b → b = true := by
  induction vs with
  | nil =>
    intro ps qs h1 h2 h
    cases h1
    cases h2
    exact (Option.some.inj h).symm
  | cons v vs ih =>
    intro ps qs h1 h2 h
    cases h1 with
    | @cons _ p _ ps h1 r1 =>
    cases h2 with
    | @cons _ q _ qs h2 r2 =>
      have h : (match f p q with | some true => eqvs f ps qs | r => r) = some b := h
      cases e : f p q with
      | none => rw [e] at h; cases h
      | some x =>
        have := hf h1 h2 e
        subst this
        rw [e] at h
        exact ih r1 r2 h

/-- how an == of two trees is told -/
inductive EqvC (f : PV → PV → Option Bool) : PV → PV → Bool → Prop
  | none : EqvC f .none .none true
  | bool (a b : Bool) : EqvC f (.bool a) (.bool b) (a == b)
  | int (a b : Int) : EqvC f (.int a) (.int b) (a == b)
  | str (a b : Str) : EqvC f (.str a) (.str b) (a == b)
  | tup {a b r} : eqvs f a b = some r → EqvC f (.tup a) (.tup b) r
  | lst {a b} : a.length = b.length → eqvs f a b = some true → EqvC f (.lst a) (.lst b) true
  | lens {a b} : a.length ≠ b.length → EqvC f (.lst a) (.lst b) false
  | dcti {k a b} : eqvs f a b = some true → EqvC f (.dcti k a) (.dcti k b) true
  | dctt {k a b} : eqvs f a b = some true → EqvC f (.dctt k a) (.dctt k b) true
theorem eqT_inv {o : Option Bool} {b : Bool} (h : eqT o = some b) : o = some true ∧ b = true := by
  rcases o with _ | _ | _
  · cases h
  · cases h
  · exact ⟨rfl, (Option.some.inj h).symm⟩
theorem eqF_inv {f : PV → PV → Option Bool} {p q : PV} {b : Bool} (h : eqF f p q = some b) : EqvC f p q b := by
  cases p with
  | none => cases q with
    | none => exact Option.some.inj h ▸ .none
    | _ => exact nomatch h
  | bool x => cases q with
    | bool y => exact Option.some.inj h ▸ .bool x y
    | _ => exact nomatch h
  | int x => cases q with
    | int y => exact Option.some.inj h ▸ .int x y
    | _ => exact nomatch h
  | str x => cases q with
    | str y => exact Option.some.inj h ▸ .str x y
    | _ => exact nomatch h
  | txt => exact nomatch h
  | tup x => cases q with
    | tup y => exact .tup h
    | _ => exact nomatch h
  | lst x => cases q with
    | lst y =>
      have h : (if x.length = y.length then eqT (eqvs f x y) else some false) = some b := h
      by_cases hl : x.length = y.length
      · rw [if_pos hl] at h
        obtain ⟨h1, rfl⟩ := eqT_inv h
        exact .lst hl h1
      · rw [if_neg hl] at h
        exact Option.some.inj h ▸ .lens hl
    | _ => exact nomatch h
  | dcti kx x => cases q with
    | dcti ky y =>
      have h : (if kx = ky then eqT (eqvs f x y) else none) = some b := h
      by_cases hl : kx = ky
      · subst hl
        rw [if_pos rfl] at h
        obtain ⟨h1, rfl⟩ := eqT_inv h
        exact .dcti h1
      · rw [if_neg hl] at h; exact nomatch h
    | _ => exact nomatch h
  | dcts => exact nomatch h
  | dctt kx x => cases q with
    | dctt ky y =>
      have h : (if kx = ky then eqT (eqvs f x y) else none) = some b := h
      by_cases hl : kx = ky
      · subst hl
        rw [if_pos rfl] at h
        obtain ⟨h1, rfl⟩ := eqT_inv h
        exact .dctt h1
      · rw [if_neg hl] at h; exact nomatch h
    | _ => exact nomatch h

theorem seq_same {h : Heap} (H : Stands prog w F h) {a : Addr} {vs ws : List Value} {mk : List Value → FO} (hm : ∀ vs o, (mk vs).is prog w o → ∃ T n, o = { cls := .type T, data := .seq vs.toArray n }) (h1 : (a, mk vs) ∈ F) (h2 : (a, mk ws) ∈ F) : vs = ws := by
  obtain ⟨o, i, i'⟩ := stands_same H h1 h2
  obtain ⟨T, n, e⟩ := hm _ _ i
  obtain ⟨T', n', e'⟩ := hm _ _ i'
  rw [e] at e'
  injection e' with _ _ e3 _
  injection e3 with e4 _
  simpa using congrArg Array.toList e4
theorem eqC_same {f : PV → PV → Option Bool} {h : Heap} (H : Stands prog w F h) (ih : ∀ {u p q b}, VRep F u p → VRep F u q → f p q = some b → b = true) {u : Value} {p q : PV} {b : Bool} (r1 : VRep F u p) (r2 : VRep F u q) (e : EqvC f p q b) : b = true := by
  cases e with
  | none => rfl
  | bool x y =>
    have h1 : u = .bool x := r1.inv
    have h2 : u = .bool y := r2.inv
    rw [h1] at h2
    rw [Value.bool.inj h2]; exact beq_self_eq_true _
  | int x y =>
    obtain ⟨t, h1⟩ := r1.toInt
    obtain ⟨t', h2⟩ := r2.toInt
    rw [h1] at h2
    rw [(Value.int.inj h2).1]; exact beq_self_eq_true _
  | str x y =>
    obtain ⟨t, h1⟩ := r1.toStr
    obtain ⟨t', h2⟩ := r2.toStr
    rw [h1] at h2
    rw [(Value.str.inj h2).1]; exact beq_self_eq_true _
  | tup e =>
    obtain ⟨h1, a1, b1⟩ := r1.toTup
    obtain ⟨h2, a2, b2⟩ := r2.toTup
    rw [h1] at h2
    rw [← Value.ref.inj h2] at a2
    rw [← seq_same H (mk := .tup) (fun _ _ h => h.elim fun n e => ⟨"tuple", n, e⟩) a1 a2] at b2
    exact eqvs_same ih b1 b2 e
  | lst => rfl
  | lens hl =>
    obtain ⟨h1, a1, b1⟩ := r1.toLst
    obtain ⟨h2, a2, b2⟩ := r2.toLst
    rw [h1] at h2
    rw [← Value.ref.inj h2] at a2
    rw [← seq_same H (mk := .lst) (fun _ _ h => h.elim fun n e => ⟨"list", n, e⟩) a1 a2] at b2
    exact absurd (b1.length.symm.trans b2.length) hl
  | dcti => rfl
  | dctt => rfl
theorem eqv_same {h : Heap} (H : Stands prog w F h) {n : Nat} : ∀ {u p q b}, VRep F u p → VRep F u q → eqv n p q = some b → b = true := by
  induction n with
  | zero => exact fun _ _ e => nomatch e
  | succ n ih => exact fun r1 r2 e => eqC_same H ih r1 r2 (eqF_inv e)

theorem eqL_of {f : PV → PV → Option Bool} {A : Around} {s : Shared} (hf : ∀ {u u' p q b}, VRep F u p → VRep F u' q → f p q = some b → EqAt A s u u' b) {b : Bool} {vs : List Value} : ∀ {ws ps qs}, VReps F vs ps → VReps F ws qs → eqvs f ps qs = some b → EqL A s vs ws b := by
  induction vs with
  | nil =>
    intro ws ps qs h1 h2 h
    cases h1
    cases h2 with
    | nil => exact Option.some.inj h ▸ .nil
    | cons => cases h
  | cons v vs ih =>
    intro ws ps qs h1 h2 h
    cases h1 with
    | @cons _ p _ ps h1 r1 =>
    cases h2 with
    | nil => cases h
    | @cons _ q _ qs h2 r2 =>
      have h : (match f p q with | some true => eqvs f ps qs | r => r) = some b := h
      cases e : f p q with
      | none => rw [e] at h; cases h
      | some x =>
        have k := hf h1 h2 e
        rw [e] at h
        cases x with
        | true => exact .cons k (ih r1 r2 h)
        | false => cases h; exact .stop k
theorem EqL.at' {A : Around} {s : Shared} {vs ws : List Value} {b : Bool} (h : EqL A s vs ws b) : b = true → ∀ (j : Nat) (v w : Value), vs[j]? = some v → ws[j]? = some w → EqAt A s v w true := by
  induction h with
  | nil => exact fun _ j v w e => by simp at e
  | cons h _ ih =>
    intro hb j v w e1 e2
    cases j with
    | zero => simp at e1 e2; subst e1 e2; exact h
    | succ j => exact ih hb j v w (by simpa using e1) (by simpa using e2)
  | stop => exact fun h => nomatch h
theorem EqL.at {A : Around} {s : Shared} {vs ws : List Value} (h : EqL A s vs ws true) : ∀ (j : Nat) (v w : Value), vs[j]? = some v → ws[j]? = some w → EqAt A s v w true := h.at' rfl

theorem isTuple_of {h : Heap} {a : Addr} {vs : List Value} (H : Stands prog w F h) (ha : (a, FO.tup vs) ∈ F) : ∃ n, h.get? a = some { cls := .type "tuple", dict := none, data := .seq vs.toArray n, slots := #[] } := by
  obtain ⟨o, e, n, rfl⟩ := H _ ha; exact ⟨n, e⟩
theorem isList_of {h : Heap} {a : Addr} {vs : List Value} (H : Stands prog w F h) (ha : (a, FO.lst vs) ∈ F) : h.IsList a vs.toArray := lst_isList (H _ ha)

theorem rc_lists {A : Around} {s : Shared} {a b : Addr} {vs ws : List Value} (ha : s.heap.IsList a vs.toArray) (hb : s.heap.IsList b ws.toArray) (hu : A.units < cLine) (he : EqL A.in1 s vs ws true) (hl : vs.length = ws.length) : RcAt A s (.ref a) (.ref b) true := by
  have := RcAt.lists (e := fun _ => true) ha hb (by simpa using hl) hu (fun j h1 h2 => he.at j _ _ (by simp) (by simp))
  rwa [List.all_eq_true.mpr fun _ _ => rfl] at this

theorem hits_aux {A : Around} {s : Shared} {kb : List (Int × Value)} : ∀ {ka : List (Int × Value)}, (∀ kv ∈ ka, ∃ y, valueAt kb kv.1 = some y ∧ EqAt A s kv.2 y true) → KeqHits A s kb ka true
  | [], _ => .nil
  | (k, v) :: r, h => by
    obtain ⟨y, h1, h2⟩ := h (k, v) List.mem_cons_self
    exact KeqHits.hit (e := true) (b := true) h1 h2 (hits_aux fun kv hkv => h kv (List.mem_cons_of_mem _ hkv))
theorem hits_all {A : Around} {s : Shared} {prog' : Program} {w' : World} {b : Addr} {ka kb : List (Int × Value)} (d : s.heap.DictOf (intKind prog' w') b kb) (hk : ka.map (·.1) = kb.map (·.1))
    (hL : EqL A s (ka.map (·.2)) (kb.map (·.2)) true) : KeqHits A s kb ka true := by
  obtain ⟨_, _, _, _, _, _, _, _, hn⟩ := d
  refine hits_aux fun kv hkv => ?_
  obtain ⟨j, hj⟩ := List.mem_iff_getElem?.mp hkv
  have hjl : j < kb.length := by
    have h1 := (List.getElem?_eq_some_iff.mp hj).1
    have := congrArg List.length hk
    simp only [List.length_map] at this
    omega
  have g2 := List.getElem?_eq_getElem hjl
  have e1 : (ka.map (·.1))[j]? = some kv.1 := by rw [List.getElem?_map, hj]; rfl
  have e2 : (kb.map (·.1))[j]? = some kb[j].1 := by rw [List.getElem?_map, g2]; rfl
  rw [hk, e2] at e1
  have hkey := Option.some.inj e1
  exact ⟨kb[j].2, valueAt_of_get hn (by rw [g2, ← hkey]), hL.at j _ _ (by rw [List.getElem?_map, hj]; rfl) (by rw [List.getElem?_map, g2]; rfl)⟩

theorem eqC_at {f : PV → PV → Option Bool} {s : Shared} {A : Around} {u u' : Value} {p q : PV} {b : Bool} (r1 : VRep F u p) (r2 : VRep F u' q) (e : EqvC f p q b) (rc : RcAt A s u u' b) (hs : u = u' → b = true) : EqAt A s u u' b := by
  have refs : ∀ {a a' : Addr}, u = .ref a → u' = .ref a' → EqAt A s u u' b := by
    intro a a' h1 h2
    rw [h1, h2] at rc hs ⊢
    by_cases h : a = a'
    · rw [hs (by rw [h]), h]; exact EqAt.same _
    · exact EqAt.of_refs h rc
  cases e with
  | none =>
    rw [show u = .none from r1.inv, show u' = .none from r2.inv]; exact EqAt.same _
  | bool x y =>
    rw [show u = .bool x from r1.inv, show u' = .bool y from r2.inv]; exact EqAt.bool_bool _ _
  | int x y =>
    obtain ⟨t, h1⟩ := r1.toInt
    obtain ⟨t', h2⟩ := r2.toInt
    rw [h1, h2]; exact EqAt.int_int _ _ _ _
  | str x y =>
    obtain ⟨t, h1⟩ := r1.toStr
    obtain ⟨t', h2⟩ := r2.toStr
    rw [h1, h2]; exact EqAt.str_str _ _ _ _
  | tup => exact VSeq.elim r1.toTup fun h1 => VSeq.elim r2.toTup fun h2 => refs h1 h2
  | lst => exact VSeq.elim r1.toLst fun h1 => VSeq.elim r2.toLst fun h2 => refs h1 h2
  | lens => exact VSeq.elim r1.toLst fun h1 => VSeq.elim r2.toLst fun h2 => refs h1 h2
  | dcti =>
    obtain ⟨h1, _, _, _⟩ : VDct _ _ _ _ _ _ _ := r1.inv
    obtain ⟨h2, _, _, _⟩ : VDct _ _ _ _ _ _ _ := r2.inv
    exact refs h1 h2
  | dctt =>
    obtain ⟨a, _, h1, _⟩ := r1.inv
    obtain ⟨a', _, h2, _⟩ := r2.inv
    exact refs h1 h2
theorem at_of {s : Shared} (H : Stands prog w F s.heap) {n : Nat} {A : Around} {u u' p q b} (r1 : VRep F u p) (r2 : VRep F u' q) (e : eqv n p q = some b) (rc : RcAt A s u u' b) : EqAt A s u u' b := by
  cases n with
  | zero => cases e
  | succ n => exact eqC_at r1 r2 (eqF_inv e) rc fun h => eqv_same (n := n + 1) H r1 (h ▸ r2) e

theorem rc_dcti {s : Shared} (H : Stands prog w F s.heap) (hm : ∀ p ∈ F, p.1 ≠ sysModules) {A : Around} {a a' : Addr} {ka kb : List (Int × Value)} (hu : A.units < cLine) (a1 : (a, FO.dcti ka) ∈ F) (a2 : (a', FO.dcti kb) ∈ F) (hk : ka.map (·.1) = kb.map (·.1))
    (hL : EqL A.in1 s (ka.map (·.2)) (kb.map (·.2)) true) : RcAt A s (.ref a) (.ref a') true := by
  intro prog' w' E Q hq
  have d1 := dictI_of (prog' := prog') (w' := w') (H _ a1)
  have d2 := dictI_of (prog' := prog') (w' := w') (H _ a2)
  refine wpAny_mono (eq_dict d1.typeIs d2.typeIs hu fun E Q nm hq => ?_) (fun v s' q => by obtain ⟨rfl, rfl⟩ := q; exact hq) fun _ _ e => e
  refine keq_samePairs (r := true) (beq_false_of_ne (hm _ a1)) (beq_false_of_ne (hm _ a2)) d1 d2 (fun _ => ?_) (by
    have := congrArg List.length hk
    simp only [List.length_map] at this
    simpa [this] using hq)
  exact hits_all d2 hk hL
theorem rc_dctt {s : Shared} (H : Stands prog w F s.heap) (hm : ∀ p ∈ F, p.1 ≠ sysModules) {A : Around} {a a' : Addr} {ka kb : List (List Int × Addr × Value)} (hu : A.units < cLine) (hu' : A.in1.units < cLine) (a1 : (a, FO.dctt ka) ∈ F) (a2 : (a', FO.dctt kb) ∈ F) (k1 : KReps F ka) (k2 : KReps F kb) (hk : ka.map (·.1) = kb.map (·.1))
    (hL : EqL A.in1 s (ka.map (·.2.2)) (kb.map (·.2.2)) true) : RcAt A s (.ref a) (.ref a') true := by
  intro prog' w' E Q hq
  have d1 := dictH_of (prog' := prog') (w' := w') H k1 (H _ a1)
  have d2 := dictH_of (prog' := prog') (w' := w') H k2 (H _ a2)
  refine wpAny_mono (eq_dict d1.typeIs d2.typeIs hu fun E Q nm hq => ?_) (fun v s' q => by obtain ⟨rfl, rfl⟩ := q; exact hq) fun _ _ e => e
  exact samePairs_heap hu' (beq_false_of_ne (hm _ a1)) (beq_false_of_ne (hm _ a2)) d1 d2 hk
    (fun j x y h1 h2 => hL.at j _ _ (by rw [List.getElem?_map, h1]; rfl) (by rw [List.getElem?_map, h2]; rfl)) hq
theorem rc_tup {s : Shared} (H : Stands prog w F s.heap) {A : Around} {a a' : Addr} {vs ws : List Value} {b : Bool} (hu : A.units < cLine) (a1 : (a, FO.tup vs) ∈ F) (a2 : (a', FO.tup ws) ∈ F) (hL : EqL A.in1 s vs ws b) : RcAt A s (.ref a) (.ref a') b := by
  obtain ⟨n1, e1⟩ := isTuple_of H a1
  obtain ⟨n2, e2⟩ := isTuple_of H a2
  intro prog w E Q hq
  exact richCompare_meets_room (op := .Eq) ⟨_, e1, rfl⟩ ⟨_, e2, rfl⟩ PySem.F.slot_tuple_eq PySem.F.entry_tuple_eq (PySem.F.args_tuple_eq_2 _ _) (tuple_eqL _ _ _ _ n1 n2 b)
    ⟨e1, e2, by simpa using hL, show Value.bool b ≠ Value.notImplemented ∧ Q (.bool b) s from ⟨(fun x => nomatch x), hq⟩⟩ hu
theorem eqC_rc {f : PV → PV → Option Bool} {s : Shared} (H : Stands prog w F s.heap) (hm : ∀ p ∈ F, p.1 ≠ sysModules) {A : Around} (hu : A.units + 2 < cLine)
    (ih : ∀ {u u' p q b}, VRep F u p → VRep F u' q → f p q = some b → EqAt A.in1 s u u' b) {u u' : Value} {p q : PV} {b : Bool} (r1 : VRep F u p) (r2 : VRep F u' q) (e : EqvC f p q b) : RcAt A s u u' b := by
  have h0 : A.units < cLine := by omega
  cases e with
  | none =>
    rw [show u = .none from r1.inv, show u' = .none from r2.inv]; exact RcAt.none
  | bool x y =>
    rw [show u = .bool x from r1.inv, show u' = .bool y from r2.inv]; exact RcAt.bool _ _
  | int x y =>
    obtain ⟨t, h1⟩ := r1.toInt
    obtain ⟨t', h2⟩ := r2.toInt
    rw [h1, h2]; exact RcAt.int _ _ _ _
  | str x y =>
    obtain ⟨t, h1⟩ := r1.toStr
    obtain ⟨t', h2⟩ := r2.toStr
    rw [h1, h2]; exact RcAt.str _ _ _ _
  | tup e =>
    obtain ⟨h1, a1, b1⟩ := r1.toTup
    obtain ⟨h2, a2, b2⟩ := r2.toTup
    rw [h1, h2]; exact rc_tup H h0 a1 a2 (eqL_of ih b1 b2 e)
  | lst hl e =>
    obtain ⟨h1, a1, b1⟩ := r1.toLst
    obtain ⟨h2, a2, b2⟩ := r2.toLst
    rw [h1, h2]; exact rc_lists (isList_of H a1) (isList_of H a2) h0 (eqL_of ih b1 b2 e) (by rw [b1.length, b2.length, hl])
  | lens hl =>
    obtain ⟨h1, a1, b1⟩ := r1.toLst
    obtain ⟨h2, a2, b2⟩ := r2.toLst
    rw [← b1.length, ← b2.length] at hl
    rw [h1, h2]; exact RcAt.lists_lengths (isList_of H a1) (isList_of H a2) (by simpa using hl) h0
  | dcti e =>
    obtain ⟨h1, k1, a1, b1⟩ : VDct _ _ _ _ _ _ _ := r1.inv
    obtain ⟨h2, k2, a2, b2⟩ : VDct _ _ _ _ _ _ _ := r2.inv
    rw [h1, h2]; exact rc_dcti H hm h0 a1 a2 (k1.symm.trans k2) (eqL_of ih b1 b2 e)
  | dctt e =>
    obtain ⟨_, _, h1, k1, a1, b1, c1⟩ := r1.inv
    obtain ⟨_, _, h2, k2, a2, b2, c2⟩ := r2.inv
    rw [h1, h2]; exact rc_dctt H hm h0 (by simp only [Around.in1_units]; omega) a1 a2 c1 c2 (k1.symm.trans k2) (eqL_of ih b1 b2 e)
theorem eqv_rc {s : Shared} (H : Stands prog w F s.heap) (hm : ∀ p ∈ F, p.1 ≠ sysModules) (n : Nat) : ∀ {A : Around} {u u' p q b}, A.units + 2 * n + 2 < cLine → VRep F u p → VRep F u' q → eqv n p q = some b → RcAt A s u u' b := by
  induction n with
  | zero => exact fun _ _ _ e => nomatch e
  | succ n ih =>
    intro A u u' p q b hu r1 r2 e
    exact eqC_rc H hm (by omega) (fun h1 h2 h3 => at_of H h1 h2 h3 (ih (by simp only [Around.in1_units]; omega) h1 h2 h3)) r1 r2 (eqF_inv e)
theorem eqv_at {s : Shared} (H : Stands prog w F s.heap) (hm : ∀ p ∈ F, p.1 ≠ sysModules) {n : Nat} {A : Around} {u u' p q b} (hu : A.units + 2 * n + 2 < cLine) (r1 : VRep F u p) (r2 : VRep F u' q) (e : eqv n p q = some b) : EqAt A s u u' b :=
  at_of H r1 r2 e (eqv_rc H hm n hu r1 r2 e)
end
end Mine
namespace Mine
open PySem PyProof.Rows PySem.W PySem.SeqAt

section
variable {prog : Program} {w : World} {G : Led}

/-- a table, a key, what stands there -/
inductive DV (prog : Program) (w : World) (h : Heap) (d : Addr) : Value → Option Value → Prop
  | val {K : Type} [DecidableEq K] (knd : KeyKind prog w K) {f : K → Option Value} {k : K} {key : Value} : h.MapOf knd d f → knd.is k key = true → DV prog w h d key (f k)
  | tup {xs : List (List Int × Addr × Value)} {k : List Int} {a : Addr} : h.DictOfH (tupleKind (intKind prog w)) d xs → IsTupleKey (intKind prog w) h k a → DV prog w h d (.ref a) ((atKey xs k).map (·.2))

/-- the two say the same -/
inductive ORep (G : Led) : Option Value → Option PV → Prop
  | none : ORep G none none
  | some {v p} : VRep G v p → ORep G (some v) (some p)

theorem look_cons {K : Type} [DecidableEq K] {k k' : K} {ks : List K} {v : PV} {vs : List PV} : look (k' :: ks) (v :: vs) k = if k' = k then some v else look ks vs k := rfl
theorem look_of {K : Type} [DecidableEq K] {kvs : List (K × Value)} : ∀ {ps : List PV}, VReps G (kvs.map (·.2)) ps → ∀ k, ORep G (valueAt kvs k) (look (kvs.map (·.1)) ps k) := by
  induction kvs with
  | nil => intro ps h k; cases h; exact .none
  | cons x r ih =>
    intro ps h k
    cases h with
    | @cons _ p _ ps h t =>
      have ih := ih t k
      unfold valueAt at ih ⊢
      simp only [List.map_cons, look_cons, List.find?_cons]
      by_cases e : x.1 = k
      · simp only [e, decide_true, if_true, Option.map_some]; exact .some h
      · simp only [decide_eq_false e, if_neg e]; exact ih
theorem lookH_of {kvs : List (List Int × Addr × Value)} {ps : List PV} (h : VReps G (kvs.map (·.2.2)) ps) (k : List Int) : ORep G ((atKey kvs k).map (·.2)) (look (kvs.map (·.1)) ps k) := by
  have h : VReps G ((kvs.map fun x => (x.1, x.2.2)).map (·.2)) ps := by rw [List.map_map]; exact h
  have key := look_of h k
  rw [List.map_map] at key
  have e : ∀ l : List (List Int × Addr × Value), valueAt (l.map fun x => (x.1, x.2.2)) k = (atKey l k).map (·.2) := fun l => by
    unfold valueAt atKey
    rw [List.find?_map]
    show Option.map _ (Option.map _ (l.find? fun x => decide (x.1 = k))) = _
    cases l.find? fun x => decide (x.1 = k) <;> rfl
  rw [e] at key
  exact key

theorem keyT_vals {ps : List PV} : ∀ {ks : List Int} {vs : List Value}, ps.mapM keyI = some ks → VReps G vs ps → IntVals ks vs := by
  induction ps with
  | nil => intro ks vs h r; cases r; cases h; exact .nil
  | cons p ps ih =>
    intro ks vs h r
    cases r with
    | cons r t =>
      rw [List.mapM_cons] at h
      obtain ⟨i, hi, h⟩ := ob h
      obtain ⟨ks', hk, e⟩ := ob h
      obtain ⟨t', e'⟩ := keyI_val hi r
      rw [e', ← Option.some.inj e]
      exact .cons (ih hk t)

theorem keyT_val {p : PV} {k : List Int} {u : Value} (h : keyT p = some k) (r : VRep G u p) : ∃ a vs, u = .ref a ∧ (a, FO.tup vs) ∈ G ∧ IntVals k vs := by
  cases p with
  | tup l =>
    obtain ⟨e, ha, hr⟩ := r.toTup
    exact ⟨_, _, e, ha, keyT_vals h hr⟩
  | _ => cases h

theorem dictS_of {h : Heap} {prog' : Program} {a : Addr} {kvs : List (Str × Value)} (ha : ∃ o, h.get? a = some o ∧ (FO.dcts kvs).is prog w o) : h.DictOf (strKind prog w) a kvs := by
  obtain ⟨o, ho, hx, es, ep, hd, he, hp, hn⟩ := ha
  exact ⟨o, es, ep, ho, hx, hd, he, hp, hn⟩
/-- an empty table is of every kind -/
theorem empty_of {h : Heap} {a : Addr} (ha : ∃ o, h.get? a = some o ∧ (FO.dcti []).is prog w o) : ∃ o ep, h.get? a = some o ∧ o.ExactDict ∧ o.data = .dict #[] ep := by
  obtain ⟨o, ho, hx, es, ep, hd, he, hp, hn⟩ := ha
  have : es.toList = [] := by cases e : es.toList with | nil => rfl | cons x r => rw [e] at hp; cases hp
  have : es = #[] := Array.ext' this
  subst this
  exact ⟨o, ep, ho, hx, hd⟩
theorem empty_str {h : Heap} {a : Addr} (ha : ∃ o, h.get? a = some o ∧ (FO.dcti []).is prog w o) : ∃ o, h.get? a = some o ∧ (FO.dcts []).is prog w o := by
  obtain ⟨o, ep, ho, hx, hd⟩ := empty_of ha
  exact ⟨o, ho, hx, #[], ep, hd, fun e he => by simp at he, .nil, List.nodup_nil⟩
theorem empty_tup {h : Heap} {a : Addr} (ha : ∃ o, h.get? a = some o ∧ (FO.dcti []).is prog w o) : ∃ o, h.get? a = some o ∧ (FO.dctt []).is prog w o := by
  obtain ⟨o, ep, ho, hx, hd⟩ := empty_of ha
  exact ⟨o, ho, hx, #[], ep, hd, rfl, List.nodup_nil⟩

theorem int_is (prog : Program) (w : World) (k : Int) (t : Tok) : (intKind prog w).is k (.int k t) = true := by simp [intKind, Value.isInt]

theorem VRep.obj {u : Value} {mo : MO} (r : VRep G u mo.pv) : ∃ a fo, u = .ref a ∧ (a, fo) ∈ G ∧ FORep G fo mo := by
  cases mo with
  | lst l => obtain ⟨e, ha, hr⟩ := r.toLst; exact ⟨_, _, e, ha, .lst hr⟩
  | dcti ks vs => obtain ⟨e, e', ha, hr⟩ : VDct _ _ _ _ _ _ _ := r.inv; exact ⟨_, _, e, ha, e' ▸ .dcti hr⟩
  | dcts ks vs => obtain ⟨e, e', ha, hr⟩ : VDct _ _ _ _ _ _ _ := r.inv; exact ⟨_, _, e, ha, e' ▸ .dcts hr⟩
  | dctt ks vs => obtain ⟨_, _, e, e', ha, hr, hk⟩ := r.inv; exact ⟨_, _, e, ha, e' ▸ .dctt hr hk⟩

theorem dv_int {F : Led} {h : Heap} (H : Stands prog w G h) {a : Addr} {kvs : List (Int × Value)} {ps : List PV} {k : PV} {r : Option PV} {u' : Value} (ha : (a, FO.dcti kvs) ∈ G) (hr : VReps F (kvs.map (·.2)) ps) (r2 : VRep G u' k) (e : dget (.dcti (kvs.map (·.1)) ps) k = some r) :
    ∃ o, DV prog w h a u' o ∧ ORep F o r := by
  have e : (match keyI k with | some i => some (look (kvs.map (·.1)) ps i) | none => if (kvs.map (·.1)).isEmpty && isKey k then some none else none) = some r := e
  cases hi : keyI k with
  | some i =>
    rw [hi] at e
    obtain ⟨t, h1⟩ := keyI_val hi r2
    rw [h1, ← Option.some.inj e]
    exact ⟨_, .val (intKind prog w) (dictI_of (H _ ha)).mapOf (int_is _ _ _ _), look_of hr _⟩
  | none =>
    rw [hi] at e
    obtain ⟨hk, e⟩ := ite_some e
    rw [← Option.some.inj e]
    obtain ⟨h1, hk⟩ := Bool.and_eq_true_iff.mp hk
    have h1 : kvs = [] := List.map_eq_nil_iff.mp (List.isEmpty_iff.mp h1)
    rw [h1] at ha
    unfold isKey at hk
    rw [hi] at hk
    rcases Bool.or_eq_true_iff.mp hk with hk | hk
    · obtain ⟨x, hx⟩ := Option.isSome_iff_exists.mp (show (keyS k).isSome = true from hk)
      obtain ⟨t, h2⟩ := keyS_val hx r2
      rw [h2]
      exact ⟨none, .val (strKind prog w) (f := valueAt []) (k := x) (dictS_of (prog' := prog) (empty_str (H _ ha))).mapOf (strKind_is _ _ _ _), .none⟩
    · obtain ⟨l, hl⟩ := Option.isSome_iff_exists.mp hk
      obtain ⟨a', vs, h2, h3, h4⟩ := keyT_val hl r2
      rw [h2]
      exact ⟨none, .tup (xs := []) (k := l) (dictH_of H (fun x hx => nomatch hx) (empty_tup (H _ ha))) (tupleKey_of H h3 h4), .none⟩
theorem dv_of' {F : Led} {h : Heap} (H : Stands prog w G h) (hs : ∀ p ∈ F, p ∈ G) {a : Addr} {fo : FO} {mo : MO} {k : PV} {r : Option PV} {u' : Value} (ha : (a, fo) ∈ G) (hr : FORep F fo mo) (r2 : VRep G u' k) (e : dget mo.pv k = some r) :
    ∃ o, DV prog w h a u' o ∧ ORep F o r := by
  cases hr with
  | lst hr => cases e
  | dcti hr => exact dv_int H ha hr r2 e
  | dcts hr =>
    obtain ⟨x, hx, e⟩ := Option.map_eq_some_iff.mp e
    obtain ⟨t, h1⟩ := keyS_val hx r2
    rw [h1, ← e]
    exact ⟨_, .val (strKind prog w) (dictS_of (prog' := prog) (H _ ha)).mapOf (strKind_is _ _ _ _), look_of hr _⟩
  | dctt hr hk =>
    obtain ⟨x, hx, e⟩ := Option.map_eq_some_iff.mp e
    obtain ⟨a', vs, h1, h2, h3⟩ := keyT_val hx r2
    rw [h1, ← e]
    exact ⟨_, .tup (dictH_of H (hk.mono hs) (H _ ha)) (tupleKey_of H h2 h3), lookH_of hr _⟩

theorem dget_obj {p k : PV} {r : Option PV} (e : dget p k = some r) : ∃ mo : MO, p = mo.pv := by
  cases p with
  | dcti a b => exact ⟨.dcti a b, rfl⟩
  | dcts a b => exact ⟨.dcts a b, rfl⟩
  | dctt a b => exact ⟨.dctt a b, rfl⟩
  | _ => cases e

theorem dv_of {h : Heap} (H : Stands prog w G h) {p k : PV} {r : Option PV} {u u' : Value} (r1 : VRep G u p) (r2 : VRep G u' k) (e : dget p k = some r) :
    ∃ d o, u = .ref d ∧ (∃ fo, (d, fo) ∈ G) ∧ DV prog w h d u' o ∧ ORep G o r := by
  obtain ⟨mo, rfl⟩ := dget_obj e
  obtain ⟨a, fo, rfl, ha, hr⟩ := r1.obj
  obtain ⟨o, h1, h2⟩ := dv_of' H (fun _ h => h) ha hr r2 e
  exact ⟨a, o, rfl, ⟨_, ha⟩, h1, h2⟩

/-- read and done: the heap is as it was -/
noncomputable abbrev Reads' (s : Shared) (v : Value) : Value → Shared → Prop := fun b s' => b = v ∧ ∃ t, s' = { s with toks := t }

section
variable {A : Around} {E : Value → Shared → Prop} {s : Shared}
theorem DV.in {d : Addr} {key : Value} {o : Option Value} (hu : A.units + 2 < cLine) (hd : (d == sysModules) = false) (h : DV prog w s.heap d key o) : wpAny (model prog w) A (compareOp .In key (.ref d)) (Reads' s (.bool o.isSome)) E s := by
  cases h with
  | val knd hm hk => exact wpAny_in_of hk hd hm ⟨rfl, _, rfl⟩
  | tup hm hk => exact wpAny_in_heap (knd := tupleKind (intKind prog w)) (show A.units + 1 < cLine by omega) hk hd hm ⟨by rw [Option.isSome_map], _, rfl⟩
theorem DV.notIn {d : Addr} {key : Value} {o : Option Value} (hu : A.units + 2 < cLine) (hd : (d == sysModules) = false) (h : DV prog w s.heap d key o) : wpAny (model prog w) A (compareOp .NotIn key (.ref d)) (Reads' s (.bool (!o.isSome))) E s := by
  cases h with
  | val knd hm hk => exact wpAny_notIn_of hk hd hm ⟨rfl, _, rfl⟩
  | tup hm hk => exact wpAny_notIn_heap (knd := tupleKind (intKind prog w)) (show A.units + 1 < cLine by omega) hk hd hm ⟨by rw [Option.isSome_map], _, rfl⟩
theorem DV.item {d : Addr} {key v : Value} (hu : A.units + 2 < cLine) (h : DV prog w s.heap d key (some v)) : wpAny (model prog w) A (getItem (.ref d) key) (Reads' s v) E s := by
  generalize ho : some v = o at h
  cases h with
  | val knd hm hk => exact wpAny_getItem_of hk hm ho.symm ⟨rfl, _, rfl⟩
  | tup hm hk =>
    obtain ⟨p, hp, rfl⟩ := Option.map_eq_some_iff.mp ho.symm
    exact wpAny_getItem_heap (knd := tupleKind (intKind prog w)) (show A.units + 1 < cLine by omega) hk hm hp ⟨rfl, _, rfl⟩
theorem DV.typeIs {d : Addr} {key : Value} {o : Option Value} (h : DV prog w s.heap d key o) : s.TypeIs (.ref d) "dict" := by
  cases h with
  | val knd hm hk => exact hm.typeIs
  | tup hm hk => exact hm.typeIs
end

theorem strs_of {l : List PV} : ∀ {ss : List Str} {vs : List Value}, strsOf l = some ss → VReps G vs l → StrsAre vs ss := by
  induction l with
  | nil => intro ss vs h r; cases r; cases h; exact .nil
  | cons p l ih =>
    intro ss vs h r
    cases r with
    | cons r t =>
      cases p with
      | str x =>
        obtain ⟨t', e⟩ := r.toStr
        obtain ⟨l', hl, h⟩ := Option.map_eq_some_iff.mp h
        rw [e, ← h]
        exact .cons _ _ (ih hl t)
      | _ => cases h

section
variable {A : Around} {s : Shared} {p q : PV} {b : Bool} {u u' : Value}
theorem cmp2_ok {f : Int → Int → Option Bool} (h : int2 f p q = some b) (r1 : VRep G u p) (r2 : VRep G u' q) {t : Sem Value}
    (k : ∀ x y ta tb, u = .int x ta → u' = .int y tb → f x y = some b → wpAny (model prog w) A t (Reads' s (.bool b)) No s) : wpAny (model prog w) A t (Reads' s (.bool b)) No s := by
  obtain ⟨x, h1, h⟩ := ob h
  obtain ⟨y, h2, h⟩ := ob h
  obtain ⟨ta, e1⟩ := keyI_val h1 r1
  obtain ⟨tb, e2⟩ := keyI_val h2 r2
  exact k x y ta tb e1 e2 h
theorem neL_ok (H : Stands prog w G s.heap) (hm : ∀ p ∈ G, p.1 ≠ sysModules) (hu : A.units + 30 < cLine) {x y : List PV} (r1 : VSeq G .lst u x) (r2 : VSeq G .lst u' y) (e : eqD (.lst x) (.lst y) = some b) :
    wpAny (model prog w) A (compareOp .NotEq u u') (Reads' s (.bool (!b))) No s := by
  obtain ⟨h1, a1, b1⟩ := r1
  obtain ⟨h2, a2, b2⟩ := r2
  rw [h1, h2]
  cases eqF_inv (show eqF (eqv 11) _ _ = _ from e) with
  | lst hl e' =>
    have hL := eqL_of (A := A.in1) (s := s) (fun h1 h2 h3 => at_of H h1 h2 h3 (eqv_rc H hm 11 (by simp only [Around.in1_units]; omega) h1 h2 h3)) b1 b2 e'
    rw [← b1.length, ← b2.length] at hl
    have := RcNeAt.lists (e := fun _ => true) (isList_of H a1) (isList_of H a2) (by simpa using hl) (by omega) (fun j h1 h2 => hL.at j _ _ (by simp) (by simp))
    rw [List.all_eq_true.mpr fun _ _ => rfl] at this
    exact this prog w _ _ ⟨rfl, _, rfl⟩
  | lens hl =>
    rw [← b1.length, ← b2.length] at hl
    exact RcNeAt.lists_lengths (isList_of H a1) (isList_of H a2) (by simpa using hl) (by omega) prog w _ _ ⟨rfl, _, rfl⟩
theorem isNoneV_eq {p : PV} (h : isNoneV p = true) : p = .none := by
  cases p with
  | none => rfl
  | _ => cases h
theorem ne_ok (H : Stands prog w G s.heap) (hm : ∀ p ∈ G, p.1 ≠ sysModules) (hu : A.units + 30 < cLine) (r1 : VRep G u p) (r2 : VRep G u' q) (e : neV p q = some b) :
    wpAny (model prog w) A (compareOp .NotEq u u') (Reads' s (.bool b)) No s := by
  cases p with
  | none =>
    obtain ⟨hq, e⟩ := ite_some (show (if isNoneV q = true then some false else none) = some b from e)
    rw [isNoneV_eq hq] at r2
    rw [show u = .none from r1.inv, show u' = .none from r2.inv, ← Option.some.inj e]
    exact PySem.EqNone.ne_none_none ⟨rfl, _, rfl⟩
  | bool x =>
    cases q with
    | bool y =>
      rw [show u = .bool x from r1.inv, show u' = .bool y from r2.inv, ← Option.some.inj e]
      exact PyProof.Rows.ne_bool ⟨rfl, _, rfl⟩
    | _ => cases e
  | int x =>
    obtain ⟨y, h, e⟩ := Option.map_eq_some_iff.mp e
    obtain ⟨t, h1⟩ := r1.toInt
    obtain ⟨t', h2⟩ := keyI_val h r2
    rw [h1, h2, ← e]
    exact P.ne_int ⟨rfl, _, rfl⟩
  | str x =>
    obtain ⟨y, h, e⟩ := Option.map_eq_some_iff.mp e
    obtain ⟨t, h1⟩ := r1.toStr
    obtain ⟨t', h2⟩ := keyS_val h r2
    rw [h1, h2, ← e]
    exact PyProof.Rows.ne_str ⟨rfl, _, rfl⟩
  | lst x =>
    obtain ⟨y, h, e⟩ := ob e
    obtain ⟨d, hd, e⟩ := Option.map_eq_some_iff.mp e
    rw [lstP_eq h] at r2
    rw [← e]
    exact neL_ok H hm hu r1.toLst r2.toLst hd
  | _ => cases e
theorem none_is (r1 : VRep G u p) : PySem.plainIs u Value.none = true ∧ (u == Value.none) = isNoneV p := by cases r1 <;> exact ⟨rfl, rfl⟩
theorem in_tup (H : Stands prog w G s.heap) {l : List PV} (r1 : VRep G u p) (r2 : VSeq G .tup u' l) (e : memv l p = some b) :
    wpAny (model prog w) A (compareOp .In u u') (Reads' s (.bool b)) No s := by
  cases p with
  | str x =>
    obtain ⟨h2, a2, b2⟩ := r2
    obtain ⟨t, h1⟩ := r1.toStr
    obtain ⟨ss, hs, e⟩ := Option.map_eq_some_iff.mp e
    obtain ⟨n, hn⟩ := isTuple_of H a2
    rw [h1, h2, ← e]
    refine in_tupleAt (isStrOf x) ⟨_, hn, rfl, n, rfl⟩ (fun y hy => (eq_isStrOf x t (strs_of hs b2) y (by simpa using hy)).at _ _) ⟨?_, _, rfl⟩
    rw [← Array.any_toList, show ∀ (l : List Value), l.toArray.toList = l from fun _ => rfl, any_isStrOf x (strs_of hs b2)]
  | _ => cases e
theorem orep_some {o : Option Value} {r : Option PV} (h : ORep G o r) : r.isSome = o.isSome ∧ r.isNone = !o.isSome := by cases h <;> exact ⟨rfl, rfl⟩
theorem cmp_ok (H : Stands prog w G s.heap) (hm : ∀ p ∈ G, p.1 ≠ sysModules) (hu : A.units + 30 < cLine) {op : CmpOp} (r1 : VRep G u p) (r2 : VRep G u' q) (e : cmp op p q = some b) :
    wpAny (model prog w) A (compareOp op u u') (Reads' s (.bool b)) No s := by
  cases op with
  | Eq => exact eqv_rc H hm 12 (by omega) r1 r2 e prog w _ _ ⟨rfl, _, rfl⟩
  | NotEq => exact ne_ok H hm hu r1 r2 e
  | Lt =>
    refine cmp2_ok e r1 r2 fun x y ta tb h1 h2 h => ?_
    rw [h1, h2, ← Option.some.inj h]; exact P.lt_int ⟨rfl, _, rfl⟩
  | Gt =>
    refine cmp2_ok e r1 r2 fun x y ta tb h1 h2 h => ?_
    rw [h1, h2, ← Option.some.inj h]; exact P.gt_int ⟨rfl, _, rfl⟩
  | GtE =>
    refine cmp2_ok e r1 r2 fun x y ta tb h1 h2 h => ?_
    rw [h1, h2, ← Option.some.inj h]; exact P.ge_int ⟨rfl, _, rfl⟩
  | Is =>
    obtain ⟨hq, e⟩ := ite_some (show (if isNoneV q = true then some (isNoneV p) else none) = some b from e)
    rw [isNoneV_eq hq] at r2
    rw [show u' = .none from r2.inv, ← Option.some.inj e]
    exact wpAny_is_plain (none_is r1).1 ⟨by rw [(none_is r1).2], _, rfl⟩
  | IsNot =>
    obtain ⟨hq, e⟩ := ite_some (show (if isNoneV q = true then some (!isNoneV p) else none) = some b from e)
    rw [isNoneV_eq hq] at r2
    rw [show u' = .none from r2.inv, ← Option.some.inj e]
    exact wpAny_isNot_plain (none_is r1).1 ⟨by rw [(none_is r1).2], _, rfl⟩
  | In =>
    have e : (match tupP q with | some l => memv l p | none => (dget q p).map (·.isSome)) = some b := e
    cases ht : tupP q with
    | some l =>
      rw [ht] at e
      rw [tupP_eq ht] at r2
      exact in_tup H r1 r2.toTup e
    | none =>
      rw [ht] at e
      obtain ⟨r, hr, e⟩ := Option.map_eq_some_iff.mp e
      obtain ⟨d, o, h1, ⟨fo, hfo⟩, hv, ho⟩ := dv_of H r2 r1 hr
      rw [h1, ← e, (orep_some ho).1]
      exact hv.in (by omega) (beq_false_of_ne (hm _ hfo))
  | NotIn =>
    obtain ⟨r, hr, e⟩ := Option.map_eq_some_iff.mp e
    obtain ⟨d, o, h1, ⟨fo, hfo⟩, hv, ho⟩ := dv_of H r2 r1 hr
    rw [h1, ← e, (orep_some ho).2]
    exact hv.notIn (by omega) (beq_false_of_ne (hm _ hfo))
  | _ => cases e
end
end
end Mine
namespace Mine
open PySem PyProof.Rows PySem.W PySem.SeqAt

/-- what the text's top holds -/
structure TopP where
  mg : Str → Option Value
  mb : Str → Option Value
  FD : Str → Option FnDef
  cls : Addr

/-- a def's function object -/
structure FnAt (mg : Str → Option Value) (base : Heap) (g : Str) (d : FnDef) (a : Addr) (fd : FuncData) : Prop where
  name : mg g = some (.ref a)
  obj : ∃ o, base.get? a = some o ∧ o.data = .func fd
  scope : fd.scope = d.scope
  body : fd.body = .stmts d.body
  closure : fd.closure = []
  gl : fd.globals = mainGlobals
  bl : fd.builtins = builtinsNs
  code : base.CodeRec fd.code fd.qualname
  co : d.scope.isCoroutine = false
  gen : d.scope.isGenerator = false
  kind : d.scope.kind = .function
  binds : ∀ (s : Shared) (vals us : List Value), (∀ b o, base.get? b = some o → s.heap.get? b = some o) → ((d.params.args.length = vals.length ∧ us = vals) ∨ (d.params.args.length = vals.length + 1 ∧ (∃ k p q, d.params.defaults = [.Constant .none p q] ∧ k = (0 : Nat)) ∧ us = vals ++ [.none])) →
    BindsTo s fd ⟨vals, []⟩ ((Ev.argNames d.params).zip us)
  names : (d.scope.names.map (·.1)).Nodup
  args : (Ev.argNames d.params).Nodup ∧ ∀ x ∈ Ev.argNames d.params, d.scope.names.lookup x = some .local ∨ d.scope.names.lookup x = some .cell

theorem FnAt.keeps {mg : Str → Option Value} {h h' : Heap} {g : Str} {d : FnDef} {a : Addr} {fd : FuncData} (F : FnAt mg h g d a fd) (k : ∀ b o, h.get? b = some o → h'.get? b = some o) : FnAt mg h' g d a fd :=
  { F with obj := let ⟨o, h1, h2⟩ := F.obj; ⟨o, k _ _ h1, h2⟩, code := F.code.keeps k, binds := fun s vals us hk => F.binds s vals us fun b o e => hk b o (k b o e) }

noncomputable abbrev bmE : List Value := [.type "Exception", .type "BaseException", .type "object"]

/-- the shape of an exception class of the text, one own class above it -/
structure LfD where
  nm : Str
  q : Str
  N : Addr
  bs : List Value
  A : Addr
  sn : List Str
  sub : List Value
  ab : Bool
  col : Option Bool
  dd : Option Addr
  k0 : Option Value
  k1 : Option Value
  k2 : Option Value
  k3 : Option Value
  k5 : Option Value
  mN : Str → Option Value
  c0 : Value
  dd' : Option Addr
  cd : ClassData
  sl : Array (Option Value)
  mA : Str → Option Value
  fI : Addr
  fd : FuncData
  d : FnDef
  ps : Pos × Pos × Pos × Pos

structure LfCls (h : Heap) (C : Addr) (D : LfD) : Prop where
  cls : h.get? C = some (excClassObj D.nm D.q C D.N D.bs (.ref D.A :: bmE) true D.sn D.sub D.ab D.col D.dd D.k0 D.k1 D.k2 D.k3 D.k5 "Exception.__new__")
  ns : h.Ns D.N D.mN
  init : D.mN "__init__" = some (.ref D.fI)
  sa : D.mN "__setattr__" = none
  what : D.mN "what" = none
  par : h.get? D.A = some { cls := D.c0, dict := D.dd', data := .cls D.cd, slots := D.sl }
  pns : h.Ns D.cd.ns D.mA
  pinit : D.mA "__init__" = none
  psa : D.mA "__setattr__" = none
  pwhat : D.mA "what" = none
  fn : FnAt (fun _ => some (.ref D.fI)) h "__init__" D.d D.fI D.fd
  fcls : ∃ o, h.get? D.fI = some o ∧ o.cls = .type "function"
  body : D.d.body = [.Assign [.Attribute (.Name "self" D.ps.1) "what" D.ps.2.1] (.Name "what" D.ps.2.2.1) D.ps.2.2.2]
  pars : Ev.argNames D.d.params = [("self" : Str), ("what" : Str)]
  len : D.d.params.args.length = 2
  self : D.d.scope.names.lookup ("self" : Str) = some NameKind.local
  whatl : D.d.scope.names.lookup ("what" : Str) = some NameKind.local

theorem LfCls.keeps {h h' : Heap} {C : Addr} {D : LfD} (X : LfCls h C D) (k : ∀ b o, h.get? b = some o → h'.get? b = some o) : LfCls h' C D :=
  { X with cls := k _ _ X.cls, ns := X.ns.keeps k, par := k _ _ X.par, pns := X.pns.keeps k, fn := X.fn.keeps k, fcls := let ⟨o, h1, h2⟩ := X.fcls; ⟨o, k _ _ h1, h2⟩ }

structure Tops (tp : TopP) (base : Heap) : Prop where
  g : base.Ns mainGlobals tp.mg
  b : base.Ns builtinsNs tp.mb
  nolimit : base.NoLimit
  bt : ∀ x ∈ (["len", "list", "tuple", "str", "abs", "int", "bool", "dict", "range", "reversed", "isinstance"] : List Str), tp.mg x = none ∧ tp.mb x = bootBuiltins x
  con : ∀ x p, gconst x = some p → ∃ i t, tp.mg x = some (.int i t) ∧ p = .int i
  fn : ∀ g d, tp.FD g = some d → ∃ a fd, FnAt tp.mg base g d a fd
  lfn : tp.mg "LinkFault" = some (.ref tp.cls)
  lf : ∃ D, LfCls base tp.cls D

theorem Tops.keeps {tp : TopP} {h h' : Heap} (T : Tops tp h) (k : ∀ b o, h.get? b = some o → h'.get? b = some o) : Tops tp h' := ⟨T.g.keeps k, T.b.keeps k, T.nolimit.keeps k, T.bt, T.con, fun g d e => let ⟨a, fd, F⟩ := T.fn g d e; ⟨a, fd, F.keeps k⟩, T.lfn, let ⟨D, X⟩ := T.lf; ⟨D, X.keeps k⟩⟩

/-- slots do not matter -/
structure Stab (P : Obj → Prop) : Prop where
  up : ∀ o sl, P o → P { o with slots := sl }
  nf : ∀ o vs, P o → o.data ≠ .fields vs

noncomputable def NsP (m : Str → Option Value) (o : Obj) : Prop := ∃ es ep, o.data = .dict es ep ∧ StrKeys es ∧ ∀ name, nsFind es name = m name
theorem NsP.stab (m : Str → Option Value) : Stab (NsP m) := ⟨fun _ _ h => h, fun o vs ⟨es, ep, h, _⟩ e => by rw [h] at e; cases e⟩
theorem CellP.stab (v : Option Value) : Stab (CellP v) := ⟨fun _ _ h => h, fun o vs h e => by rw [show o.data = _ from h] at e; cases e⟩
noncomputable def upto (oo : Option Obj) (o' : Obj) : Prop := ∃ o sl, oo = some o ∧ o' = { o with slots := sl }

noncomputable def XC.frs (x : XC) : List Env := x.fenv :: x.outer
noncomputable def XC.ls (x : XC) : List Addr := x.frs.filterMap (·.frame)

noncomputable def Arr (c : Cx) (e : Value) (s' : Shared) : Prop :=
  s'.gens = #[] ∧ s'.os = c.os ∧ (∀ p ∈ c.x.Fp, ∃ o, s'.heap.get? p.1 = some o ∧ p.2 o) ∧ ∃ a, e = .ref a ∧
    ((∃ oe vs a0, s'.heap.get? a = some oe ∧ oe.cls = c.x.cls ∧ oe.data = .fields vs ∧ vs[1]? = some .none ∧ vs[0]? = some a0 ∧ c.x.B.get? a = none ∧ c.x.B.StaysIn s'.heap ∧ s'.heap.FunFrames c.x.B c.x.frs) ∨
     (∃ a0, Heap.FlyingW c.x.B c.x.frs a c.x.cls a0 s'.heap) ∨ ∃ a0 L, c.x.fenv.frame = some L ∧ Heap.HeldW c.x.B c.x.frs a c.x.cls a0 L s'.heap)

/-- a frame of the text -/
structure Good (tp : TopP) (c : Cx) (n : Nat) : Prop where
  tops : Tops tp c.base
  kind : ∀ x, c.env.kindOf x = c.sc.names.lookup x ∨ (c.sc.names.lookup x = some .free ∧ c.env.kindOf x = some .cell)
  fnk : c.env.scope.kind = .function
  gl : c.env.globals = mainGlobals
  bl : c.env.builtins = builtinsNs
  units : c.A.units + 4 * n + 200 < cLine
  depth : c.A.depth + n < recursionLimit
  handled : c.A.handled = none
  frames : c.A.frames = some c.x.frs
  same : c.env.frame = c.x.fenv.frame
  frk : ∀ e ∈ c.x.frs, e.scope.kind ≠ .module ∧ ∃ L, e.frame = some L ∧ (L = c.env.locals ∨ ∃ P, (L, P) ∈ c.X ∧ Stab P)
  frn : c.x.ls.Nodup
  fps : ∀ p ∈ c.x.Fp, Stab p.2
  fpk : ∀ p ∈ c.x.Fp, (∃ P, (p.1, P) ∈ c.X ∧ ∀ o, P o → p.2 o) ∨ (p.1 = c.env.locals ∧ ∀ m o, NsP m o → p.2 o) ∨ (p.1 ∈ c.cl.map (·.2) ∧ ∀ v o, CellP v o → p.2 o) ∨ ∃ o, c.base.get? p.1 = some o ∧ p.2 o
  bst : c.x.B.StaysIn c.base
  cells : ∀ x, c.sc.names.lookup x = some .cell → ∃ a, c.env.cells.lookup x = some a ∧ a ∈ c.cl.map (·.2) ∧ ∀ y, y ≠ x → c.env.cells.lookup y ≠ some a
  hE : c.E = Arr c
  pinned : c.la ≠ none → c.sc.isCoroutine = true
  tr : c.sc.isCoroutine = false → ∀ p ∈ c.X, Stab p.2
  xcls : c.x.cls = .ref tp.cls

noncomputable def Wd.G (W : Wd) : Led := W.O ++ W.F

section
variable {tp : TopP} {c : Cx} {m : Str → Option Value} {cv : Addr → Option Value} {lo : Lo} {W : Wd} {s : Shared} {n : Nat}

theorem St.standsF (S : St c lo W m cv s) : Stands c.prog c.w W.F s.heap := S.inv.fix
theorem St.stands (S : St c lo W m cv s) : Stands c.prog c.w W.G s.heap := fun p hp => by
  rcases List.mem_append.mp hp with h | h
  · exact S.inv.own p h
  · exact S.inv.fix p h
theorem St.gmods (S : St c lo W m cv s) : ∀ p ∈ W.G, p.1 ≠ sysModules := fun p hp => by
  rcases List.mem_append.mp hp with h | h
  · exact fun e => S.inv.sys (e ▸ S.inv.new _ (own_mem (a := p.1) (fo := p.2) h))
  · exact S.inv.mods p h
theorem Wd.subF (W : Wd) : ∀ p ∈ W.F, p ∈ W.G := fun _ h => List.mem_append_right _ h
theorem Wd.subO (W : Wd) : ∀ p ∈ W.O, p ∈ W.G := fun _ h => List.mem_append_left _ h

/-- read where it stands -/
inductive RdV (W : Wd) (u : Value) : PV → Prop
  | pv {p} : VRep W.F u p → RdV W u p
  | own {a fo} {mo : MO} : (a, fo) ∈ W.O → FORep W.F fo mo → u = .ref a → RdV W u mo.pv
theorem RdV.g {u : Value} {p : PV} (r : RdV W u p) : VRep W.G u p := by
  cases r with
  | pv r => exact r.mono W.subF
  | own h1 h2 e => subst e; exact (h2.mono W.subF).vrep (W.subO _ h1)
noncomputable def MO.of : PV → Option MO
  | .lst l => some (.lst l)
  | .dcti k v => some (.dcti k v)
  | .dcts k v => some (.dcts k v)
  | .dctt k v => some (.dctt k v)
  | _ => none
theorem MO.of_pv (mo : MO) : MO.of mo.pv = some mo := by cases mo <;> rfl
theorem MO.pv_inj {mo mo' : MO} (h : mo.pv = mo'.pv) : mo = mo' := Option.some.inj ((MO.of_pv mo).symm.trans ((congrArg MO.of h).trans (MO.of_pv mo')))
theorem RdV.obj' {u : Value} {p : PV} (r : RdV W u p) : ∀ {mo : MO}, p = mo.pv → ∃ a fo, u = .ref a ∧ (a, fo) ∈ W.G ∧ FORep W.F fo mo := by
  cases r with
  | pv r =>
    intro mo hp
    rw [hp] at r
    obtain ⟨a, fo, e, h1, h2⟩ := r.obj
    exact ⟨a, fo, e, W.subF _ h1, h2⟩
  | own h1 h2 e => exact fun hp => ⟨_, _, e, W.subO _ h1, MO.pv_inj hp ▸ h2⟩
theorem RdV.obj {u : Value} {mo : MO} (r : RdV W u mo.pv) : ∃ a fo, u = .ref a ∧ (a, fo) ∈ W.G ∧ FORep W.F fo mo := r.obj' rfl
theorem RdV.val {u : Value} {p : PV} (r : RdV W u p) (h : MO.of p = none) : VRep W.F u p := by
  cases r with
  | pv r => exact r
  | own h1 h2 e => rw [MO.of_pv] at h; cases h

/-! ### names -/
theorem isLocal_kind (Go : Good tp c n) {x : Str} (h : isLocal c.sc x = true) : c.env.kindOf x = some .local := by
  unfold isLocal at h
  rw [Bool.and_eq_true, Bool.and_eq_true] at h
  have h := beq_iff_eq.mp h.1.1
  rcases Go.kind x with e | ⟨e, _⟩
  · rw [e, h]
  · rw [h] at e; cases e
theorem isLocal_ne {sc : Scope} {x : Str} (h : isLocal sc x = true) : (x == ("__debug__" : Str)) = false ∧ x ≠ "__classdict__" := by
  unfold isLocal at h
  rw [Bool.and_eq_true, Bool.and_eq_true] at h
  refine ⟨by simpa using h.1.2, by simpa using h.2⟩
theorem isGlob_kind (Go : Good tp c n) {x : Str} (h : isGlob c.sc x = true) : c.env.kindOf x = some .globalImplicit := by
  have h := beq_iff_eq.mp h
  rcases Go.kind x with e | ⟨e, _⟩
  · rw [e, h]
  · rw [h] at e; cases e
theorem load_held (Go : Good tp c n) (S : St c lo W m cv s) {x : Str} {u : Value} (h : Held c m cv x u) (hc : x ≠ "__classdict__") {Q : Value → Shared → Prop} {E : Value → Shared → Prop} (hQ : Q u s) : wpAny c.M c.A (loadName c.env x) Q E s := by
  rcases h with ⟨k, e⟩ | ⟨k, a, ha, e⟩
  · exact wpAny_loadName_local Go.fnk k S.inv.ns e hQ
  · have hcell : s.heap.IsCell a (some u) := by
      rcases e with ⟨i, e⟩ | e
      · obtain ⟨p, hp, rfl⟩ := List.mem_map.mp i
        have := S.inv.cells p hp
        rwa [e] at this
      · obtain ⟨o, h1, h2⟩ := S.inv.ext _ e
        exact ⟨o, h1, h2⟩
    rcases k with k | k
    · exact wpAny_loadName_cell Go.fnk k ha hcell hQ
    · exact wpAny_loadName_free Go.fnk k ha hcell hQ (beq_false_of_ne hc)

theorem loadName_glob (Go : Good tp c n) {x : Str} (h : isGlob c.sc x = true) {Q : Value → Shared → Prop} {E : Value → Shared → Prop} (hQ : wpAny c.M c.A (loadGlobal c.env x) Q E s) : wpAny c.M c.A (loadName c.env x) Q E s := by
  unfold loadName
  simp only [Env.blockKind, Go.fnk, isGlob_kind Go h, ScopeKind.isAnnotationScope, Bool.false_and, Bool.false_eq_true, if_false]
  exact hQ

/-- a value, by what it holds -/
theorem loadN_ok (Go : Good tp c n) (S : St c lo W m cv s) (x : Str) : At c m cv W.F (nameR c.sc x lo) (Mine.Go c (loadName c.env x)) s RelP := by
  intro hne
  unfold nameR at hne ⊢
  by_cases hbad : x = "__debug__" ∨ x = "__classdict__"
  · rw [if_pos hbad] at hne; exact (hne rfl).elim
  rw [if_neg hbad] at hne ⊢
  by_cases hv : isVar c.sc x = true
  · rw [if_pos hv] at hne ⊢
    unfold varR at hne ⊢
    cases e : getLo lo x with
    | none => simp only [e] at hne; exact (hne trivial).elim
    | some v =>
      obtain ⟨u, hu, r⟩ := S.inv.los x v e
      cases r with
      | pv r =>
        refine load_held Go S hu (fun q => hbad (.inr q)) ?_
        simp only [e]
        exact ⟨W, Sub.refl _, S, r⟩
      | own h1 h2 =>
        refine load_held Go S hu (fun q => hbad (.inr q)) ?_
        obtain ⟨I, hv⟩ := S.inv.freeze e hu h1 h2
        simp only [e]
        exact ⟨⟨_ :: W.F, cut W.O _⟩, fun p hp => List.mem_cons_of_mem _ hp, ⟨S.gens, S.os, I⟩, hv⟩
  · rw [if_neg hv] at hne ⊢
    by_cases hg : isGlob c.sc x = true
    · rw [if_pos hg] at hne ⊢
      refine At.lift (fun p e => ?_) hne
      obtain ⟨i, t, h1, rfl⟩ := Go.tops.con x p e
      refine loadName_glob Go hg (Calls.loadGlobal_global (mg := tp.mg) ?_ h1 ?_)
      · rw [Go.gl]; exact Go.tops.g.keeps S.inv.keep
      · exact ⟨W, Sub.refl _, S, .int _ _⟩
    · rw [if_neg hg] at hne; exact (hne rfl).elim

theorem nameR_debug {sc : Scope} {x : Str} {lo : Lo} (h : nameR sc x lo = .fail → False) : (x == ("__debug__" : Str)) = false := by
  unfold nameR at h
  split at h
  · exact (h rfl).elim
  · rename_i hn; exact beq_false_of_ne fun e => hn (.inl e)

theorem name_ok (Go : Good tp c n) (S : St c lo W m cv s) (x : Str) (px : Pos) : At c m cv W.F (nameR c.sc x lo) (Mine.Go c (eval (.Name x px) c.env)) s RelP := fun hne =>
  wpAny_Name (loadN_ok Go S x hne) (nameR_debug hne)

theorem lift_ok {α β : Type} {x : R α} {f : α → R β} {lo : Lo} (h : x.bind f lo = .fail → False) : x lo = .fail → False := fun e => h (by unfold R.bind; rw [e])

theorem At.ofP {x : R PV} {t : Sem Value} {F0 : Led} (h : At c m cv F0 (x lo) (Mine.Go c t) s RelP) : At c m cv F0 ((x.bind fun p => R.ret (.pv p)) lo) (Mine.Go c t) s (RelL c) := by
  intro hne
  unfold R.bind at hne ⊢
  cases hr : x lo with
  | ok a lo' =>
    rw [hr] at h hne
    refine wpAny_mono (h (fun e => by cases e)) (fun b s' q => ?_) fun _ _ e => e.elim
    obtain ⟨W', hs, S, r⟩ := q
    exact ⟨W', hs, S, .pv r⟩
  | exc =>
    rw [hr] at h
    exact wpAny_mono (h (fun e => by cases e)) (fun b s' q => q.elim) fun _ _ e => e
  | fail => rw [hr] at hne; exact (hne rfl).elim

theorem const_ok (S : St c lo W m cv s) (k : Const) (kk : Nat) (p : Pos) : At c m cv W.F (R.lift ((constPV k).map .pv) lo) (Mine.Go c (eval (.Constant k kk p) c.env)) s (RelL c) := by
  refine At.lift fun a e => ?_
  obtain ⟨p, e, e'⟩ := Option.map_eq_some_iff.mp e
  rw [← e']
  cases k with
  | none => rw [← Option.some.inj e]; exact wpAny_Constant_none (Post.pvh S (Sub.refl _) .none)
  | bool b => rw [← Option.some.inj e]; exact wpAny_Constant_bool (Post.pvh S (Sub.refl _) (.bool _))
  | int i => rw [← Option.some.inj e]; exact wpAny_Constant_int (Post.pv S (Sub.refl _) (.int _ _) _)
  | str x => rw [← Option.some.inj e]; exact wpAny_Constant_str (Post.pv S (Sub.refl _) (.str _ _) _)
  | _ => cases e
end
end Mine
namespace Mine
open PySem PyProof.Rows PySem.W PySem.SeqAt

/-- what a tree of a statement ends with -/
inductive RelF (W : Wd) : Fl → Flow → Prop
  | next : RelF W .next .next
  | brk : RelF W .brk .brk
  | cont : RelF W .cont .cont
  | ret {u v} : LRep W u v → RelF W (.ret v) (.ret u)
noncomputable def okS (c : Cx) (F0 : Led) : Res Fl → Flow → Shared → Prop
  | .ok fl lo' => fun f s' => ∃ W' m' cv', Sub F0 W'.F ∧ St c lo' W' m' cv' s' ∧ RelF W' fl f
  | _ => fun _ _ => False
noncomputable def AtS (c : Cx) (F0 : Led) (r : Res Fl) (G : (Flow → Shared → Prop) → (Value → Shared → Prop) → Shared → Prop) (s : Shared) : Prop :=
  (r = .fail → False) → G (okS c F0 r) (exE c r) s

structure SoundE (tp : TopP) (n : Nat) (r : Ev) : Prop where
  e : ∀ {c lo W m cv s}, Good tp c n → St c lo W m cv s → ∀ x, At c m cv W.F (r.e c.sc x lo) (Go c (eval x c.env)) s (RelL c)
  b : ∀ {c lo W m cv s}, Good tp c n → St c lo W m cv s → ∀ x, At c m cv W.F (r.b c.sc x lo) (Go c (isTrue x c.env (eval x c.env))) s RelB
  u : ∀ {c lo W m cv s}, Good tp c n → St c lo W m cv s → ∀ x y py, Ev.isComp x = true → AtS c W.F (((r.e c.sc x).bind fun v => (Ev.setVar c.sc y v).bind fun _ => R.ret Fl.next) lo)
    (fun Q E s => wpAny c.M c.A (evalThenUse x c.env (assign (.Name y py) c.env)) (fun _ s' => Q .next s') E s) s

section
variable {tp : TopP} {c : Cx} {m : Str → Option Value} {cv : Addr → Option Value} {lo : Lo} {W : Wd} {s : Shared} {n : Nat} {r : Ev}

theorem pvE_ok (H : SoundE tp n r) (Gd : Good tp c n) (S : St c lo W m cv s) (x : Expr) : At c m cv W.F (r.pvE c.sc x lo) (Go c (eval x c.env)) s RelP := (H.e Gd S x).toPV

theorem VRep.sub {F F' : Led} {u : Value} {p : PV} (h : VRep F u p) (hs : Sub F F') : VRep F' u p := h.mono hs
theorem RelR.sub {x : Rd} {W W' : Wd} {h h' : Heap} {u : Value} (a : RelR c m cv x W h u) (hs : Sub W.F W'.F) : RelR c m cv x W' h' u := by
  cases a with
  | pv r => exact .pv (r.mono hs)
  | var k => exact .var k

/-- an expression is served -/
noncomputable def EOk (c : Cx) (m : Str → Option Value) (cv : Addr → Option Value) (lo : Lo) (W : Wd) (s : Shared) (x : Expr) (v : R LV) : Prop := At c m cv W.F (v lo) (Go c (eval x c.env)) s (RelL c)
theorem EOk.bad {x : Expr} : EOk c m cv lo W s x .fail := fun h => (h rfl).elim
theorem rdE_ok (H : SoundE tp n r) (Gd : Good tp c n) (S : St c lo W m cv s) (x : Expr) : At c m cv W.F (r.rdE c.sc x lo) (Go c (eval x c.env)) s (RelR c m cv) := by
  have base : At c m cv W.F (((r.pvE c.sc x).bind fun p => R.ret (Rd.pv p)) lo) (Go c (eval x c.env)) s (RelR c m cv) :=
    (pvE_ok H Gd S x).post fun p lo' b s' W' S' hs h => At.pure S' hs (.pv h)
  refine xName_or (P := fun v : R Rd => At c m cv W.F (v lo) (Go c (eval x c.env)) s (RelR c m cv)) (fun y p hx => ite_or (P := fun v : R Rd => At c m cv W.F (v lo) (Go c (eval x c.env)) s (RelR c m cv)) (fun hl => ?_) fun _ => base) fun _ => base
  unfold Ev.rdOr
  cases e : getLo lo y with
  | none => exact base
  | some v =>
    cases v with
    | pv p => exact base
    | own mo =>
      intro _
      obtain ⟨u, hu, _⟩ := S.inv.los y _ e
      rw [hx]
      exact wpAny_Name (load_held Gd S hu (isLocal_ne hl).2 ⟨W, Sub.refl _, S, .var hu⟩) (isLocal_ne hl).1

theorem val_then {β γ : Type} {x : Rd} {u : Value} {F0 : Led} {h0 : Heap} {f : PV → R γ} {G : (β → Shared → Prop) → (Value → Shared → Prop) → Shared → Prop} {Rel : γ → Wd → Heap → β → Prop}
    (S : St c lo W m cv s) (hr : RelR c m cv x W h0 u) (k : ∀ p, RdV W u p → At c m cv F0 (f p lo) G s Rel) : At c m cv F0 ((Ev.val x).bind f lo) G s Rel := by
  cases hr with
  | pv r => exact k _ (.pv r)
  | var hu =>
    rename_i y
    intro hne
    unfold Ev.val R.bind at hne ⊢
    cases e : getLo lo y with
    | none => simp only [e] at hne; exact (hne trivial).elim
    | some v =>
      simp only [e] at hne ⊢
      obtain ⟨u', hu', r⟩ := S.inv.los y _ e
      have := S.inv.fn hu hu'
      subst this
      refine k _ ?_ hne
      cases r with
      | pv r => exact .pv r
      | own h1 h2 => exact .own h1 h2 rfl

/-- a reading step's result is a bool -/
theorem Post.bool {b : Bool} {v : Value} {s' : Shared} (S : St c lo W m cv s) (h : Reads' s (.bool b) v s') : Post c lo m cv W.F (RelL c (.pv (.bool b))) v s' := by
  obtain ⟨rfl, t, rfl⟩ := h
  exact Post.pv S (Sub.refl _) (.bool _) t

theorem BinOp_ok (H : SoundE tp n r) (Gd : Good tp c n) (S : St c lo W m cv s) (a : Expr) (op : Operator) (b : Expr) (p : Pos) :
    At c m cv W.F (((r.pvE c.sc a).bind fun x => (r.pvE c.sc b).bind fun y => R.lift (binop op x y)) lo) (Go c (eval (.BinOp a op b p) c.env)) s (RelL c) := by
  refine At.map ?_ fun Q E h => wpAny_BinOp h
  refine (pvE_ok H Gd S a).seq fun x lo₁ u s₁ W₁ S₁ h₁ r₁ => ?_
  refine (pvE_ok H Gd S₁ b).seq fun y lo₂ u' s₂ W₂ S₂ h₂ r₂ => ?_
  exact At.lift fun v e => wpAny_mono (binop_ok S₂ e (VRep.sub r₁ h₂) r₂) (fun _ _ q => q.sub (h₁.trans h₂)) fun _ _ e => e

theorem Compare_ok (H : SoundE tp n r) (Gd : Good tp c n) (S : St c lo W m cv s) (a : Expr) (op : CmpOp) (b : Expr) (p : Pos) (hb : behindInMarks op b = false) :
    At c m cv W.F (((r.rdE c.sc a).bind fun x => (r.rdE c.sc b).bind fun y => (Ev.val x).bind fun p => (Ev.val y).bind fun q => R.lift ((cmp op p q).map fun b => LV.pv (.bool b))) lo) (Go c (eval (.Compare a [op] [b] p) c.env)) s (RelL c) := by
  refine At.map ?_ fun Q E h => wpAny_Compare1 h hb
  refine (rdE_ok H Gd S a).seq fun x lo₁ u s₁ W₁ S₁ h₁ r₁ => ?_
  refine (rdE_ok H Gd S₁ b).seq fun y lo₂ u' s₂ W₂ S₂ h₂ r₂ => ?_
  refine val_then S₂ (r₁.sub (h' := s₂.heap) h₂) fun p rp => val_then S₂ r₂ fun q rq => ?_
  refine At.lift fun v e => ?_
  obtain ⟨t, ht, rfl⟩ := Option.map_eq_some_iff.mp e
  exact wpAny_mono (cmp_ok S₂.stands S₂.gmods (by have := Gd.units; omega) rp.g rq.g ht) (fun _ _ q => (Post.bool S₂ q).sub (h₁.trans h₂)) fun _ _ e => e

theorem truth_rep {p : PV} {t : Bool} {u : Value} {F : Led} (h : truth p = some t) (r : VRep F u p) : u = .bool t := by
  cases p with
  | bool b => rw [← Option.some.inj h]; exact r.inv
  | _ => cases h
theorem Not_ok (H : SoundE tp n r) (Gd : Good tp c n) (S : St c lo W m cv s) (x : Expr) (p : Pos) :
    At c m cv W.F (((r.pvE c.sc x).bind fun p => R.lift ((truth p).map fun b => LV.pv (.bool !b))) lo) (Go c (eval (.UnaryOp .Not x p) c.env)) s (RelL c) := by
  refine At.map ?_ fun Q E h => wpAny_UnaryOp h
  refine (pvE_ok H Gd S x).seq fun x lo₁ u s₁ W₁ S₁ h₁ r₁ => ?_
  refine At.lift fun v e => ?_
  obtain ⟨t, ht, rfl⟩ := Option.map_eq_some_iff.mp e
  obtain rfl := truth_rep ht r₁
  exact not_value (wpAny_truthy_bool (Post.pvh S₁ h₁ (.bool _)))
theorem Neg_ok (H : SoundE tp n r) (Gd : Good tp c n) (S : St c lo W m cv s) (x : Expr) (p : Pos) :
    At c m cv W.F (((r.pvE c.sc x).bind fun p => R.lift ((keyI p).map fun i => LV.pv (.int (-i)))) lo) (Go c (eval (.UnaryOp .USub x p) c.env)) s (RelL c) := by
  refine At.map ?_ fun Q E h => wpAny_UnaryOp h
  refine (pvE_ok H Gd S x).seq fun x lo₁ u s₁ W₁ S₁ h₁ r₁ => ?_
  refine At.lift fun v e => ?_
  obtain ⟨i, hi, e⟩ := Option.map_eq_some_iff.mp e
  obtain ⟨t, ht⟩ := keyI_val hi r₁
  rw [ht, ← e]
  exact P.neg_int (Post.pv S₁ h₁ (.int _ _) _)

/-- a choice -/
theorem At.ite {β α : Type} {F0 F1 : Led} {x : R Bool} {f g : R α} {t : Sem Bool} {T Fs : Sem β} {Rel : α → Wd → Heap → β → Prop}
    (hx : At c m cv F1 (x lo) (Go c t) s RelB)
    (k : ∀ lo' s' W', St c lo' W' m cv s' → Sub F1 W'.F → At c m cv F0 (f lo') (Go c T) s' Rel ∧ At c m cv F0 (g lo') (Go c Fs) s' Rel) :
    At c m cv F0 (x.bind (fun c => if c then f else g) lo) (fun Q E s => wpAny c.M c.A t (fun b s' => if b then wpAny c.M c.A T Q E s' else wpAny c.M c.A Fs Q E s') E s) s Rel := by
  refine At.seq (G := fun b Q E s' => if b then wpAny c.M c.A T Q E s' else wpAny c.M c.A Fs Q E s') hx fun b lo' b' s' W' S' hs h => ?_
  obtain rfl : b' = b := h
  cases b' with
  | true => simpa using (k lo' s' W' S' hs).1
  | false => simpa using (k lo' s' W' S' hs).2

theorem IfExp_ok (H : SoundE tp n r) (Gd : Good tp c n) (S : St c lo W m cv s) (t a b : Expr) (p : Pos) :
    At c m cv W.F (((r.b c.sc t).bind fun c' => if c' then r.e c.sc a else r.e c.sc b) lo) (Go c (eval (.IfExp t a b p) c.env)) s (RelL c) := by
  refine At.map ?_ fun Q E h => wpAny_IfExp h
  exact (H.b Gd S t).ite fun lo' s' W' S' hs => ⟨(H.e Gd S' a).sub hs, (H.e Gd S' b).sub hs⟩
end
end Mine
namespace Mine
open PySem PyProof.Rows PySem.W PySem.SeqAt

section
variable {prog : Program} {w : World} {A : Around} {E : Value → Shared → Prop} {s : Shared} {env : Env}
theorem subscript_rule {value slice : Expr} {pos : Pos} {Q : Value → Shared → Prop}
    (h : wpAny (model prog w) A (eval value env) (fun o s₁ => wpAny (model prog w) A (eval slice env) (fun i s₂ => ∃ T id, typeLookup (.type T) "__getitem__" = pure (some (.builtin id)) ∧ s₂.TypeIs o T ∧ wpAny (model prog w) A (getItem o i) Q E s₂) E s₁) E s) :
    wpAny (model prog w) A (eval (.Subscript value slice pos) env) Q E s := by
  rw [eval_Subscript]
  refine wpAny_bind (wpAny_mono h (fun o s₁ h₁ => wpAny_bind (wpAny_holding (wpAny_mono h₁ (fun i s₂ h₂ => wpAny_bind (wpAny_standAt ?_)) fun _ _ x => x))) fun _ _ x => x)
  obtain ⟨T, id, hl, hT, hg⟩ := h₂
  refine wpAny_bind ?_
  rw [getitemInPython_of_ne hT.not_modules]
  refine wpAny_bind (wpAny_specialOf hT hl ?_)
  have fin : wpAny (model prog w) A (subscripted slice false o i) (fun r s₃ => wpAny (model prog w) A (letTemporaryGo value o r >>= fun _ => pure r) Q E s₃) E s₂ := by
    have k : wpAny (model prog w) A (getItem o i) (fun r s₃ => wpAny (model prog w) A (letTemporaryGo value o r >>= fun _ => pure r) Q E s₃) E s₂ := wpAny_mono hg (fun r s₃ h₃ => wpAny_bind (wpAny_letTemporaryGo (wpAny_pure h₃))) fun _ _ x => x
    unfold subscripted
    split
    · exact wpAny_operating k
    · rename_i hh; cases hh
    · exact wpAny_operating k
  exact wpAny_pure (wpAny_bind fin)
end

section
variable {tp : TopP} {c : Cx} {m : Str → Option Value} {cv : Addr → Option Value} {lo : Lo} {W : Wd} {s : Shared} {n : Nat} {r : Ev}

/-! ### displays -/
theorem starEach_plain {e : Expr} {rest : List Expr} {env : Env} (h : Ev.isStar e = false) : starEach (e :: rest) env = (false, eval e env) :: starEach rest env := by
  cases e <;> first | rfl | cases h

theorem evs_ok (H : SoundE tp n r) (Gd : Good tp c n) (p : Pos) (es : List Expr) : ∀ {lo W s}, St c lo W m cv s → At c m cv W.F (r.evs c.sc es lo) (Go c (spliced (backTo p (starEach es c.env)))) s RelPs := by
  induction es with
  | nil => exact fun S _ => wpAny_items_nil ⟨_, Sub.refl _, S, .nil⟩
  | cons e es ih =>
    intro lo W s S
    unfold Ev.evs
    by_cases hs : Ev.isStar e = true
    · rw [if_pos hs]; exact fun h => (h rfl).elim
    rw [if_neg hs]
    refine At.map ?_ fun Q E h => wpAny_items_cons h (starEach_plain (Bool.not_eq_true _ ▸ hs))
    refine (pvE_ok H Gd S e).seq fun x lo₁ u s₁ W₁ S₁ h₁ r₁ => ?_
    refine (ih S₁).seq fun xs lo₂ us s₂ W₂ S₂ h₂ r₂ => ?_
    exact At.pure S₂ (h₁.trans h₂) (.cons (VRep.sub r₁ h₂) r₂)
theorem bind_inv {α β : Type} {x : R α} {f : α → R β} {lo lo' : Lo} {b : β} (h : x.bind f lo = .ok b lo') : ∃ a lo₁, x lo = .ok a lo₁ ∧ f a lo₁ = .ok b lo' := by
  unfold R.bind at h
  cases e : x lo with
  | ok a lo₁ => rw [e] at h; exact ⟨a, lo₁, rfl, h⟩
  | exc => rw [e] at h; cases h
  | fail => rw [e] at h; cases h
theorem evs_len {sc : Scope} {es : List Expr} : ∀ {lo : Lo} {ps lo'}, r.evs sc es lo = .ok ps lo' → ps.length = es.length := by
  induction es with
  | nil => intro lo ps lo' h; cases h; rfl
  | cons e es ih =>
    intro lo ps lo' h
    unfold Ev.evs at h
    by_cases hs : Ev.isStar e = true
    · rw [if_pos hs] at h; cases h
    · rw [if_neg hs] at h
      obtain ⟨x, lo₁, _, h⟩ := bind_inv h
      obtain ⟨xs, lo₂, h2, h⟩ := bind_inv h
      cases h
      rw [List.length_cons, List.length_cons, ih h2]

/-- what is known of the result -/
theorem At.know {α β : Type} {F0 : Led} {x : R α} {t : Sem β} {Rel : α → Wd → Heap → β → Prop} {P : α → Prop} (hP : ∀ a lo', x lo = .ok a lo' → P a) (h : At c m cv F0 (x lo) (Go c t) s Rel) :
    At c m cv F0 (x lo) (Go c t) s (fun a W h b => P a ∧ Rel a W h b) := by
  intro hne
  refine wpAny_mono (h hne) (fun b s' q => ?_) fun _ _ e => ?_
  · cases e : x lo with
    | ok a lo' => rw [e] at q; obtain ⟨W', a1, a2, a3⟩ := q; exact ⟨W', a1, a2, hP _ _ e, a3⟩
    | exc => rw [e] at q; exact q
    | fail => rw [e] at q; exact q
  · cases e' : x lo with
    | ok a lo' => rw [e'] at e; exact e
    | exc => rw [e'] at e; exact e
    | fail => rw [e'] at e; exact e

theorem Tuple_ok (H : SoundE tp n r) (Gd : Good tp c n) (S : St c lo W m cv s) (es : List Expr) (k : Nat) (p : Pos) (hl : es.length < 2 ^ 20) :
    At c m cv W.F (((r.evs c.sc es).bind fun ps => R.ret (LV.pv (.tup ps))) lo) (Go c (eval (.Tuple es k p) c.env)) s (RelL c) := by
  refine At.map ?_ fun Q E h => wpAny_Tuple h
  refine (At.know (P := fun ps => ps.length = es.length) (fun _ _ e => evs_len e) (evs_ok H Gd p es S)).seq fun ps lo₁ us s₁ W₁ S₁ h₁ r₁ => ?_
  intro hne
  obtain ⟨hle, r₁⟩ := r₁
  refine ⟨?_, (Post.tup S₁ (Sub.refl _) r₁ s₁.toks 0).sub h₁⟩
  rw [r₁.length, hle, sizeLine_eq]; omega
theorem List_ok (H : SoundE tp n r) (Gd : Good tp c n) (S : St c lo W m cv s) (es : List Expr) (p : Pos) (hl : es.length < 2 ^ 20) :
    At c m cv W.F (((r.evs c.sc es).bind fun ps => R.ret (LV.own (.lst ps))) lo) (Go c (eval (.List es p) c.env)) s (RelL c) := by
  refine At.map ?_ fun Q E h => wpAny_List h
  refine (At.know (P := fun ps => ps.length = es.length) (fun _ _ e => evs_len e) (evs_ok H Gd p es S)).seq fun ps lo₁ us s₁ W₁ S₁ h₁ r₁ => ?_
  intro hne
  obtain ⟨hle, r₁⟩ := r₁
  refine ⟨?_, (Post.own (fo := .lst us) S₁ (Sub.refl _) (.lst r₁) ⟨_, rfl⟩ rfl s₁.toks).sub h₁⟩
  rw [r₁.length, hle, sizeLine_eq]; omega

/-! ### and, or -/
theorem boolE_ok (H : SoundE tp n r) (Gd : Good tp c n) (op : BoolOp) (p : Pos) (es : List Expr) : ∀ {lo W s}, St c lo W m cv s → At c m cv W.F (r.boolE c.sc op es lo) (Go c (boolOp p op (evalEach es c.env))) s RelP := by
  induction es with
  | nil => exact fun S h => (h rfl).elim
  | cons e es ih =>
    intro lo W s S
    cases es with
    | nil => exact pvE_ok H Gd S e
    | cons e' es =>
      show At c m cv W.F (((r.pvE c.sc e).bind fun p => (R.lift (truth p)).bind fun t => match op, t with | .And, false | .Or, true => .ret p | _, _ => r.boolE c.sc op (e' :: es)) lo)
        (Go c (do let v ← eval e c.env; standAt p; let t ← holding [v] (truthy v); match op, t with | .And, false | .Or, true => pure v | _, _ => boolOp p op (evalEach (e' :: es) c.env))) s RelP
      refine At.map ?_ fun Q E h => wpAny_bind h
      refine (pvE_ok H Gd S e).seq fun x lo₁ u s₁ W₁ S₁ h₁ r₁ => ?_
      intro hne
      unfold R.bind R.lift at hne ⊢
      cases ht : truth x with
      | none => rw [ht] at hne; exact (hne rfl).elim
      | some t =>
        rw [ht] at hne
        rw [truth_rep ht r₁]
        refine wpAny_bind (wpAny_standAt (wpAny_bind (wpAny_holding (wpAny_truthy_bool ?_))))
        rw [truth_rep ht r₁] at r₁
        cases op <;> cases t <;> first
          | exact wpAny_pure ⟨W₁, h₁, S₁, r₁⟩
          | exact (ih S₁).sub h₁ hne
theorem boolB_ok (H : SoundE tp n r) (Gd : Good tp c n) (op : BoolOp) (es : List Expr) : ∀ {lo W s}, St c lo W m cv s → At c m cv W.F (r.boolB c.sc op es lo) (Go c (allTrue op es c.env)) s RelB := by
  induction es with
  | nil => exact fun S h => (h rfl).elim
  | cons e es ih =>
    intro lo W s S
    cases es with
    | nil =>
      intro hne
      have := H.b Gd S e hne
      cases op
      · refine wpAny_allTrue_And_cons (wpAny_mono this (fun b s' q => ?_) fun _ _ e => e)
        cases b
        · exact q
        · exact wpAny_allTrue_And_nil q
      · refine wpAny_allTrue_Or_cons (wpAny_mono this (fun b s' q => ?_) fun _ _ e => e)
        cases b
        · exact wpAny_allTrue_Or_nil q
        · exact q
    | cons e' es =>
      unfold Ev.boolB
      cases op
      · refine At.map ?_ fun Q E h => wpAny_allTrue_And_cons h
        refine (H.b Gd S e).seq (G := fun b Q E s₁ => if b then wpAny c.M c.A (allTrue .And (e' :: es) c.env) Q E s₁ else Q false s₁) fun t lo₁ b s₁ W₁ S₁ h₁ r₁ => ?_
        obtain rfl : b = t := r₁
        cases b
        · exact At.pure S₁ h₁ rfl
        · exact At.map ((ih S₁).sub h₁) fun Q E h => by rw [if_pos rfl]; exact h
      · refine At.map ?_ fun Q E h => wpAny_allTrue_Or_cons h
        refine (H.b Gd S e).seq (G := fun b Q E s₁ => if b then Q true s₁ else wpAny c.M c.A (allTrue .Or (e' :: es) c.env) Q E s₁) fun t lo₁ b s₁ W₁ S₁ h₁ r₁ => ?_
        obtain rfl : b = t := r₁
        cases b
        · exact At.map ((ih S₁).sub h₁) fun Q E h => by rw [if_neg Bool.false_ne_true]; exact h
        · exact At.pure S₁ h₁ rfl
end
end Mine
namespace Mine
open PySem PyProof.Rows PySem.W PySem.SeqAt

section
variable {tp : TopP} {c : Cx} {m : Str → Option Value} {cv : Addr → Option Value} {lo : Lo} {W : Wd} {s : Shared} {n : Nat} {r : Ev}

theorem RdV.lst {u : Value} {l : List PV} (r : RdV W u (.lst l)) : ∃ a vs, u = .ref a ∧ (a, FO.lst vs) ∈ W.G ∧ VReps W.F vs l := by
  obtain ⟨a, fo, rfl, h1, h2⟩ := RdV.obj (mo := .lst l) r
  cases h2 with
  | lst h2 => exact ⟨a, _, rfl, h1, h2⟩

theorem itemAt_seq {l : List PV} {i : Int} {q : PV} (h : itemAt l i = some q) : ∃ k, seqIndex? i l.length = some k ∧ l[k]? = some q ∧ -2 ^ 63 ≤ i ∧ i < 2 ^ 63 ∧ ((0 ≤ i ∧ k = i.toNat) ∨ (i < 0 ∧ -(l.length : Int) ≤ i ∧ k = (i + l.length).toNat)) := by
  unfold itemAt at h
  split at h
  · rename_i hb
    split at h
    · rename_i h0
      have hlt := (List.getElem?_eq_some_iff.mp h).1
      exact ⟨_, seqIndex_of h0 (by omega), h, by omega, by omega, .inl ⟨h0, rfl⟩⟩
    · rename_i h0
      split at h
      · rename_i h1
        exact ⟨_, seqIndex_neg (by omega) (by omega), h, by omega, by omega, .inr ⟨by omega, by omega, rfl⟩⟩
      · cases h
  · cases h

/-- an item is read -/
noncomputable def ItemOk (c : Cx) (s : Shared) (u u' : Value) (Q : Value → Shared → Prop) : Prop := ∃ T id, typeLookup (.type T) "__getitem__" = pure (some (.builtin id)) ∧ s.TypeIs u T ∧ wpAny c.M c.A (getItem u u') Q No s
theorem item_tup (S : St c lo W m cv s) {l : List PV} {i : Int} {q : PV} {u : Value} {t : Tok} (r1 : VSeq W.F .tup u l) (e : itemAt l i = some q) : ItemOk c s u (.int i t) (Post c lo m cv W.F (RelL c (.pv q))) := by
  obtain ⟨h, ha, hr⟩ := r1
  obtain ⟨k, h1, h2, h3, h4, _⟩ := itemAt_seq e
  obtain ⟨n, hn⟩ := isTuple_of S.standsF ha
  obtain ⟨v, hv, rv⟩ := hr.get h2
  rw [← hr.length] at h1
  rw [h]
  exact ⟨_, _, PySem.F.slot_tuple_getitem.lookup, ⟨_, hn, rfl⟩, PySem.P.getItem_tuple hn h3 h4 (k := k) (y := v) (by simpa using h1) (by simpa using hv) (Post.pvh S (Sub.refl _) rv)⟩
theorem item_lst (S : St c lo W m cv s) {l : List PV} {i : Int} {q : PV} {u : Value} {t : Tok} (r1 : RdV W u (.lst l)) (e : itemAt l i = some q) : ItemOk c s u (.int i t) (Post c lo m cv W.F (RelL c (.pv q))) := by
  obtain ⟨a, vs, h, ha, hr⟩ := r1.lst
  obtain ⟨k, h1, h2, h3, h4, h5⟩ := itemAt_seq e
  have hl := isList_of S.stands ha
  obtain ⟨v, hv, rv⟩ := hr.get h2
  rw [h]
  refine ⟨_, _, PySem.F.slot_list_getitem.lookup, hl.typeIs, ?_⟩
  rw [← hr.length] at h5
  rcases h5 with ⟨h0, h6⟩ | ⟨h0, h6, h7⟩
  · rw [h6] at hv; exact wpAny_getItem_list hl h0 h4 (by simpa using hv) (Post.pvh S (Sub.refl _) rv)
  · rw [h7] at hv; exact wpAny_getItem_list_neg hl h0 (by simpa using h6) (by omega) (by simpa using hv) (Post.pvh S (Sub.refl _) rv)
theorem item_str (S : St c lo W m cv s) {x : Str} {i : Int} {q : PV} {u : Value} {t : Tok} (r1 : VRep W.F u (.str x)) (e : strAt x i = some q) : ItemOk c s u (.int i t) (Post c lo m cv W.F (RelL c (.pv q))) := by
  obtain ⟨h0, e⟩ := ite_some e
  obtain ⟨ch, hc, e⟩ := Option.map_eq_some_iff.mp e
  obtain ⟨t', h1⟩ := r1.toStr
  have hlt := (Array.getElem?_eq_some_iff.mp hc).1
  have hb : ¬ (decide (i < -(2 ^ 63 : Int)) || decide (i ≥ 2 ^ 63)) = true := by simp; omega
  rw [h1, ← e]
  refine ⟨_, _, PySem.F.slot_str_getitem.lookup, typeIs_str s x t', PySem.P.getItem_str (c := ch) (by simpa using hb) ?_ (Post.pv S (Sub.refl _) (.str _ _) _)⟩
  rw [seqIndex_of h0.1 (by have : x.length = x.cps.size := rfl; omega)]
  exact hc
theorem item_dct (Gd : Good tp c n) (S : St c lo W m cv s) {p y q : PV} {u u' : Value} (r1 : RdV W u p) (r2 : VRep W.F u' y) (e : (dget p y).join = some q) : ItemOk c s u u' (Post c lo m cv W.F (RelL c (.pv q))) := by
  have hq : dget p y = some (some q) := Option.join_eq_some_iff.mp e
  obtain ⟨mo, hm⟩ := dget_obj hq
  obtain ⟨a, fo, h, ha, hr⟩ := r1.obj' hm
  rw [hm] at hq
  obtain ⟨o, hv, ho⟩ := dv_of' S.stands W.subF ha hr (r2.mono W.subF) hq
  rw [h]
  cases ho with
  | some rv =>
    refine ⟨_, _, PySem.F.slot_dict_getitem.lookup, hv.typeIs, wpAny_mono (hv.item (by have := Gd.units; omega)) (fun b s' q => ?_) fun _ _ e => e⟩
    obtain ⟨rfl, t, rfl⟩ := q
    exact Post.pv S (Sub.refl _) rv t
theorem item_ok (Gd : Good tp c n) (S : St c lo W m cv s) {p y q : PV} {u u' : Value} (r1 : RdV W u p) (r2 : VRep W.F u' y) (e : item p y = some q) : ItemOk c s u u' (Post c lo m cv W.F (RelL c (.pv q))) := by
  unfold item at e
  cases ht : tupP p with
  | some l =>
    rw [ht] at e
    obtain ⟨i, hi, e⟩ := ob e
    obtain ⟨t, h⟩ := keyI_val hi r2
    rw [tupP_eq ht] at r1
    rw [h]; exact item_tup S (r1.val rfl).toTup e
  | none =>
    rw [ht] at e
    cases hl : lstP p with
    | some l =>
      rw [hl] at e
      obtain ⟨i, hi, e⟩ := ob e
      obtain ⟨t, h⟩ := keyI_val hi r2
      rw [lstP_eq hl] at r1
      rw [h]; exact item_lst S r1 e
    | none =>
      rw [hl] at e
      cases hs : keyS p with
      | some x =>
        rw [hs] at e
        obtain ⟨i, hi, e⟩ := ob e
        obtain ⟨t, h⟩ := keyI_val hi r2
        rw [keyS_eq hs] at r1
        rw [h]; exact item_str S (r1.val rfl) e
      | none =>
        rw [hs] at e
        exact item_dct Gd S r1 r2 e

theorem Sub_ok (H : SoundE tp n r) (Gd : Good tp c n) (S : St c lo W m cv s) (a i : Expr) (p : Pos) :
    At c m cv W.F (((r.rdE c.sc a).bind fun x => (r.pvE c.sc i).bind fun y => (Ev.val x).bind fun p => R.lift ((item p y).map LV.pv)) lo) (Go c (eval (.Subscript a i p) c.env)) s (RelL c) := by
  refine At.map ?_ fun Q E h => subscript_rule h
  refine (rdE_ok H Gd S a).seq fun x lo₁ u s₁ W₁ S₁ h₁ r₁ => ?_
  refine (pvE_ok H Gd S₁ i).seq (G := fun i Q E s₂ => ∃ T id, typeLookup (.type T) "__getitem__" = pure (some (.builtin id)) ∧ s₂.TypeIs u T ∧ wpAny c.M c.A (getItem u i) Q E s₂) fun y lo₂ u' s₂ W₂ S₂ h₂ r₂ => ?_
  refine val_then S₂ (r₁.sub (h' := s₂.heap) h₂) fun p rp => ?_
  intro hne
  cases hi : item p y with
  | none => rw [hi] at hne; exact (hne rfl).elim
  | some q =>
    obtain ⟨T, id, t1, t2, t3⟩ := item_ok Gd S₂ rp r₂ hi
    exact ⟨T, id, t1, t2, wpAny_mono t3 (fun _ _ q => q.sub (h₁.trans h₂)) fun _ _ e => e.elim⟩

theorem slice_lst {F0 : Led} (S : St c lo W m cv s) {l : List PV} {k : Int} {u : Value} {t : Tok} (rp : RdV W u (.lst l)) (hk : 0 ≤ k ∧ l.length < 2 ^ 20) (hs : Sub F0 W.F) :
    ∃ T id, typeLookup (.type T) "__getitem__" = pure (some (.builtin id)) ∧ ({ s with heap := s.heap.push { cls := .type "slice", data := .fields #[.none, .int k t, .none] } } : Shared).TypeIs u T ∧
      wpAny c.M c.A (getItem u (.ref s.heap.objs.size)) (Post c lo m cv F0 (RelL c (.own (.lst (l.take k.toNat))))) No { s with heap := s.heap.push { cls := .type "slice", data := .fields #[.none, .int k t, .none] } } := by
  obtain ⟨a, vs, h, ha, hr⟩ := rp.lst
  rw [h]
  have S₃ := S.push { cls := .type "slice", data := .fields #[.none, .int k t, .none] } s.toks
  have hl := isList_of S₃.stands ha
  refine ⟨_, _, PySem.F.slot_list_getitem.lookup, hl.typeIs, ?_⟩
  obtain ⟨k', hk'⟩ := Int.eq_ofNat_of_zero_le hk.1
  subst hk'
  refine wpAny_getItem_list_slice hl (Heap.IsSliceOf.new ..) .none (.int _ t) .none (fun e => nomatch e) ?_ (by rw [sizeLine_eq, List.size_toArray, hr.length]; omega)
  rw [slicePick_upto']
  exact (Post.own (fo := .lst (vs.take k')) S₃ (Sub.refl _) (.lst (hr.take _)) ⟨_, rfl⟩ rfl s.toks).sub hs
theorem Slice_ok (H : SoundE tp n r) (Gd : Good tp c n) (S : St c lo W m cv s) (a i : Expr) (p p' : Pos) :
    At c m cv W.F (((r.rdE c.sc a).bind fun x => (r.pvE c.sc i).bind fun y => (Ev.val x).bind fun p => R.lift (slice p y)) lo) (Go c (eval (.Subscript a (.Slice none (some i) none p') p) c.env)) s (RelL c) := by
  refine At.map ?_ fun Q E h => subscript_rule h
  refine (rdE_ok H Gd S a).seq fun x lo₁ u s₁ W₁ S₁ h₁ r₁ => ?_
  refine At.map (G := fun Q E s₁ => wpAny c.M c.A (eval i c.env) (fun vu s₂ => ∃ T id, typeLookup (.type T) "__getitem__" = pure (some (.builtin id)) ∧ ({ s₂ with heap := s₂.heap.push { cls := .type "slice", data := .fields #[.none, vu, .none] } } : Shared).TypeIs u T ∧
      wpAny c.M c.A (getItem u (.ref s₂.heap.objs.size)) Q E { s₂ with heap := s₂.heap.push { cls := .type "slice", data := .fields #[.none, vu, .none] } }) E s₁) ?_
    fun Q E h => wpAny_Slice (by
      rw [evalPart_none]
      refine wpAny_pure ?_
      rw [evalPart_some]
      refine wpAny_mono h (fun vu s₂ h₂ => ?_) fun _ _ e => e
      exact wpAny_pure h₂)
  refine (pvE_ok H Gd S₁ i).seq (G := fun vu Q E s₂ => ∃ T id, typeLookup (.type T) "__getitem__" = pure (some (.builtin id)) ∧ ({ s₂ with heap := s₂.heap.push { cls := .type "slice", data := .fields #[.none, vu, .none] } } : Shared).TypeIs u T ∧
      wpAny c.M c.A (getItem u (.ref s₂.heap.objs.size)) Q E { s₂ with heap := s₂.heap.push { cls := .type "slice", data := .fields #[.none, vu, .none] } }) fun y lo₂ u' s₂ W₂ S₂ h₂ r₂ => ?_
  refine val_then S₂ (r₁.sub (h' := s₂.heap) h₂) fun p rp => ?_
  intro hne
  cases hi : slice p y with
  | none => rw [hi] at hne; exact (hne rfl).elim
  | some q =>
    obtain ⟨l, hl, hi⟩ := ob hi
    obtain ⟨k, hk, hi⟩ := ob hi
    obtain ⟨hb, hi⟩ := ite_some hi
    rw [lstP_eq hl] at rp
    obtain ⟨t, ht⟩ := keyI_val hk r₂
    rw [ht, ← Option.some.inj hi]
    exact slice_lst S₂ rp hb (h₁.trans h₂)
end
end Mine
namespace Mine
open PySem PyProof.Rows PySem.W PySem.SeqAt

section
variable {M : Model} {A : Around} {E : Value → Shared → Prop} {s : Shared} {env : Env}
theorem trees_plain {p : Pos} : ∀ {es : List Expr}, es.any Ev.isStar = false → (backTo p (starEach es env)).any (·.1) = false
  | [], _ => rfl
  | e :: es, h => by
    rw [List.any_cons, Bool.or_eq_false_iff] at h
    rw [starEach_plain h.1]
    show (false || (backTo p (starEach es env)).any (·.1)) = false
    rw [trees_plain h.2]; rfl
theorem evalArgs_G {f : Value} {p : Pos} {es : List Expr} {Q : Args → Shared → Prop} (hs : es.any Ev.isStar = false) (h : wpAny M A (spliced (backTo p (starEach es env))) (fun vs s' => Q ⟨vs, []⟩ s') E s) :
    wpAny M A (evalArgs f true (backTo p (starEach es env)) []) Q E s := by
  cases es with
  | nil =>
    unfold evalArgs
    show wpAny M A (spliced [] >>= _) Q E s
    refine wpAny_bind (wpAny_mono h (fun vs s' h' => ?_) fun _ _ x => x)
    refine wpAny_bind (wpAny_pure (wpAny_holding ?_))
    exact wpAny_bind (wpAny_pure (wpAny_bind (wpAny_pure (wpAny_pure h'))))
  | cons e es =>
    rw [List.any_cons, Bool.or_eq_false_iff] at hs
    rw [starEach_plain hs.1] at h ⊢
    exact Calls.evalArgs_plain h
theorem call_name {x : Str} {fp p : Pos} {es : List Expr} {Q : Value → Shared → Prop}
    (h : wpAny M A (eval (.Name x fp) env) (fun f s₁ => wpAny M A (callWith p f [] (backTo p (starEach es env)) []) Q E s₁) E s) : wpAny M A (eval (.Call (.Name x fp) es [] p) env) Q E s := Call_Name rfl h
/-- a builtin's or a type's call -/
theorem callWith_machine {p : Pos} {f : Value} {first : List Value} {es : List Expr} {Q : Value → Shared → Prop} (hf : ∀ a, f ≠ .ref a) (hs : es.any Ev.isStar = false)
    (h : wpAny M A (spliced (backTo p (starEach es env))) (fun vs s₁ => wpAny M A (call f (first ++ vs)) Q E s₁) E s) : wpAny M A (callWith p f first (backTo p (starEach es env)) []) Q E s := by
  have hp := trees_plain (env := env) (p := p) hs
  have hk : keeperOf f = pure .machine := by
    cases f <;> first | rfl | exact absurd rfl (hf _)
  unfold callWith
  refine wpAny_bind (wpAny_holding (evalArgs_G hs (wpAny_mono h (fun a s₁ h₁ => wpAny_bind (wpAny_standAt ?_)) fun _ _ x => x)))
  simp only [hp, List.any_nil, Bool.or_false, hk]
  refine wpAny_bind (wpAny_pure ?_)
  exact wpAny_bind (wpAny_mono h₁ (fun r s₂ hr => wpAny_bind (wpAny_holding (wpAny_point (wpAny_pure hr)))) fun _ _ x => x)
end

section
variable {tp : TopP} {c : Cx} {m : Str → Option Value} {cv : Addr → Option Value} {lo : Lo} {W : Wd} {s : Shared} {n : Nat} {r : Ev}

theorem glob_name (Gd : Good tp c n) {x : Str} {fp : Pos} (h : isGlob c.sc x = true) (hd : (x == ("__debug__" : Str)) = false) {Q : Value → Shared → Prop} {E : Value → Shared → Prop} (hQ : wpAny c.M c.A (loadGlobal c.env x) Q E s) :
    wpAny c.M c.A (eval (.Name x fp) c.env) Q E s := wpAny_Name (loadName_glob Gd h hQ) hd
theorem bt_name (Gd : Good tp c n) (S : St c lo W m cv s) {x : Str} {fp : Pos} {v : Value} (h : isGlob c.sc x = true) (hx : x ∈ (["len", "list", "tuple", "str", "abs", "int", "bool", "dict", "range", "reversed", "isinstance"] : List Str)) (hv : bootBuiltins x = some v)
    (hd : (x == ("__debug__" : Str)) = false) {Q : Value → Shared → Prop} {E : Value → Shared → Prop} (hQ : Q v s) : wpAny c.M c.A (eval (.Name x fp) c.env) Q E s := by
  obtain ⟨h1, h2⟩ := Gd.tops.bt x hx
  refine glob_name Gd h hd (Calls.loadGlobal_builtin (mg := tp.mg) (mb := tp.mb) ?_ h1 ?_ (h2.trans hv) hQ)
  · rw [Gd.gl]; exact Gd.tops.g.keeps S.inv.keep
  · rw [Gd.bl]; exact Gd.tops.b.keeps S.inv.keep

theorem boot_len : bootBuiltins "len" = some (.builtin "len") := by rfl
theorem boot_list : bootBuiltins "list" = some (.type "list") := by rfl
theorem boot_tuple : bootBuiltins "tuple" = some (.type "tuple") := by rfl
theorem boot_str : bootBuiltins "str" = some (.type "str") := by rfl
theorem boot_abs : bootBuiltins "abs" = some (.builtin "abs") := by rfl
theorem boot_int : bootBuiltins "int" = some (.type "int") := by rfl
theorem boot_bool : bootBuiltins "bool" = some (.type "bool") := by rfl
theorem boot_dict : bootBuiltins "dict" = some (.type "dict") := by rfl
theorem boot_range : bootBuiltins "range" = some (.type "range") := by rfl
theorem boot_reversed : bootBuiltins "reversed" = some (.type "reversed") := by rfl
theorem boot_isinstance : bootBuiltins "isinstance" = some (.builtin "isinstance") := by rfl

theorem items_eq {p : PV} {l : List PV} (h : itemsOf p = some l) : p = .lst l ∨ p = .tup l := by
  cases p with
  | lst k => exact .inl (by rw [Option.some.inj h])
  | tup k => exact .inr (by rw [Option.some.inj h])
  | _ => cases h
theorem list_ok (S : St c lo W m cv s) {p : PV} {l : List PV} {u : Value} (r1 : RdV W u p) (hi : itemsOf p = some l) (hl : l.length < 2 ^ 20) : wpAny c.M c.A (call (.type "list") [u]) (Post c lo m cv W.F (RelL c (.own (.lst l)))) No s := by
  have key : ∀ {a : Addr} {vs : List Value} {T : String} {o : Obj} {k : Nat}, T = "list" ∨ T = "tuple" → VReps W.F vs l → s.heap.get? a = some o → o.cls = .type T → o.data = .seq vs.toArray k →
      wpAny c.M c.A (call (.type "list") [.ref a]) (Post c lo m cv W.F (RelL c (.own (.lst l)))) No s := by
    intro a vs T o k hT hr ho hc hd
    refine call_list_seq a hT ho hc hd (fun h' c' hk he => ?_) (by rw [List.size_toArray, hr.length, sizeLine_eq]; omega)
    exact ⟨W, Sub.refl _, ⟨S.gens, S.os, S.inv.keeps hk⟩, .own (.lst hr) (S.inv.free (Nat.le_refl _)) ⟨_, he, c', rfl⟩⟩
  rcases items_eq hi with h | h
  · rw [h] at r1
    obtain ⟨a, vs, e, h2, hr⟩ := r1.lst
    obtain ⟨o, ho, k, e'⟩ := S.stands _ h2
    rw [e']  at ho
    rw [e]; exact key (.inl rfl) hr ho rfl rfl
  · rw [h] at r1
    obtain ⟨e, h2, hr⟩ := (r1.val rfl).toTup
    obtain ⟨o, ho, k, e'⟩ := S.standsF _ h2
    rw [e'] at ho
    rw [e]; exact key (.inr rfl) hr ho rfl rfl
theorem tuple_ok (S : St c lo W m cv s) {l : List PV} {u : Value} (r1 : RdV W u (.lst l)) (hl : l.length < 2 ^ 20) : wpAny c.M c.A (call (.type "tuple") [u]) (Post c lo m cv W.F (RelL c (.pv (.tup l)))) No s := by
  obtain ⟨a, vs, e, h2, hr⟩ := r1.lst
  rw [e]
  refine call_tuple_list (isList_of S.stands h2) (fun h' hk => ?_) (by rw [List.size_toArray, hr.length, sizeLine_eq]; omega)
  exact Post.tup (s := { s with heap := h' }) ⟨S.gens, S.os, S.inv.keeps hk⟩ (Sub.refl _) hr s.toks 0
theorem str_ok (S : St c lo W m cv s) {i : Int} {t : Tok} (hi : i.natAbs < 2 ^ 10) : wpAny c.M c.A (call (.type "str") [.int i t]) (Post c lo m cv W.F (RelL c (.pv (.txt (i.natAbs + 2))))) No s := by
  refine PySem.P.str_of_int ?_ (Post.pv S (Sub.refl _) (.txt ?_) _)
  · rcases Nat.eq_zero_or_pos i.natAbs with h0 | h0
    · rw [h0]; decide
    · exact Nat.lt_trans ((Nat.log2_lt (by omega)).mpr hi) (by omega)
  · have := PyProof.Rows.len_str_of_int i
    have e : (((toString i : String) : Str) : Str).length = (Str.ofString (toString i)).length := rfl
    omega
theorem abs_ok (S : St c lo W m cv s) {i : Int} {t : Tok} : wpAny c.M c.A (call (.builtin "abs") [.int i t]) (Post c lo m cv W.F (RelL c (.pv (.int i.natAbs)))) No s := by
  refine PyProof.Rows.call_abs_int fun u tk => ?_
  rw [show (if i < 0 then -i else i) = (i.natAbs : Int) by split <;> omega]
  exact Post.pv S (Sub.refl _) (.int _ _) _
theorem len_ok (S : St c lo W m cv s) {p : PV} {k : Nat} {u : Value} (r1 : RdV W u p) (hk : lenOf p = some k) : wpAny c.M c.A (call (.builtin "len") [u]) (Post c lo m cv W.F (RelL c (.pv (.int k)))) No s := by
  have fin : ∀ {t : Tok} {n : Nat}, Post c lo m cv W.F (RelL c (.pv (.int k))) (.int k t) { s with toks := n } := fun {t n} => Post.pv S (Sub.refl _) (.int _ t) n
  cases p with
  | tup l =>
    obtain ⟨hl, hk⟩ := ite_some (show (if l.length < 2 ^ 20 then some l.length else none) = some k from hk)
    obtain ⟨e, h2, hr⟩ := (r1.val rfl).toTup
    obtain ⟨n, hn⟩ := isTuple_of S.standsF h2
    rw [e]
    rw [← Option.some.inj hk, ← hr.length, ← List.size_toArray] at fin ⊢
    rw [← hr.length, ← List.size_toArray] at hl
    exact PySem.P.len_tuple hn (by omega) fin
  | lst l =>
    obtain ⟨hl, hk⟩ := ite_some (show (if l.length < 2 ^ 20 then some l.length else none) = some k from hk)
    obtain ⟨a, vs, e, h2, hr⟩ := r1.lst
    rw [e]
    rw [← Option.some.inj hk, ← hr.length, ← List.size_toArray] at fin ⊢
    rw [← hr.length, ← List.size_toArray] at hl
    exact Calls.call_len_list (isList_of S.stands h2) (by omega) fin
  | str x =>
    obtain ⟨hl, hk⟩ := ite_some (show (if x.length < 2 ^ 20 then some x.length else none) = some k from hk)
    obtain ⟨t, e⟩ := (r1.val rfl).toStr
    rw [e]
    rw [← Option.some.inj hk] at fin ⊢
    exact PySem.P.len_str (by omega) fin
  | _ => cases hk
theorem bcall_ok (S : St c lo W m cv s) {g : Str} {p : PV} {v : LV} {u f : Value} (hf : bootBuiltins g = some f) (r1 : RdV W u p) (e : bcall g p = some v) :
    wpAny c.M c.A (call f [u]) (Post c lo m cv W.F (RelL c v)) No s := by
  unfold bcall at e
  by_cases h1 : g = "len"
  · rw [h1, boot_len] at hf
    rw [if_pos h1] at e
    obtain ⟨k, hk, e⟩ := Option.map_eq_some_iff.mp e
    rw [← Option.some.inj hf, ← e]; exact len_ok S r1 hk
  rw [if_neg h1] at e
  clear h1
  by_cases h1 : g = "list"
  · rw [h1, boot_list] at hf
    rw [if_pos h1] at e
    obtain ⟨l, hl, e⟩ := ob e
    obtain ⟨hb, e⟩ := ite_some e
    rw [← Option.some.inj hf, ← Option.some.inj e]; exact list_ok S r1 hl hb
  rw [if_neg h1] at e
  clear h1
  by_cases h1 : g = "tuple"
  · rw [h1, boot_tuple] at hf
    rw [if_pos h1] at e
    obtain ⟨l, hl, e⟩ := ob e
    obtain ⟨hb, e⟩ := ite_some e
    rw [lstP_eq hl] at r1
    rw [← Option.some.inj hf, ← Option.some.inj e]; exact tuple_ok S r1 hb
  rw [if_neg h1] at e
  clear h1
  by_cases h1 : g = "str"
  · rw [h1, boot_str] at hf
    rw [if_pos h1] at e
    obtain ⟨i, hi, e⟩ := ob e
    obtain ⟨hb, e⟩ := ite_some e
    rw [keyI_eq hi] at r1
    obtain ⟨t, h⟩ := (r1.val rfl).toInt
    rw [← Option.some.inj hf, ← Option.some.inj e, h]; exact str_ok S hb
  rw [if_neg h1] at e
  clear h1
  by_cases h1 : g = "abs"
  · rw [h1, boot_abs] at hf
    rw [if_pos h1] at e
    obtain ⟨i, hi, e⟩ := Option.map_eq_some_iff.mp e
    rw [keyI_eq hi] at r1
    obtain ⟨t, h⟩ := (r1.val rfl).toInt
    rw [← Option.some.inj hf, ← e, h]; exact abs_ok S
  rw [if_neg h1] at e
  cases e
end
end Mine
namespace Mine
open PySem PyProof.Rows PySem.W PySem.SeqAt

section
variable {tp : TopP} {c : Cx} {m : Str → Option Value} {cv : Addr → Option Value} {lo : Lo} {W : Wd} {s : Shared} {n : Nat} {r : Ev}

theorem bnames_boot {g : Str} (h : bnames.contains g = true) : ∃ f, bootBuiltins g = some f ∧ (∀ a, f ≠ .ref a) ∧ (g == ("__debug__" : Str)) = false ∧
    g ∈ (["len", "list", "tuple", "str", "abs", "int", "bool", "dict", "range", "reversed", "isinstance"] : List Str) := by
  unfold bnames at h
  have h := List.contains_iff_mem.mp h
  simp only [List.mem_cons, List.not_mem_nil, or_false] at h
  rcases h with rfl | rfl | rfl | rfl | rfl
  · exact ⟨_, boot_len, by simp, by decide, by simp⟩
  · exact ⟨_, boot_list, by simp, by decide, by simp⟩
  · exact ⟨_, boot_tuple, by simp, by decide, by simp⟩
  · exact ⟨_, boot_str, by simp, by decide, by simp⟩
  · exact ⟨_, boot_abs, by simp, by decide, by simp⟩

theorem one_items {a : Expr} {p : Pos} {Q : List Value → Shared → Prop} {E : Value → Shared → Prop} (hs : Ev.isStar a = false) (h : wpAny c.M c.A (eval a c.env) (fun u s₁ => Q [u] s₁) E s) :
    wpAny c.M c.A (spliced (backTo p (starEach [a] c.env))) Q E s :=
  wpAny_items_cons (wpAny_mono h (fun u s₁ h₁ => wpAny_items_nil h₁) fun _ _ e => e) (starEach_plain hs)
theorem two_items {a b : Expr} {p : Pos} {Q : List Value → Shared → Prop} {E : Value → Shared → Prop} (hs : Ev.isStar a = false) (hs' : Ev.isStar b = false)
    (h : wpAny c.M c.A (eval a c.env) (fun u s₁ => wpAny c.M c.A (eval b c.env) (fun v s₂ => Q [u, v] s₂) E s₁) E s) :
    wpAny c.M c.A (spliced (backTo p (starEach [a, b] c.env))) Q E s :=
  wpAny_items_cons (wpAny_mono h (fun _ _ h₁ => one_items hs' h₁) fun _ _ e => e) (starEach_plain hs)
theorem star1 {a : Expr} (h : [a].any Ev.isStar = false) : Ev.isStar a = false := by simpa using h

theorem BCall_ok (H : SoundE tp n r) (Gd : Good tp c n) (S : St c lo W m cv s) {g : Str} (fp : Pos) (a : Expr) (p : Pos) (hg : isGlob c.sc g = true) (hb : bnames.contains g = true) (hs : [a].any Ev.isStar = false) :
    At c m cv W.F (((r.rdE c.sc a).bind fun rd => (Ev.val rd).bind fun p => R.lift (bcall g p)) lo) (Go c (eval (.Call (.Name g fp) [a] [] p) c.env)) s (RelL c) := by
  obtain ⟨f, hf, hr, hd, hm⟩ := bnames_boot hb
  refine At.map ?_ fun Q E h => call_name (bt_name Gd S hg hm hf hd (callWith_machine hr hs (one_items (star1 hs) h)))
  refine (rdE_ok H Gd S a).seq fun x lo₁ u s₁ W₁ S₁ h₁ r₁ => ?_
  refine val_then S₁ r₁ fun q rq => At.lift fun v e => ?_
  exact wpAny_mono (bcall_ok S₁ hf rq e) (fun _ _ q => q.sub h₁) fun _ _ e => e

noncomputable abbrev btNames : List Str := ["len", "list", "tuple", "str", "abs", "int", "bool", "dict", "range", "reversed", "isinstance"]
theorem isi_names {T : Str} (h : isiNames.contains T = true) : T = "int" ∨ T = "bool" ∨ T = "tuple" ∨ T = "str" ∨ T = "dict" := by
  have h := List.contains_iff_mem.mp h
  unfold isiNames at h
  simpa only [List.mem_cons, List.not_mem_nil, or_false] using h
theorem isi_boot {T : Str} (h : isiNames.contains T = true) : ∃ f, bootBuiltins T = some f ∧ (T == ("__debug__" : Str)) = false ∧ T ∈ btNames := by
  rcases isi_names h with rfl | rfl | rfl | rfl | rfl
  · exact ⟨_, boot_int, by decide, by decide⟩
  · exact ⟨_, boot_bool, by decide, by decide⟩
  · exact ⟨_, boot_tuple, by decide, by decide⟩
  · exact ⟨_, boot_str, by decide, by decide⟩
  · exact ⟨_, boot_dict, by decide, by decide⟩
section
variable {prog : Program} {w : World} {A : Around} {E : Value → Shared → Prop} {Q : Value → Shared → Prop} {T : Str} {f : Value}
theorem isi_int {i : Int} {t : Tok} (h : isiNames.contains T = true) (hf : bootBuiltins T = some f) (fin : ∀ n, Q (.bool (decide (T = "int"))) { s with toks := n }) : wpAny (model prog w) A (call (.builtin "isinstance") [.int i t, f]) Q E s := by
  rcases isi_names h with rfl | rfl | rfl | rfl | rfl
  · rw [← Option.some.inj (boot_int.symm.trans hf)]; exact IsiPair.int_int (fin s.toks)
  · rw [← Option.some.inj (boot_bool.symm.trans hf)]; exact IsiPair.int_bool (fin _)
  · rw [← Option.some.inj (boot_tuple.symm.trans hf)]; exact IsiPair.int_tuple (fin _)
  · rw [← Option.some.inj (boot_str.symm.trans hf)]; exact IsiPair.int_str (fin _)
  · rw [← Option.some.inj (boot_dict.symm.trans hf)]; exact IsiPair.int_dict (fin _)
theorem isi_str {x : Str} {t : Tok} (h : isiNames.contains T = true) (hf : bootBuiltins T = some f) (fin : ∀ n, Q (.bool (decide (T = "str"))) { s with toks := n }) : wpAny (model prog w) A (call (.builtin "isinstance") [.str x t, f]) Q E s := by
  rcases isi_names h with rfl | rfl | rfl | rfl | rfl
  · rw [← Option.some.inj (boot_int.symm.trans hf)]; exact IsiPair.str_int (fin _)
  · rw [← Option.some.inj (boot_bool.symm.trans hf)]; exact IsiPair.str_bool (fin _)
  · rw [← Option.some.inj (boot_tuple.symm.trans hf)]; exact IsiPair.str_tuple (fin _)
  · rw [← Option.some.inj (boot_str.symm.trans hf)]; exact IsiPair.str_str (fin s.toks)
  · rw [← Option.some.inj (boot_dict.symm.trans hf)]; exact IsiPair.str_dict (fin _)
theorem isi_tuple {a : Addr} {o : Obj} (ho : s.heap.get? a = some o) (hc : o.cls = .type "tuple") (h : isiNames.contains T = true) (hf : bootBuiltins T = some f) (fin : ∀ n, Q (.bool (decide (T = "tuple"))) { s with toks := n }) : wpAny (model prog w) A (call (.builtin "isinstance") [.ref a, f]) Q E s := by
  rcases isi_names h with rfl | rfl | rfl | rfl | rfl
  · rw [← Option.some.inj (boot_int.symm.trans hf)]; exact IsiPair.tuple_int ho hc (fin _)
  · rw [← Option.some.inj (boot_bool.symm.trans hf)]; exact IsiPair.tuple_bool ho hc (fin _)
  · rw [← Option.some.inj (boot_tuple.symm.trans hf)]; exact IsiPair.tuple_tuple ho hc (fin s.toks)
  · rw [← Option.some.inj (boot_str.symm.trans hf)]; exact IsiPair.tuple_str ho hc (fin _)
  · rw [← Option.some.inj (boot_dict.symm.trans hf)]; exact IsiPair.tuple_dict ho hc (fin _)
theorem isi_dict {a : Addr} {o : Obj} (ho : s.heap.get? a = some o) (hc : o.cls = .type "dict") (h : isiNames.contains T = true) (hf : bootBuiltins T = some f) (fin : ∀ n, Q (.bool (decide (T = "dict"))) { s with toks := n }) : wpAny (model prog w) A (call (.builtin "isinstance") [.ref a, f]) Q E s := by
  rcases isi_names h with rfl | rfl | rfl | rfl | rfl
  · rw [← Option.some.inj (boot_int.symm.trans hf)]; exact IsiPair.dict_int ho hc (fin _)
  · rw [← Option.some.inj (boot_bool.symm.trans hf)]; exact IsiPair.dict_bool ho hc (fin _)
  · rw [← Option.some.inj (boot_tuple.symm.trans hf)]; exact IsiPair.dict_tuple ho hc (fin _)
  · rw [← Option.some.inj (boot_str.symm.trans hf)]; exact IsiPair.dict_str ho hc (fin _)
  · rw [← Option.some.inj (boot_dict.symm.trans hf)]; exact IsiPair.dict_dict ho hc (fin s.toks)
end
theorem RdV.dct (S : St c lo W m cv s) {p : PV} {mo : MO} {u : Value} (r : RdV W u p) (hp : p = mo.pv) (hm : ∀ l, mo ≠ .lst l) : ∃ a o, u = .ref a ∧ s.heap.get? a = some o ∧ o.cls = .type "dict" := by
  obtain ⟨a, fo, e, ha, hr⟩ := r.obj' hp
  obtain ⟨o, ho, hi⟩ := S.stands _ ha
  cases hr with
  | lst _ => exact absurd rfl (hm _)
  | dcti _ => exact ⟨a, o, e, ho, hi.1.1⟩
  | dcts _ => exact ⟨a, o, e, ho, hi.1.1⟩
  | dctt _ _ => exact ⟨a, o, e, ho, hi.1.1⟩
theorem isInst_call (S : St c lo W m cv s) {T k : Str} {p : PV} {u f : Value} (r1 : RdV W u p) (ht : tyP p = some k) (h : isiNames.contains T = true) (hf : bootBuiltins T = some f) :
    wpAny c.M c.A (call (.builtin "isinstance") [u, f]) (Post c lo m cv W.F (RelL c (.pv (.bool (decide (T = k)))))) No s := by
  have fin : ∀ n, Post c lo m cv W.F (RelL c (.pv (.bool (decide (T = k))))) (.bool (decide (T = k))) { s with toks := n } := fun n => Post.pv S (Sub.refl _) (.bool _) n
  have dd : ∀ {mo : MO}, (∀ l, mo ≠ .lst l) → p = mo.pv → ("dict" : Str) = k → wpAny c.M c.A (call (.builtin "isinstance") [u, f]) (Post c lo m cv W.F (RelL c (.pv (.bool (decide (T = k)))))) No s := by
    intro mo hm hp hk
    obtain ⟨a, o, e, ho, hc⟩ := r1.dct S hp hm
    rw [← hk] at fin ⊢
    rw [e]; exact isi_dict ho hc h hf fin
  cases p with
  | int i =>
    obtain ⟨t, e⟩ := (r1.val rfl).toInt
    rw [← Option.some.inj ht] at fin ⊢
    rw [e]; exact isi_int h hf fin
  | str x =>
    obtain ⟨t, e⟩ := (r1.val rfl).toStr
    rw [← Option.some.inj ht] at fin ⊢
    rw [e]; exact isi_str h hf fin
  | tup l =>
    obtain ⟨e, ha, _⟩ := (r1.val rfl).toTup
    obtain ⟨n, hn⟩ := isTuple_of S.standsF ha
    rw [← Option.some.inj ht] at fin ⊢
    rw [e]; exact isi_tuple hn rfl h hf fin
  | dcti a b => exact dd (mo := .dcti a b) (fun l e => nomatch e) rfl (Option.some.inj ht)
  | dcts a b => exact dd (mo := .dcts a b) (fun l e => nomatch e) rfl (Option.some.inj ht)
  | dctt a b => exact dd (mo := .dctt a b) (fun l e => nomatch e) rfl (Option.some.inj ht)
  | _ => cases ht
theorem isInst_ok (S : St c lo W m cv s) {T : Str} {p : PV} {b : Bool} {u : Value} (r1 : RdV W u p) (e : isInst T p = some b) :
    ∃ f, bootBuiltins T = some f ∧ (T == ("__debug__" : Str)) = false ∧ T ∈ btNames ∧
      wpAny c.M c.A (call (.builtin "isinstance") [u, f]) (Post c lo m cv W.F (RelL c (.pv (.bool b)))) No s := by
  obtain ⟨k, hk, e⟩ := ob e
  obtain ⟨h, e⟩ := ite_some e
  obtain ⟨f, h1, h2, h3⟩ := isi_boot h
  exact ⟨f, h1, h2, h3, Option.some.inj e ▸ isInst_call S r1 hk h h1⟩

theorem Isi_ok (H : SoundE tp n r) (Gd : Good tp c n) (S : St c lo W m cv s) (fp : Pos) (args : List Expr) (p : Pos) (hg : isGlob c.sc "isinstance" = true) (hs : args.any Ev.isStar = false) :
    At c m cv W.F (r.isInstE c.sc args lo) (Go c (eval (.Call (.Name "isinstance" fp) args [] p) c.env)) s (RelL c) := by
  refine hd1_or (P := EOk c m cv lo W s _) (fun a l e1 => one_or (P := EOk c m cv lo W s _) (fun b e2 => xName_or (P := EOk c m cv lo W s _) (fun T tp e3 => ite_or (P := EOk c m cv lo W s _) (fun hT => ?_) fun _ => EOk.bad) fun _ => EOk.bad) EOk.bad) EOk.bad
  rw [e2, e3] at e1
  rw [e1] at hs ⊢
  have hs1 : Ev.isStar a = false := by simp only [List.any_cons, Bool.or_eq_false_iff] at hs; exact hs.1
  refine At.map ?_ fun Q E h => call_name (bt_name Gd S hg (by simp) boot_isinstance (by decide) (callWith_machine (by simp) hs (two_items hs1 rfl h)))
  refine (rdE_ok H Gd S a).seq (G := fun u Q E s₁ => wpAny c.M c.A (eval (.Name T tp) c.env) (fun f s₂ => wpAny c.M c.A (call (.builtin "isinstance") ([] ++ [u, f])) Q E s₂) E s₁) fun x lo₁ u s₁ W₁ S₁ h₁ r₁ => ?_
  refine val_then S₁ r₁ fun q rq => ?_
  intro hne
  cases hi : isInst T q with
  | none => rw [hi] at hne; exact (hne rfl).elim
  | some b =>
    obtain ⟨f, f1, f2, f3, f4⟩ := isInst_ok S₁ rq hi
    refine bt_name Gd S₁ hT f3 f1 f2 (wpAny_mono f4 (fun _ _ q => q.sub h₁) fun _ _ e => e.elim)
end
end Mine
namespace Mine
open PySem PyProof.Rows PySem.W PySem.SeqAt
open AutoSeq1 (wpAny_loadPart')
open MeetsSeq MeetsSeq2 MeetsSeq3

theorem remove_loopA (l : Addr) (items : Array Value) (n : Nat) (x : Value) (j : Nat) (hj : j < items.size) (k : Nat) (hs1 : items.size ≤ sizeLine) :
    ∀ i : Nat, j - i = k → i ≤ j → Meets (Builtin.«list.remove.loop» ⟨[.ref l, x, rawInt i], []⟩)
      (fun A R s => s.heap.get? l = some { cls := .type "list", dict := none, data := .seq items n, slots := #[] } ∧ (∀ m (hm : m < items.size), m < j → EqAt A.in1 s items[m] x false) ∧ EqAt A.in1 s items[j] x true ∧
        R (.ok (.ret .none)) { s with heap := s.heap.update l (Obj.mapSeq fun xs => xs.eraseIdxIfInBounds j) }) := by
  induction k with
  | zero =>
    intro i hk hij prog w A R s h
    obtain ⟨hp, g, d, tk, os⟩ := s; obtain ⟨hl, hno, hit, h⟩ := h
    have hij' : i = j := by omega
    subst hij'
    wp_walk using wpAny_loadPart' hl
    have hi : items[((i : Nat) : Int).toNat]? = some items[i] := by simp [hj]
    rw [hi]
    refine wpAny_bind (hit prog w _ _ ?_)
    have hz' : (items.eraseIdxIfInBounds i).size ≤ sizeLine + 1 := Nat.le_trans (size_erased items _) (Nat.le_succ_of_le hs1)
    wp_walk using (wpAny_updateSeq hl rfl (hz := hs1) (_hz' := hz')), wpAny_loadPart' hl
    simpa using h
  | succ k ih =>
    intro i hk hij prog w A R s h
    obtain ⟨hp, g, d, tk, os⟩ := s; obtain ⟨hl, hno, hit, h⟩ := h
    have hlt : i < items.size := by omega
    wp_walk using wpAny_loadPart' hl
    have hi : items[((i : Nat) : Int).toNat]? = some items[i] := by simp [hlt]
    have hc : ((i : Int) + 1) = ((i + 1 : Nat) : Int) := by push_cast; rfl
    rw [hi]
    refine wpAny_bind (hno i hlt (by omega) prog w _ _ ?_)
    wp_walk
    rw [hc]
    exact ⟨plainId_quiet plain_remove_loop _, codeAny_builtin entry_remove_loop (by
      rw [Around.under_plainId plain_remove_loop _]
      exact ih (i + 1) (by omega) (by omega) prog w A R _ ⟨hl, hno, hit, h⟩)⟩

theorem list_removeA (l : Addr) (items : Array Value) (n : Nat) (x : Value) (j : Nat) (hj : j < items.size) (hs1 : items.size ≤ sizeLine) :
    Meets (Builtin.«list.remove» ⟨[.ref l, x], []⟩)
      (fun A R s => s.heap.get? l = some { cls := .type "list", dict := none, data := .seq items n, slots := #[] } ∧ (∀ m (hm : m < items.size), m < j → EqAt A.in1 s items[m] x false) ∧ EqAt A.in1 s items[j] x true ∧
        R (.ok (.ret .none)) { s with heap := s.heap.update l (Obj.mapSeq fun xs => xs.eraseIdxIfInBounds j) }) := by
  intro prog w A R s h
  obtain ⟨hp, g, d, tk, os⟩ := s; obtain ⟨hl, h⟩ := h
  wp_walk using wpAny_loadPart' hl
  exact ⟨plainId_quiet plain_remove_loop _, codeAny_builtin entry_remove_loop (by
    rw [Around.under_plainId plain_remove_loop _]
    exact remove_loopA l items n x j hj _ hs1 0 rfl (Nat.zero_le _) prog w A R _ ⟨hl, h⟩)⟩

section
variable {tp : TopP} {c : Cx} {m : Str → Option Value} {cv : Addr → Option Value} {lo : Lo} {W : Wd} {s : Shared} {n : Nat} {r : Ev}

/-- a list of its own turns -/
theorem St.turnL (S : St c lo W m cv s) {x : Str} {l l' : List PV} {a : Addr} {vs vs' : List Value} {k : Nat} {f : Array Value → Array Value} (e : getLo lo x = some (.own (.lst l))) (hu : Held c m cv x (.ref a)) (ha : (a, FO.lst vs) ∈ W.O)
    (hg : s.heap.get? a = some { cls := .type "list", dict := none, data := .seq vs.toArray k, slots := #[] }) (hf : f vs.toArray = vs'.toArray) (hr : VReps W.F vs' l') (t : Nat) :
    St c (setLo lo x (.own (.lst l'))) ⟨W.F, repl W.O a (.lst vs')⟩ m cv { s with heap := s.heap.update a (Obj.mapSeq f), toks := t } := by
  refine ⟨S.gens, S.os, S.inv.turn e hu ha (.lst hr) ⟨_, Heap.get?_update_self _ hg rfl, ?_⟩ fun b o hb ho => (Heap.get?_update_other _ _ (Ne.symm hb)).trans ho⟩
  refine ⟨if (f vs.toArray).size == vs.toArray.size then k else k + 1, ?_⟩
  rw [← hf]
  rfl

theorem Post.turn (S : St c lo W m cv s) {x : Str} {l l' : List PV} {a : Addr} {vs vs' : List Value} {k : Nat} {f : Array Value → Array Value} (e : getLo lo x = some (.own (.lst l))) (hu : Held c m cv x (.ref a)) (ha : (a, FO.lst vs) ∈ W.O)
    (hg : s.heap.get? a = some { cls := .type "list", dict := none, data := .seq vs.toArray k, slots := #[] }) (hf : f vs.toArray = vs'.toArray) (hr : VReps W.F vs' l') (t : Nat) {p : PV} {v : Value} (hv : VRep W.F v p) :
    Post c (setLo lo x (.own (.lst l'))) m cv W.F (RelL c (.pv p)) v { s with heap := s.heap.update a (Obj.mapSeq f), toks := t } :=
  ⟨⟨W.F, repl W.O a (.lst vs')⟩, Sub.refl _, S.turnL e hu ha hg hf hr t, .pv hv⟩

theorem rem_go {F : Led} {A : Around} {u : Value} {p : PV} {l : List PV} (he : ∀ v q b, VRep F v q → eqD q p = some b → EqAt A s v u b) : ∀ {l' : List PV} {vs : List Value}, Ev.lmeth.go p l = some l' → VReps F vs l →
    ∃ j, ∃ h : j < vs.length, (∀ i (hi : i < vs.length), i < j → EqAt A s vs[i] u false) ∧ EqAt A s vs[j] u true ∧ VReps F (vs.eraseIdx j) l' := by
  induction l with
  | nil => intro l' vs h; cases h
  | cons a l ih =>
    intro l' vs h hv
    cases hv with
    | @cons v _ vs _ h1 h2 =>
      have h : (match eqD a p with | some true => some l | some false => (Ev.lmeth.go p l).map (a :: ·) | none => none) = some l' := h
      cases e : eqD a p with
      | none => rw [e] at h; cases h
      | some b =>
        rw [e] at h
        cases b with
        | true =>
          cases h
          exact ⟨0, by simp, fun i hi h => absurd h (Nat.not_lt_zero _), he v a true h1 e, by simpa using h2⟩
        | false =>
          obtain ⟨l'', hl, e'⟩ := Option.map_eq_some_iff.mp h
          obtain ⟨j, hj, g1, g2, g3⟩ := ih hl h2
          refine ⟨j + 1, by simpa using hj, fun i hi hij => ?_, by simpa using g2, by simpa [← e'] using VReps.cons h1 g3⟩
          cases i with
          | zero => simpa using he v a false h1 e
          | succ i => simpa using g1 i (by simpa using hi) (by omega)

noncomputable def mid (mth : Str) : String := if mth = "append" then "list.append" else if mth = "pop" then "list.pop" else if mth = "insert" then "list.insert" else if mth = "reverse" then "list.reverse" else "list.remove"
theorem mid_slot {mth : Str} (h : Ev.meths.contains mth = true) : Slot "list" mth (mid mth) ∧ typeOf (.builtin (mid mth)) = pure (.type "method_descriptor") := by
  unfold Ev.meths at h
  have h := List.contains_iff_mem.mp h
  simp only [List.mem_cons, List.not_mem_nil, or_false] at h
  rcases h with rfl | rfl | rfl | rfl | rfl
  · exact ⟨PySem.F.slot_list_append, PySem.F.type_list_append⟩
  · exact ⟨PySem.F.slot_list_pop, PySem.F.type_list_pop⟩
  · exact ⟨PySem.F.slot_list_insert, PySem.F.type_list_insert⟩
  · exact ⟨PySem.F.slot_list_reverse, PySem.F.type_list_reverse⟩
  · exact ⟨PySem.F.slot_list_remove, PySem.F.type_list_remove⟩
section
variable {x : Str} {l l' ps : List PV} {p : PV} {a : Addr} {vs us : List Value}
/-- what a method's call is to show -/
noncomputable def MethOk (c : Cx) (m : Str → Option Value) (cv : Addr → Option Value) (lo : Lo) (W : Wd) (s : Shared) (x : Str) (mth : String) (a : Addr) (us : List Value) (l' : List PV) (p : PV) : Prop :=
  wpAny c.M c.A (call (.builtin mth) ([.ref a] ++ us)) (Post c (setLo lo x (.own (.lst l'))) m cv W.F (RelL c (.pv p))) No s
structure MethAt (c : Cx) (m : Str → Option Value) (cv : Addr → Option Value) (lo : Lo) (W : Wd) (s : Shared) (x : Str) (l : List PV) (a : Addr) (vs : List Value) (k : Nat) : Prop where
  st : St c lo W m cv s
  e : getLo lo x = some (.own (.lst l))
  hu : Held c m cv x (.ref a)
  ha : (a, FO.lst vs) ∈ W.O
  hr : VReps W.F vs l
  ho : s.heap.get? a = some { cls := .type "list", dict := none, data := .seq vs.toArray k, slots := #[] }
  hz : vs.toArray.size ≤ sizeLine
theorem MethAt.ty {k : Nat} (M : MethAt c m cv lo W s x l a vs k) : s.TypeIs (.ref a) "list" := ⟨_, M.ho, rfl⟩
theorem MethAt.post {k : Nat} (M : MethAt c m cv lo W s x l a vs k) {vs' : List Value} {l' : List PV} {f : Array Value → Array Value} (hf : f vs.toArray = vs'.toArray) (hr : VReps W.F vs' l') (t : Nat) {p : PV} {v : Value} (hv : VRep W.F v p) :
    Post c (setLo lo x (.own (.lst l'))) m cv W.F (RelL c (.pv p)) v { s with heap := s.heap.update a (Obj.mapSeq f), toks := t } := Post.turn M.st M.e M.hu M.ha M.ho hf hr t hv
theorem m_append {k : Nat} (M : MethAt c m cv lo W s x l a vs k) {u : Value} {q : PV} (h1 : VRep W.F u q) : MethOk c m cv lo W s x "list.append" a [u] (l ++ [q]) .none :=
  call_meets PySem.F.slot_list_append M.ty PySem.F.entry_list_append (PySem.F.args_list_append_2 _ _) (PySem.list_append a vs.toArray k _ M.hz) ⟨M.ho, M.post (vs' := vs ++ [u]) (by simp) (M.hr.append (.one h1)) _ .none⟩
theorem m_pop {k : Nat} (M : MethAt c m cv lo W s x l a vs k) (hq : l.getLast? = some p) : MethOk c m cv lo W s x "list.pop" a [] l.dropLast p := by
  have hlen := M.hr.length
  have hpos : 0 < l.length := List.length_pos_iff.mpr fun e => by rw [e] at hq; cases hq
  obtain ⟨v, hv, rv⟩ := M.hr.get (show l[l.length - 1]? = some p by rw [← List.getLast?_eq_getElem?]; exact hq)
  rw [← hlen] at hv
  refine call_meets PySem.F.slot_list_pop M.ty PySem.F.entry_list_pop (PySem.F.args_list_pop_1 _) (MeetsSeq.list_pop_last a vs.toArray k v (by simpa using hv) M.hz) ⟨M.ho, M.post (vs' := vs.dropLast) ?_ ?_ s.toks rv⟩
  · simp [List.dropLast_eq_take, List.eraseIdx_eq_take_drop_succ, hlen]
    omega
  · rw [List.dropLast_eq_take, List.dropLast_eq_take, hlen]; exact M.hr.take _
theorem m_insert {k : Nat} (M : MethAt c m cv lo W s x l a vs k) {i : Int} {t : Tok} {u : Value} {q : PV} (hi : 0 ≤ i ∧ i ≤ l.length) (hl : l.length < 2 ^ 20) (h2 : VRep W.F u q) : MethOk c m cv lo W s x "list.insert" a [.int i t, u] (l.take i.toNat ++ q :: l.drop i.toNat) .none := by
  have hfit : Builtin.List.listFitsIndex i = true := fitsIndex_of hi.1 (by omega)
  refine call_meets PySem.F.slot_list_insert M.ty PySem.F.entry_list_insert (PySem.F.args_list_insert_3 _ _ _) (PySem.AutoListH.list_insert_list_int_val_1 a vs.toArray k i t _ (by rw [hfit]; decide) M.hz)
    ⟨M.ho, M.post (vs' := vs.take i.toNat ++ u :: vs.drop i.toNat) ?_ ((M.hr.take _).append (.cons h2 (M.hr.drop _))) _ .none⟩
  have h0 : ¬ i < 0 := by omega
  have h1 : min i.toNat vs.toArray.size = i.toNat := by rw [List.size_toArray, M.hr.length]; omega
  simp only [h0, if_false, h1]
  apply Array.ext'
  simp
  exact List.take_of_length_le (by rw [List.length_drop]; omega)
theorem m_reverse {k : Nat} (M : MethAt c m cv lo W s x l a vs k) : MethOk c m cv lo W s x "list.reverse" a [] l.reverse .none :=
  call_meets PySem.F.slot_list_reverse M.ty PySem.F.entry_list_reverse (PySem.F.args_list_reverse_1 _) (PySem.AutoListH.list_reverse_list_0 a vs.toArray k M.hz) ⟨M.ho, M.post (vs' := vs.reverse) (by simp) M.hr.reverse _ .none⟩
theorem m_remove (Gd : Good tp c n) {k : Nat} (M : MethAt c m cv lo W s x l a vs k) {u : Value} {q : PV} (hl : Ev.lmeth.go q l = some l') (h1 : VRep W.F u q) : MethOk c m cv lo W s x "list.remove" a [u] l' .none := by
  obtain ⟨j, hj, g1, g2, g3⟩ := rem_go (s := s) (A := c.A.in1) (u := u) (fun v q b h3 h4 => eqv_at M.st.standsF M.st.inv.mods (by have := Gd.units; simp only [Around.in1_units]; omega) h3 h1 h4) hl M.hr
  refine call_meets PySem.F.slot_list_remove M.ty PySem.F.entry_list_remove (PySem.F.args_list_remove_2 _ _) (list_removeA a vs.toArray k _ j (by simpa using hj) M.hz) ⟨M.ho, ?_, ?_, M.post (vs' := vs.eraseIdx j) ?_ g3 s.toks .none⟩
  · intro i hi hij; simpa using g1 i (by simpa using hi) hij
  · simpa using g2
  · simp [hj]
theorem vreps0 {F : Led} {us : List Value} (h : VReps F us []) : us = [] := by cases h; rfl
theorem vreps1 {F : Led} {us : List Value} {p : PV} (h : VReps F us [p]) : ∃ u, us = [u] ∧ VRep F u p := by cases h with | cons h t => rw [vreps0 t]; exact ⟨_, rfl, h⟩
theorem vreps2 {F : Led} {us : List Value} {p q : PV} (h : VReps F us [p, q]) : ∃ u v, us = [u, v] ∧ VRep F u p ∧ VRep F v q := by
  cases h with | cons h t =>
  obtain ⟨v, e, h2⟩ := vreps1 t
  rw [e]; exact ⟨_, _, rfl, h, h2⟩
theorem lmeth_ok (Gd : Good tp c n) (S : St c lo W m cv s) {mth : Str} (e : getLo lo x = some (.own (.lst l))) (hu : Held c m cv x (.ref a)) (ha : (a, FO.lst vs) ∈ W.O) (hr : VReps W.F vs l)
    (hps : VReps W.F us ps) (h : Ev.lmeth mth l ps = some (p, l')) : MethOk c m cv lo W s x (mid mth) a us l' p := by
  obtain ⟨o, ho, k, e0⟩ := S.inv.own _ ha
  unfold Ev.lmeth at h
  by_cases hsz : 2 ^ 20 ≤ l.length
  · rw [if_pos hsz] at h; cases h
  rw [if_neg hsz] at h
  have M : MethAt c m cv lo W s x l a vs k := ⟨S, e, hu, ha, hr, e0 ▸ ho, by rw [sizeLine_eq, List.size_toArray, hr.length]; omega⟩
  by_cases hm : mth = "append"
  · rw [if_pos hm] at h
    rcases ps with _ | ⟨q, _ | _⟩
    · cases h
    · obtain ⟨u, e1, h1⟩ := vreps1 hps
      cases h
      rw [hm, e1]; exact m_append M h1
    · cases h
  rw [if_neg hm] at h
  clear hm
  by_cases hm : mth = "pop"
  · rw [if_pos hm] at h
    cases ps with
    | nil =>
      cases hq : l.getLast? with
      | none => rw [hq] at h; cases h
      | some q =>
        rw [hq] at h
        cases h
        rw [hm, vreps0 hps]; exact m_pop M hq
    | cons => cases h
  rw [if_neg hm] at h
  clear hm
  by_cases hm : mth = "insert"
  · rw [if_pos hm] at h
    rcases ps with _ | ⟨i, r⟩
    · cases h
    · cases i with
      | int i =>
        rcases r with _ | ⟨q, _ | _⟩
        · cases h
        · obtain ⟨hi, h⟩ := ite_some (show (if 0 ≤ i ∧ i ≤ l.length then _ else none) = some _ from h)
          obtain ⟨u, v, e1, h1, h2⟩ := vreps2 hps
          obtain ⟨t, e2⟩ := h1.toInt
          cases h
          rw [hm, e1, e2]; exact m_insert M hi (by omega) h2
        · cases h
      | _ => cases h
  rw [if_neg hm] at h
  clear hm
  by_cases hm : mth = "reverse"
  · rw [if_pos hm] at h
    cases ps with
    | nil => cases h; rw [hm, vreps0 hps]; exact m_reverse M
    | cons => cases h
  rw [if_neg hm] at h
  clear hm
  by_cases hm : mth = "remove"
  · rw [if_pos hm] at h
    rcases ps with _ | ⟨q, _ | _⟩
    · cases h
    · obtain ⟨l'', hl, e'⟩ := Option.map_eq_some_iff.mp h
      obtain ⟨u, e1, h1⟩ := vreps1 hps
      cases e'
      rw [hm, e1]; exact m_remove Gd M hl h1
    · cases h
  rw [if_neg hm] at h
  cases h
end

theorem attrBase_name {x : Str} {px : Pos} {mth : Str} {env : Env} (t : Sem Value) : attributeBase (.Name x px) mth env t = t := by rfl

theorem few_ok {env : Env} {args : List Expr} {p : Pos} (hs : args.any Ev.isStar = false) (hl : args.length < 10) :
    ((backTo p (starEach args env)).all (fun x => !x.1) && (backToKw p (keywordEach [] env)).all (fun x => x.1.isSome) && decide (args.length + ([] : List Keyword).length + (if ([] : List Keyword).isEmpty then 0 else 1) < 30)) = true := by
  have h1 : (backTo p (starEach args env)).all (fun x => !x.1) = true := by
    have := trees_plain (env := env) (p := p) hs
    rw [List.any_eq_false] at this
    rw [List.all_eq_true]
    intro x hx
    have := this x hx
    simpa using this
  rw [h1]
  simp only [List.length_nil, List.isEmpty_nil, if_true, Nat.add_zero, Bool.true_and, Bool.and_eq_true, decide_eq_true_eq]
  exact ⟨rfl, by omega⟩

theorem ownFirst_own {α : Type} {x : Str} {t : R α} {lo : Lo} (h : Ev.ownFirst x t lo = .fail → False) : ∃ l, getLo lo x = some (.own (.lst l)) ∧ Ev.ownFirst x t lo = t lo := by
  unfold Ev.ownFirst at h ⊢
  revert h
  generalize getLo lo x = o
  intro h
  rcases o with _ | (_ | (_ | _ | _ | _))
  · exact (h rfl).elim
  · exact (h rfl).elim
  · exact ⟨_, rfl, rfl⟩
  · exact (h rfl).elim
  · exact (h rfl).elim
  · exact (h rfl).elim
theorem methGo_own {x mth : Str} {ps : List PV} {lo : Lo} (h : Ev.methGo x mth ps lo = .fail → False) : ∃ l p l', getLo lo x = some (.own (.lst l)) ∧ Ev.lmeth mth l ps = some (p, l') ∧ Ev.methGo x mth ps lo = .ok (.pv p) (setLo lo x (.own (.lst l'))) := by
  unfold Ev.methGo at h ⊢
  revert h
  generalize getLo lo x = o
  intro h
  rcases o with _ | (_ | (l | _ | _ | _))
  · exact (h rfl).elim
  · exact (h rfl).elim
  · revert h
    dsimp only
    generalize hm : Ev.lmeth mth l ps = o
    intro h
    rcases o with _ | ⟨p, l'⟩
    · exact (h rfl).elim
    · exact ⟨_, _, _, rfl, hm, rfl⟩
  · exact (h rfl).elim
  · exact (h rfl).elim
  · exact (h rfl).elim
theorem Meth_ok (H : SoundE tp n r) (Gd : Good tp c n) (S : St c lo W m cv s) (x : Str) (px : Pos) (mth : Str) (apos : Pos) (args : List Expr) (p : Pos) (hs : args.any Ev.isStar = false) (hl : args.length < 10) (hp : (apos.endLine == p.line) = true) :
    At c m cv W.F (r.methE c.sc x mth args lo) (Go c (eval (.Call (.Attribute (.Name x px) mth apos) args [] p) c.env)) s (RelL c) := by
  unfold Ev.methE
  by_cases hxm : isLocal c.sc x = true ∧ Ev.meths.contains mth = true
  · rw [if_pos hxm]
    obtain ⟨hx, hm⟩ := hxm
    obtain ⟨sl, ty⟩ := mid_slot hm
    intro hne
    obtain ⟨l, e, q⟩ := ownFirst_own hne
    rw [q] at hne ⊢
    obtain ⟨u, hu, _⟩ := S.inv.los x _ e
    obtain ⟨a, fo, ea, ha, hr⟩ := S.inv.own_at (fun _ _ _ h1 h2 => S.inv.fn h1 h2) e hu
    rw [ea] at hu
    cases hr with
    | lst hr =>
    obtain ⟨o, ho, k, eo⟩ := S.inv.own _ ha
    rw [eo] at ho
    refine wpAny_Call_method (attrBase_name _) (few_ok hs hl) hp PySem.F.plainAttrs_list sl ty (wpAny_Name (load_held Gd S hu (isLocal_ne hx).2 ⟨⟨_, ho, rfl⟩, fun b hb => ?_, ?_⟩) (isLocal_ne hx).1)
    · cases hb; exact ⟨_, ho, rfl⟩
    refine callWith_machine (by simp) hs ?_
    refine (evs_ok H Gd p args S).seq (G := fun us Q E s₁ => wpAny c.M c.A (call (.builtin (mid mth)) ([.ref a] ++ us)) Q E s₁) (fun ps lo₁ us s₁ W₁ S₁ h₁ r₁ => ?_) hne
    intro hne
    obtain ⟨l₁, q, l', e₁, hm, eq⟩ := methGo_own hne
    rw [eq]
    obtain ⟨a', fo', ea', ha', hr'⟩ := S₁.inv.own_at (fun _ _ _ h1 h2 => S₁.inv.fn h1 h2) e₁ hu
    rw [← Value.ref.inj ea'] at ha'
    cases hr' with
    | lst hr' =>
    exact wpAny_mono (lmeth_ok Gd S₁ e₁ hu ha' hr' r₁ hm) (fun _ _ q => q.sub h₁) fun _ _ e => e.elim
  · rw [if_neg hxm]; exact fun h => (h rfl).elim
end
end Mine
namespace Mine
open PySem PyProof.Rows PySem.W PySem.SeqAt

section
variable {prog : Program} {w : World} {A : Around} {E : Value → Shared → Prop} {s : Shared}
theorem DV.get {d : Addr} {key dflt : Value} {o : Option Value} (hu : A.units + 2 < cLine) (hd : (d == sysModules) = false) (h : DV prog w s.heap d key o) :
    wpAny (model prog w) A (call (.builtin "dict.get") [.ref d, key, dflt]) (Reads' s (o.getD dflt)) E s := by
  have hT := h.typeIs
  cases h with
  | val knd hm hk => exact call_meetsIn PySem.F.slot_dict_get hT PySem.F.entry_dict_get (PySem.F.args_dict_get_3 _ _ _) (meets_dict_get_default (hkey := hk) (hd := hd) (dflt := dflt)) ⟨_, hm, rfl, _, rfl⟩
  | tup hm hk =>
    exact call_meetsIn PySem.F.slot_dict_get hT PySem.F.entry_dict_get (PySem.F.args_dict_get_3 _ _ _) (meetsH_dict_get_default (tupleKind (intKind prog w)) d _ hd dflt) ⟨show A.units + 1 < cLine by omega, _, _, hk, hm, rfl, _, rfl⟩
end

section
variable {tp : TopP} {c : Cx} {m : Str → Option Value} {cv : Addr → Option Value} {lo : Lo} {W : Wd} {s : Shared} {n : Nat} {r : Ev}

theorem dct_obj (S : St c lo W m cv s) {u : Value} {p : PV} (r : RdV W u p) (h : Ev.isDct p = true) : ∃ a o, u = .ref a ∧ s.heap.get? a = some o ∧ o.cls = .type "dict" ∧ o.dict = none := by
  have key : ∀ {mo : MO}, p = mo.pv → (∀ l, mo ≠ .lst l) → ∃ a o, u = .ref a ∧ s.heap.get? a = some o ∧ o.cls = .type "dict" ∧ o.dict = none := by
    rintro mo rfl hm
    obtain ⟨a, fo, rfl, ha, hr⟩ := r.obj
    obtain ⟨o, ho, hi⟩ := S.stands _ ha
    cases hr with
    | lst _ => exact absurd rfl (hm _)
    | dcti _ => exact ⟨a, o, rfl, ho, hi.1.1, hi.1.2.1⟩
    | dcts _ => exact ⟨a, o, rfl, ho, hi.1.1, hi.1.2.1⟩
    | dctt _ _ => exact ⟨a, o, rfl, ho, hi.1.1, hi.1.2.1⟩
  cases p <;> first | cases h | skip
  · exact key (mo := .dcti _ _) rfl fun l e => by cases e
  · exact key (mo := .dcts _ _) rfl fun l e => by cases e
  · exact key (mo := .dctt _ _) rfl fun l e => by cases e

theorem Get_ok (H : SoundE tp n r) (Gd : Good tp c n) (S : St c lo W m cv s) (x : Str) (px apos : Pos) (args : List Expr) (p : Pos) (hs : args.any Ev.isStar = false) (hl : args.length < 10) (hp : (apos.endLine == p.line) = true) :
    At c m cv W.F (r.getE c.sc (.Name x px) args lo) (Go c (eval (.Call (.Attribute (.Name x px) "get" apos) args [] p) c.env)) s (RelL c) := by
  refine At.map ?_ fun Q E h => wpAny_Call_method (attrBase_name _) (few_ok hs hl) hp PySem.F.plainAttrs_dict PySem.F.slot_dict_get PySem.F.type_dict_get h
  refine (rdE_ok H Gd S (.Name x px)).seq (G := fun ov Q E s₁ => s₁.TypeIs ov "dict" ∧ (∀ a, ov = .ref a → ∃ ob, s₁.heap.get? a = some ob ∧ ob.dict = none) ∧ wpAny c.M c.A (callWith p (.builtin "dict.get") [ov] (backTo p (starEach args c.env)) []) Q E s₁) fun rd lo₁ u s₁ W₁ S₁ h₁ r₁ => ?_
  refine val_then S₁ r₁ fun p0 rp => ?_
  by_cases hd : Ev.isDct p0 = true
  · rw [if_pos hd]
    intro hne
    obtain ⟨a, o, rfl, ho, hc, hdn⟩ := dct_obj S₁ rp hd
    refine ⟨⟨o, ho, hc⟩, fun b hb => by cases hb; exact ⟨o, ho, hdn⟩, callWith_machine (by simp) hs ?_⟩
    refine (evs_ok H Gd p args S₁).seq (G := fun us Q E s₁ => wpAny c.M c.A (call (.builtin "dict.get") ([.ref a] ++ us)) Q E s₁) (fun ps lo₂ us s₂ W₂ S₂ h₂ r₂ => ?_) hne
    refine val_then S₂ (r₁.sub (h' := s₂.heap) h₂) fun q rq => At.lift fun v e => ?_
    unfold Ev.getGo at e
    split at e
    · rename_i k d
      obtain ⟨o', ho', rfl⟩ := Option.map_eq_some_iff.mp e
      cases r₂ with | cons g1 g2 =>
      cases g2 with | cons g2 g3 =>
      cases g3
      obtain ⟨mo, rfl⟩ := dget_obj ho'
      obtain ⟨a', fo, ea, ha, hr⟩ := rq.obj
      cases ea
      obtain ⟨oo, hv, hor⟩ := dv_of' S₂.stands W₂.subF ha hr (g1.mono W₂.subF) ho'
      refine wpAny_mono (hv.get (by have := Gd.units; omega) (beq_false_of_ne (S₂.gmods _ ha))) (fun b s' q => ?_) fun _ _ e => e
      obtain ⟨rfl, t, rfl⟩ := q
      refine Post.sub (h₁.trans h₂) (Post.pv S₂ (Sub.refl _) ?_ t)
      cases hor with
      | none => exact g2
      | some rv => exact rv
    · cases e
  · rw [if_neg hd]; exact fun h => (h rfl).elim
end
end Mine
namespace Mine
open PySem PyProof.Rows PySem.W PySem.SeqAt

theorem nolen_lri : typeLookup (.type "list_reverseiterator") "__len__" = pure none := by rw [typeLookup_type, builtinLookup_eq_fast]; kernel_rfl
theorem hint_lri : typeLookup (.type "list_reverseiterator") "__length_hint__" = pure (some (.builtin "list_reverseiterator.__length_hint__")) := by rw [typeLookup_type, builtinLookup_eq_fast]; kernel_rfl

section
variable {prog : Program} {w : World} {A : Around} {E : Value → Shared → Prop} {s : Shared} {I : Addr} {fp wr : List Addr} {G : Array GenState → Array GenState → Prop} {n : Nat} {P : Nat → Value → Prop} {St : Nat → Shared → Prop}

theorem collect_rev {Q : List Value → Shared → Prop}
    (W : WalksS prog w A.in1 I fp wr G n P St) (hT : ∀ i s, St i s → s.TypeIs (.ref I) "list_reverseiterator") (hst : St 0 s) (hfp : ∀ b ∈ fp, b < s.heap.objs.size) (hI : I ∈ fp)
    (hQ : ∀ s' acc, Moved wr G s s' → ItemsOf P acc n → Q acc.toList s') (hn : n ≤ sizeLine) : wpAny (model prog w) A (collect (.ref I)) Q E s := by
  have hSf : s.heap.objs.size ∉ fp := fun hm => Nat.lt_irrefl _ (hfp _ hm)
  have hSI : s.heap.objs.size ≠ I := fun e => hSf (e ▸ hI)
  unfold collect
  refine wpAny_bind (wpAny_runValue (codeAny_builtin F.entry_proto_collect ?_))
  rw [Around.under_plainId F.plain_proto_collect _]
  show wpAny _ A.in1 (newList [] >>= fun l => again (.builtin "list.__iadd__" ⟨[l, .ref I], []⟩)) _ _ s
  refine wpAny_bind (wpAny_newObj_type ?_)
  refine wpAny_pure ⟨plainId_quiet F.plain_list_iadd _, codeAny_builtin F.entry_list_iadd ?_⟩
  rw [Around.under_plainId F.plain_list_iadd _]
  have hst₁ := W.frame 0 s (s.heap.push { cls := .type "list", data := .seq ([] : List Value).toArray }) s.toks hst (Nat.le_refl _) fun b _ o e => Heap.get?_push_of_some _ e
  have hS₁ : (s.heap.push { cls := .type "list", data := .seq ([] : List Value).toArray }).get? s.heap.objs.size = some { cls := .type "list", data := .seq ([] : List Value).toArray } := Heap.get?_push_size _ rfl
  have h1 : Builtin.List.listSameRef (.ref s.heap.objs.size) (.ref I) = false := by simp [Builtin.List.listSameRef, hSI]
  show wpAny _ A.in1 (Builtin.List.listExtendWith (.ref s.heap.objs.size) (.ref I) (.ref s.heap.objs.size)) _ _ _
  unfold Builtin.List.listExtendWith
  refine wpAny_bind (wpAny_typeOf (hT 0 _ hst₁) ?_)
  rw [if_neg (by rw [h1]; decide)]
  refine wpAny_bind (W.self 0 _ _ _ hst₁ ?_)
  refine wpAny_bind (wpAny_holding ?_)
  unfold Builtin.List.listLengthHint
  refine wpAny_bind (wpAny_specialOf (hT 0 _ hst₁) nolen_lri ?_)
  show wpAny _ A.in1 (specialOf (Value.ref I) (Str.ofString "__length_hint__") >>= _) _ _ _
  refine wpAny_bind (wpAny_specialOf (hT 0 _ hst₁) hint_lri ?_)
  generalize hid : ("list_reverseiterator.__length_hint__" : String) = id0
  wp_delta
  rw [show splitId id0 = some ("list_reverseiterator", "__length_hint__") from by subst hid; decide +kernel]
  subst hid
  refine wpAny_bind (wpAny_isInstance (b := true) (hT 0 _ hst₁) (by rw [isSubtype_type]; kernel_rfl) ?_)
  refine wpAny_pure ?_
  rw [if_neg (by decide)]
  refine wpAny_pure ⟨plainId_quiet F.plain_extend_loop _, codeAny_extend_loopS W hn _ hSf _ n 0 _ _ _ rfl (Nat.zero_le _) hst₁ hS₁ (ItemsOf.nil P) fun s' acc' c' hm hS' hacc => ?_⟩
  show wpAny _ A (load s.heap.objs.size >>= _) _ _ s'
  refine wpAny_bind (wpAny_load hS' ?_)
  exact wpAny_pure (hQ s' acc' (Moved.drop_new (o := { cls := .type "list", data := .seq ([] : List Value).toArray }) (tk := s.toks) hm (Nat.le_refl _)) hacc)

theorem join_rev {Q : Value → Shared → Prop} {x : Str} {t : Tok} (W : WalksS prog w A.in1.in1 I fp wr G n P St) (hT : ∀ i s, St i s → s.TypeIs (.ref I) "list_reverseiterator") (hst : St 0 s) (hfp : ∀ b ∈ fp, b < s.heap.objs.size) (hI : I ∈ fp)
    (hstr : ∀ i v, P i v → ∃ y u, v = Value.str y u)
    (hq : ∀ s' (l : List (Str × Tok)), Moved wr G s s' → ItemsOf P (strValues l).toArray n → JoinOk x (l.map (·.1)) = true ∧ ∀ t' k, Q (.str (Txt.join x (l.map (·.1))) t') { s' with toks := k })
    (hsz : n ≤ sizeLine) : wpAny (model prog w) A (call (.builtin "str.join") [.str x t, .ref I]) Q E s := by
  refine wpAny_call (codeAny_call_builtin F.slot_str_join.plain F.entry_str_join (F.slot_str_join.check _ _ _ _ _ _ _ _ (typeIs_str _ _ _) (F.args_str_join_2 _ _) ?_))
  rw [join_tree_other]
  refine wpAny_bind (wpAny_typeOf (hT 0 s hst) ?_)
  show wpAny _ A.in1 ((pyIter (.ref I)).tryCatch _ >>= fun it => collect it >>= fun items => joinTail x items) _ _ s
  refine wpAny_bind (wpAny_tryCatch (W.of_in1.self 0 s _ _ hst ?_))
  refine wpAny_bind (collect_rev W hT hst hfp hI (fun s' acc hm hacc => ?_) hsz)
  obtain ⟨l, hl⟩ := exists_strValues acc.toList fun v hv => by
    obtain ⟨j, hj, rfl⟩ := Array.mem_iff_getElem.mp (Array.mem_toList_iff.mp hv)
    exact hstr j _ (hacc.2 j _ (Array.getElem?_eq_getElem hj))
  rw [← hl]
  have hacc' : ItemsOf P (strValues l).toArray n := by rw [hl]; simpa using hacc
  obtain ⟨hok, hpost⟩ := hq s' l hm hacc'
  unfold JoinOk at hok
  rw [Bool.not_eq_true'] at hok
  have g : Gives (joinTail x (strValues l)) (joinMade x l) := by
    have g0 := gives_joinTail x l hok
    cases l with
    | nil => exact g0
    | cons p r => cases r with
      | nil => exact g0
      | cons q r' => exact g0
  exact g prog w A (wants Q E) s' (post_join l ⟨joinFit_length hok, hpost⟩)
end

noncomputable def vlen : Value → Nat
  | .str x _ => x.length
  | _ => 0
theorem joinLen_le {F : Led} {l : List PV} : ∀ {n : Nat} {vs : List Value}, joinLen l = some n → VReps F vs l → (vs.map vlen).sum ≤ n ∧ n < 2 ^ 19 ∧ ∀ v ∈ vs, ∃ y t, v = .str y t := by
  induction l with
  | nil =>
    intro n vs h r
    cases r
    rw [← Option.some.inj (show some 0 = some n from h)]
    exact ⟨Nat.le_refl _, by decide, fun v hv => nomatch hv⟩
  | cons p l ih =>
    intro n vs h r
    cases r with
    | cons h1 h2 =>
      have h : (match strLen p, joinLen l with | some m, some n => if m + n < 2 ^ 19 then some (m + n) else none | _, _ => none) = some n := h
      cases e1 : strLen p with
      | none => rw [e1] at h; cases h
      | some a =>
        cases e2 : joinLen l with
        | none => rw [e1, e2] at h; cases h
        | some b =>
          rw [e1, e2] at h
          obtain ⟨hlt, h⟩ := ite_some h
          obtain ⟨x, t, e, hx⟩ := strLen_rep e1 h1
          obtain ⟨i1, _, i3⟩ := ih e2 h2
          rw [← Option.some.inj h, e]
          refine ⟨?_, hlt, fun v hv => ?_⟩
          · rw [List.map_cons, List.sum_cons]; exact Nat.add_le_add hx i1
          · rcases List.mem_cons.mp hv with e | hv
            · exact ⟨x, t, e⟩
            · exact i3 v hv
theorem vlen_strs (l : List (Str × Tok)) : (strValues l).map vlen = (l.map (·.1)).map (·.length) := by
  unfold strValues
  rw [List.map_map, List.map_map]
  rfl

section
variable {tp : TopP} {c : Cx} {m : Str → Option Value} {cv : Addr → Option Value} {lo : Lo} {W : Wd} {s : Shared} {n : Nat} {r : Ev}

theorem join_ok (Gd : Good tp c n) (S : St c lo W m cv s) {p q : PV} {u : Value} {t : Tok} (r1 : VRep W.F u p) (e : joined p = some q) :
    wpAny c.M c.A (call (.type "reversed") [u]) (fun rv s' => wpAny c.M c.A (call (.builtin "str.join") [.str "" t, rv]) (Post c lo m cv W.F (RelL c (.pv q))) No s') No s := by
  unfold joined at e
  split at e
  · rename_i l
    split at e
    · rename_i hl
      obtain ⟨k, hk, rfl⟩ := Option.map_eq_some_iff.mp e
      cases r1 with
      | @lst a vs _ ha hr =>
      have hL := isList_of S.standsF ha
      have hLt : a < s.heap.objs.size := by obtain ⟨o, ho, _⟩ := hL; exact Heap.lt_size ho
      obtain ⟨j1, j2, j3⟩ := joinLen_le hk hr
      have hlen := hr.length
      refine call_reversed_list hL ?_
      have hne : a ≠ s.heap.objs.size := Nat.ne_of_lt hLt
      have hL' : (s.heap.push (revObj a ((vs.toArray.size : Int) - 1))).IsList a vs.toArray := let ⟨o, ho, r⟩ := hL; ⟨o, Heap.get?_push_of_some _ ho, r⟩
      have Wk := (Walks.listRev (prog := c.prog) (w := c.w) (A := c.A.in1.in1) (by show c.A.handled = none; exact Gd.handled) s.heap.objs.size a hne vs.toArray).toS
      refine join_rev Wk (fun i s st => st.2.1.typeIs) ⟨Nat.zero_le _, ⟨_, Heap.get?_push_size _ rfl, rfl, by simp [revObj]⟩, hL'⟩ (fun b hb => ?_) (by simp) (fun i v hv => ?_) (fun s' L hm hi => ?_) (by rw [sizeLine_eq, List.size_toArray]; omega)
      · rw [Heap.size_push]
        simp only [List.mem_cons, List.not_mem_nil, or_false] at hb
        rcases hb with e | e
        · rw [e]; exact Nat.lt_succ_self _
        · rw [e]; exact Nat.lt_succ_of_lt hLt
      · exact j3 v (by
          have := Array.mem_of_getElem? hv
          simpa using this)
      · have hrev : strValues L = vs.reverse := by
          apply List.ext_getElem?
          intro j
          obtain ⟨z, hz⟩ := hi
          have zl : (strValues L).length = vs.length := by simpa using z
          by_cases hj : j < vs.length
          · have := hz j _ (by rw [List.getElem?_toArray]; exact List.getElem?_eq_getElem (by omega))
            rw [List.getElem?_eq_getElem (by omega), List.getElem?_reverse hj, ← this]
            simp
            first | done | (congr 1; omega)
          · rw [List.getElem?_eq_none (by omega), List.getElem?_eq_none (by rw [List.length_reverse]; omega)]
        have hsum : ((L.map (·.1)).map (·.length)).sum = (vs.map vlen).sum := by
          rw [← vlen_strs, hrev, List.map_reverse, List.sum_reverse]
        have hll : (L.map (·.1)).length = vs.length := by
          have := congrArg List.length hrev
          simpa [strValues] using this
        refine ⟨?_, fun t' k' => ?_⟩
        · unfold JoinOk
          have := joinFits_of_weight (sep := ("" : Str)) (ys := L.map (·.1)) (by omega) (by decide)
          rw [Bool.not_eq_true']
          exact this
        · refine ⟨W, Sub.refl _, ⟨hm.gens.trans S.gens, hm.os.trans S.os, S.inv.but (S.inv.free (Nat.le_refl _)) fun b o hb ho => hm.heap b o (by simpa using hb) (Heap.get?_push_of_some _ ho)⟩, .pv (.txt ?_)⟩
          have h1 := StrLaws.join_length_le ("" : Str) (L.map (·.1))
          have h2 : ("" : Str).length = 0 := rfl
          rw [h2, Nat.mul_zero] at h1
          show (Builtin.Str.glued "" (L.map (·.1))).length ≤ k
          rw [StrLaws.glued_eq_join]
          omega
    · cases e
  · cases e

theorem Join_ok (H : SoundE tp n r) (Gd : Good tp c n) (S : St c lo W m cv s) (kk : Nat) (kp gp : Pos) (a : Expr) (cp apos p : Pos) (hp : (apos.endLine == p.line) = true) (hg : isGlob c.sc "reversed" = true) (hs : Ev.isStar a = false) :
    At c m cv W.F (((r.pvE c.sc a).bind fun p => R.lift ((joined p).map LV.pv)) lo) (Go c (eval (.Call (.Attribute (.Constant (.str "") kk kp) "join" apos) [.Call (.Name "reversed" gp) [a] [] cp] [] p) c.env)) s (RelL c) := by
  have S₀ := S.tok (s.toks + 1)
  refine At.map (G := fun Q E s => wpAny c.M c.A (eval a c.env) (fun u s₁ => wpAny c.M c.A (call (.type "reversed") ([] ++ [u])) (fun rv s₂ => wpAny c.M c.A (call (.builtin "str.join") ([.str "" s.toks] ++ [rv])) Q E s₂) E s₁) E { s with toks := s.toks + 1 }) ?_ fun Q E h => ?_
  rotate_left
  · refine wpAny_Call_method (o := .Constant (.str "") kk kp) (args := [.Call (.Name "reversed" gp) [a] [] cp]) rfl (few_ok rfl (by simp)) hp PySem.F.plainAttrs_str PySem.F.slot_str_join PySem.F.type_str_join ?_
    refine wpAny_Constant_str ⟨typeIs_str _ _ _, (fun b hb => by cases hb), ?_⟩
    refine callWith_machine (by simp) rfl (one_items rfl ?_)
    refine call_name (bt_name Gd S₀ hg (by simp) boot_reversed (by decide) ?_)
    refine callWith_machine (by simp) (by simpa using hs) (one_items hs ?_)
    exact h
  refine (pvE_ok H Gd S₀ a).seq (G := fun u Q E s₁ => wpAny c.M c.A (call (.type "reversed") ([] ++ [u])) (fun rv s₂ => wpAny c.M c.A (call (.builtin "str.join") ([.str "" s.toks] ++ [rv])) Q E s₂) E s₁) fun x lo₁ u s₁ W₁ S₁ h₁ r₁ => ?_
  intro hne
  cases hj : joined x with
  | none => rw [hj] at hne; exact (hne rfl).elim
  | some q =>
    exact wpAny_mono (join_ok Gd S₁ r₁ hj) (fun rv s₂ h₂ => wpAny_mono h₂ (fun _ _ q => q.sub h₁) fun _ _ e => e.elim) fun _ _ e => e.elim
end
end Mine
namespace Mine
open PySem PyProof.Rows PySem.W PySem.SeqAt

section
variable {G : Led} {K : Type} [DecidableEq K]
theorem stored_cons_ne {r : List (K × Value)} {k k' : K} {v v' : Value} (h : k' ≠ k) : stored ((k', v') :: r) k v = (k', v') :: stored r k v := by
  unfold stored
  simp only [List.any_cons, decide_eq_false h, Bool.false_or, List.map_cons, if_neg h, List.cons_append]
  split <;> rfl
theorem map_ne {r : List (K × Value)} {k : K} {v : Value} (h : k ∉ r.map (·.1)) : (r.map fun kv => if kv.1 = k then (kv.1, v) else kv) = r := by
  induction r with
  | nil => rfl
  | cons a r ih =>
    simp only [List.map_cons, List.mem_cons, not_or] at h
    rw [List.map_cons, if_neg (Ne.symm h.1), ih h.2]
theorem stored_cons_eq {r : List (K × Value)} {k : K} {v v' : Value} (h : k ∉ r.map (·.1)) : stored ((k, v') :: r) k v = (k, v) :: r := by
  unfold stored
  rw [if_pos (by simp), List.map_cons, if_pos rfl, map_ne h]
theorem put_cons {k k' : K} {ks : List K} {v y : PV} {vs : List PV} : put (k' :: ks) (v :: vs) k y = if k' = k then (k' :: ks, y :: vs) else (k' :: (put ks vs k y).1, v :: (put ks vs k y).2) := rfl
theorem put_stored {kvs : List (K × Value)} {k : K} {p : PV} {v : Value} (hv : VRep G v p) : ∀ {ps : List PV}, VReps G (kvs.map (·.2)) ps → (kvs.map (·.1)).Nodup →
    (put (kvs.map (·.1)) ps k p).1 = (stored kvs k v).map (·.1) ∧ VReps G ((stored kvs k v).map (·.2)) (put (kvs.map (·.1)) ps k p).2 := by
  induction kvs with
  | nil => intro ps h _; cases h; exact ⟨rfl, .cons hv .nil⟩
  | cons x r ih =>
    intro ps h hn
    cases h with
    | @cons _ q _ ps h t =>
      rw [List.map_cons, List.nodup_cons] at hn
      by_cases e : x.1 = k
      · rw [show x = (k, x.2) by rw [← e], stored_cons_eq (e ▸ hn.1)]
        simp only [List.map_cons, put_cons, if_true]
        exact ⟨trivial, .cons hv t⟩
      · obtain ⟨h1, h2⟩ := ih t hn.2
        rw [show x = (x.1, x.2) from rfl, stored_cons_ne e]
        simp only [List.map_cons, put_cons, if_neg e, h1]
        exact ⟨trivial, .cons h h2⟩

theorem storedH_cons_ne {r : List (K × Addr × Value)} {k k' : K} {a a' : Addr} {v v' : Value} (h : k' ≠ k) : storedH ((k', a', v') :: r) k a v = (k', a', v') :: storedH r k a v := by
  unfold storedH atKey
  simp only [List.find?_cons, decide_eq_false h, List.map_cons, putAt, if_neg h, List.cons_append]
  split <;> rfl
theorem mapH_ne {r : List (K × Addr × Value)} {k : K} {v : Value} (h : k ∉ r.map (·.1)) : r.map (putAt k v) = r := by
  induction r with
  | nil => rfl
  | cons x r ih =>
    simp only [List.map_cons, List.mem_cons, not_or] at h
    rw [List.map_cons, ih h.2]
    unfold putAt
    rw [if_neg (Ne.symm h.1)]
theorem storedH_cons_eq {r : List (K × Addr × Value)} {k : K} {a a' : Addr} {v v' : Value} (h : k ∉ r.map (·.1)) : storedH ((k, a', v') :: r) k a v = (k, a', v) :: r := by
  unfold storedH atKey
  rw [if_pos (by simp), List.map_cons, mapH_ne h]
  simp [putAt]
theorem put_storedH {kvs : List (K × Addr × Value)} {k : K} {p : PV} {a : Addr} {v : Value} (hv : VRep G v p) : ∀ {ps : List PV}, VReps G (kvs.map (·.2.2)) ps → (kvs.map (·.1)).Nodup →
    (put (kvs.map (·.1)) ps k p).1 = (storedH kvs k a v).map (·.1) ∧ VReps G ((storedH kvs k a v).map (·.2.2)) (put (kvs.map (·.1)) ps k p).2 ∧ (∀ x ∈ storedH kvs k a v, (∃ y ∈ kvs, x.1 = y.1 ∧ x.2.1 = y.2.1) ∨ (x.1 = k ∧ x.2.1 = a)) := by
  induction kvs with
  | nil =>
    intro ps h _
    cases h
    exact ⟨rfl, .cons hv .nil, fun x hx => by rw [show x = (k, a, v) by simpa [storedH, atKey] using hx]; exact .inr ⟨rfl, rfl⟩⟩
  | cons y r ih =>
    intro ps h hn
    obtain ⟨k', a', v'⟩ := y
    cases h with
    | @cons _ q _ ps h t =>
      rw [List.map_cons, List.nodup_cons] at hn
      by_cases e : k' = k
      · rw [e] at hn ⊢
        rw [storedH_cons_eq hn.1]
        simp only [List.map_cons, put_cons, if_true]
        refine ⟨trivial, .cons hv t, fun x hx => .inl ?_⟩
        rcases List.mem_cons.mp hx with e | hx
        · exact ⟨_, List.mem_cons_self, by rw [e], by rw [e]⟩
        · exact ⟨x, List.mem_cons_of_mem _ hx, rfl, rfl⟩
      · obtain ⟨h1, h2, h3⟩ := ih t hn.2
        rw [storedH_cons_ne e]
        simp only [List.map_cons, put_cons, if_neg e, h1]
        refine ⟨trivial, .cons h h2, fun x hx => ?_⟩
        rcases List.mem_cons.mp hx with e | hx
        · exact .inl ⟨_, List.mem_cons_self, by rw [e], by rw [e]⟩
        · rcases h3 x hx with ⟨y, hy, e⟩ | e
          · exact .inl ⟨y, List.mem_cons_of_mem _ hy, e⟩
          · exact .inr e
end

section
variable {prog : Program} {w : World} {G F : Led} {A : Around} {E : Value → Shared → Prop} {s : Shared}

theorem FO.dcti_of {h : Heap} {d : Addr} {kvs : List (Int × Value)} (x : h.DictOf (intKind prog w) d kvs) : ∃ o, h.get? d = some o ∧ (FO.dcti kvs).is prog w o := let ⟨o, es, ep, h1, h2, h3, h4, h5, h6⟩ := x; ⟨o, h1, h2, es, ep, h3, h4, h5, h6⟩
theorem FO.dcts_of {h : Heap} {d : Addr} {kvs : List (Str × Value)} (x : h.DictOf (strKind prog w) d kvs) : ∃ o, h.get? d = some o ∧ (FO.dcts kvs).is prog w o := let ⟨o, es, ep, h1, h2, h3, h4, h5, h6⟩ := x; ⟨o, h1, h2, es, ep, h3, h4, h5, h6⟩
theorem FO.dctt_of {h : Heap} {d : Addr} {kvs : List (List Int × Addr × Value)} (x : h.DictOfH (tupleKind (intKind prog w)) d kvs) : ∃ o, h.get? d = some o ∧ (FO.dctt kvs).is prog w o := let ⟨o, es, ep, h1, h2, h3, h4, _, h6⟩ := x; ⟨o, h1, h2, es, ep, h3, h4, h6⟩

/-- how a table takes a pair: by dictSet and by x[k] = v -/
structure Takes (prog : Program) (w : World) (A : Around) (E : Value → Shared → Prop) (s : Shared) (T : Sem Unit) (d : Addr) (u v : Value) : Prop where
  pair : ∀ {K : Type} [DecidableEq K] (knd : KeyKind prog w K) (kvs : List (K × Value)) (kk : K), knd.is kk u = true → s.heap.DictOf knd d kvs → kvs.length ≤ sizeLine → ∀ Q : Unit → Shared → Prop,
      (∀ h', h'.DictOf knd d (stored kvs kk v) → Heap.SameBut d s.heap h' → Q () { s with heap := h', toks := s.toks + 1 }) → wpAny (model prog w) A T Q E s
  heap : ∀ (xs : List (List Int × Addr × Value)) (kk : List Int) (a : Addr), u = .ref a → IsTupleKey (intKind prog w) s.heap kk a → s.heap.DictOfH (tupleKind (intKind prog w)) d xs → xs.length ≤ sizeLine → ∀ Q : Unit → Shared → Prop,
      (∀ h' t, h'.DictOfH (tupleKind (intKind prog w)) d (storedH xs kk a v) → Heap.SameBut d s.heap h' → Q () { s with heap := h', toks := t }) → wpAny (model prog w) A T Q E s
/-- the table took it -/
noncomputable def Took (prog : Program) (w : World) (F : Led) (s : Shared) (d : Addr) (mo' : MO) (_ : Unit) (s' : Shared) : Prop :=
  ∃ h' t fo', s' = { s with heap := h', toks := t } ∧ Heap.SameBut d s.heap h' ∧ (∃ o, h'.get? d = some o ∧ fo'.is prog w o) ∧ FORep F fo' mo'
section
variable {T : Sem Unit} {d : Addr} {u v : Value} {k p : PV} {ps : List PV}
theorem dset_i {kvs : List (Int × Value)} (hT : Takes prog w A E s T d u v) (hd : ∃ o, s.heap.get? d = some o ∧ (FO.dcti kvs).is prog w o) (hr : VReps F (kvs.map (·.2)) ps) (rk : VRep F u k) (rv : VRep F v p) (hl : kvs.length ≤ sizeLine) {i : Int} (hi : keyI k = some i) :
    wpAny (model prog w) A T (Took prog w F s d (.dcti (put (kvs.map (·.1)) ps i p).1 (put (kvs.map (·.1)) ps i p).2)) E s := by
  obtain ⟨t, e⟩ := keyI_val hi rk
  have hD := dictI_of (prog' := prog) (w' := w) hd
  have hn : (kvs.map (·.1)).Nodup := by obtain ⟨_, _, _, _, _, _, _, _, hn⟩ := hD; exact hn
  obtain ⟨p1, p2⟩ := put_stored (k := i) rv hr hn
  rw [p1]
  exact hT.pair (intKind prog w) kvs i (by rw [e]; exact int_is _ _ _ _) hD hl _ fun h' hD' hs => ⟨h', _, .dcti (stored kvs i v), rfl, hs, FO.dcti_of hD', .dcti p2⟩
theorem dset_s {kvs : List (Str × Value)} (hT : Takes prog w A E s T d u v) (hd : ∃ o, s.heap.get? d = some o ∧ (FO.dcts kvs).is prog w o) (hr : VReps F (kvs.map (·.2)) ps) (rk : VRep F u k) (rv : VRep F v p) (hl : kvs.length ≤ sizeLine) {x : Str} (hx : keyS k = some x) :
    wpAny (model prog w) A T (Took prog w F s d (.dcts (put (kvs.map (·.1)) ps x p).1 (put (kvs.map (·.1)) ps x p).2)) E s := by
  obtain ⟨t, e⟩ := keyS_val hx rk
  have hD := dictS_of (prog' := prog) hd
  have hn : (kvs.map (·.1)).Nodup := by obtain ⟨_, _, _, _, _, _, _, _, hn⟩ := hD; exact hn
  obtain ⟨p1, p2⟩ := put_stored (k := x) rv hr hn
  rw [p1]
  exact hT.pair (strKind prog w) kvs x (by rw [e]; exact strKind_is _ _ _ _) hD hl _ fun h' hD' hs => ⟨h', _, .dcts (stored kvs x v), rfl, hs, FO.dcts_of hD', .dcts p2⟩
theorem dset_t {kvs : List (List Int × Addr × Value)} (H : Stands prog w F s.heap) (hT : Takes prog w A E s T d u v) (hd : ∃ o, s.heap.get? d = some o ∧ (FO.dctt kvs).is prog w o) (hr : VReps F (kvs.map (·.2.2)) ps) (hk : KReps F kvs) (rk : VRep F u k) (rv : VRep F v p) (hl : kvs.length ≤ sizeLine) {x : List Int} (hx : keyT k = some x) :
    wpAny (model prog w) A T (Took prog w F s d (.dctt (put (kvs.map (·.1)) ps x p).1 (put (kvs.map (·.1)) ps x p).2)) E s := by
  obtain ⟨a', vs, e, h1, h2⟩ := keyT_val hx rk
  have hD := dictH_of (prog' := prog) (w' := w) H hk hd
  have hn : (kvs.map (·.1)).Nodup := by obtain ⟨_, _, _, _, _, _, _, _, hn⟩ := hD; exact hn
  obtain ⟨p1, p2, p3⟩ := put_storedH (k := x) (a := a') rv hr hn
  rw [p1]
  refine hT.heap kvs x a' e (tupleKey_of H h1 h2) hD hl _ fun h' t hD' hs => ⟨h', t, .dctt (storedH kvs x a' v), rfl, hs, FO.dctt_of hD', .dctt p2 fun y hy => ?_⟩
  rcases p3 y hy with ⟨z, hz, e1, e2⟩ | ⟨e1, e2⟩
  · rw [e1, e2]; exact hk z hz
  · rw [e1, e2]; exact ⟨vs, h1, h2⟩
theorem dset_step {fo : FO} {mo mo' : MO} (H : Stands prog w F s.heap) (hT : Takes prog w A E s T d u v) (hd : ∃ o, s.heap.get? d = some o ∧ fo.is prog w o) (hr : FORep F fo mo) (rk : VRep F u k) (rv : VRep F v p) (hsz : Ev.MO.size mo < 2 ^ 20)
    (e : dset mo k p = some mo') : wpAny (model prog w) A T (Took prog w F s d mo') E s := by
  have hsz' : Ev.MO.size mo ≤ sizeLine := by rw [sizeLine_eq]; omega
  cases hr with
  | lst hr => cases e
  | @dcti kvs ps hr =>
    have hl : kvs.length ≤ sizeLine := by simpa [Ev.MO.size] using hsz'
    have e : (match keyI k with
      | some i => some (MO.dcti (put (kvs.map (·.1)) ps i p).1 (put (kvs.map (·.1)) ps i p).2)
      | none => if (kvs.map (·.1)).isEmpty then (match keyS k with
        | some x => some (.dcts [x] [p])
        | none => (keyT k).map fun x => .dctt [x] [p]) else none) = some mo' := e
    cases hi : keyI k with
    | some i =>
      rw [hi] at e
      rw [← Option.some.inj e]
      exact dset_i hT hd hr rk rv hl hi
    | none =>
      rw [hi] at e
      obtain ⟨hk, e⟩ := ite_some e
      rw [List.map_eq_nil_iff.mp (List.isEmpty_iff.mp hk)] at hd
      cases hx : keyS k with
      | some x =>
        rw [hx] at e
        rw [← Option.some.inj e]
        exact dset_s (kvs := []) hT (empty_str hd) .nil rk rv (Nat.zero_le _) hx
      | none =>
        rw [hx] at e
        obtain ⟨l, hl, e⟩ := Option.map_eq_some_iff.mp e
        rw [← e]
        exact dset_t (kvs := []) H hT (empty_tup hd) .nil (fun x hx => nomatch hx) rk rv (Nat.zero_le _) hl
  | @dcts kvs ps hr =>
    obtain ⟨x, hx, e⟩ := Option.map_eq_some_iff.mp e
    rw [← e]
    exact dset_s hT hd hr rk rv (by simpa [Ev.MO.size] using hsz') hx
  | @dctt kvs ps hr hk =>
    obtain ⟨x, hx, e⟩ := Option.map_eq_some_iff.mp e
    rw [← e]
    exact dset_t H hT hd hr hk rk rv (by simpa [Ev.MO.size] using hsz') hx
end
end
end Mine
namespace Mine
open PySem PyProof.Rows PySem.W PySem.SeqAt

/-- a table, raw -/
noncomputable def RawDict (h : Heap) (d : Addr) (es : Array DictEntry) (ep : Nat) : Prop := ∃ o, h.get? d = some o ∧ o.ExactDict ∧ o.data = .dict es ep
theorem RawDict.typeIs {s : Shared} {d : Addr} {es ep} (x : RawDict s.heap d es ep) : s.TypeIs (.ref d) "dict" := let ⟨o, ho, hc, _⟩ := x; ⟨o, ho, hc.1⟩
theorem RawDict.at {h h' : Heap} {d : Addr} {es ep} (x : RawDict h d es ep) (e : ∀ o, h.get? d = some o → h'.get? d = some o) : RawDict h' d es ep := let ⟨o, ho, r⟩ := x; ⟨o, e _ ho, r⟩

section
variable {prog : Program} {w : World} {A : Around} {E : Value → Shared → Prop} {s : Shared}

theorem pyIter_raw {d : Addr} {es : Array DictEntry} {ep : Nat} {Q : Value → Shared → Prop} (hd : (d == sysModules) = false) (hm : RawDict s.heap d es ep)
    (hQ : Q (.ref s.heap.objs.size) { s with heap := s.heap.push { cls := .type "dict_keyiterator", data := .fields #[.ref d, .int 0 0, .int es.size 0, .int ep 0] } }) :
    wpAny (model prog w) A (pyIter (.ref d)) Q E s := by
  obtain ⟨o, ho, hc, hdat⟩ := id hm
  have hT : s.TypeIs (.ref d) "dict" := hm.typeIs
  refine wpAny_pyIter_slot hT PySem.F.slot_dict_iter (wpAny_call_entry PySem.F.slot_dict_iter hT PySem.F.entry_dict_iter ?_ (PySem.F.args_dict_iter_1 _))
  unfold Builtin.«dict.__iter__»
  refine wpAny_bind ?_
  unfold Builtin.Dict.dictSlotNone
  refine wpAny_bind (wpAny_notOrdered_dict hT ?_)
  show wpAny _ _ (pure (Value.ref d)) _ _ s
  refine wpAny_pure ?_
  show wpAny _ _ (Builtin.Dict.showsAll d >>= _) _ _ s
  unfold Builtin.Dict.showsAll
  rw [if_neg (by rw [hd]; exact Bool.false_ne_true)]
  refine wpAny_bind (wpAny_pure ?_)
  refine wpAny_bind (wpAny_dictEntries ho hdat ?_)
  refine wpAny_bind (wpAny_dictEpoch ho hdat ?_)
  refine wpAny_bind (wpAny_newObj_type (wpAny_pure ⟨_, rfl, "dict_keyiterator", _, ⟨_, Heap.get?_push_size _ rfl, rfl⟩, PySem.F.slot_dict_keyiterator_next.lookup, ?_⟩))
  simpa [rawInt] using hQ

theorem pyNext_raw_item {it d : Addr} {i ep : Nat} {es : Array DictEntry} {en : DictEntry} {Q : Option Value → Shared → Prop} (hit : s.heap.IsKeyIter it d i es.size ep)
    (hm : RawDict s.heap d es ep) (hx : es[i]? = some en)
    (hQ : ∀ h', h'.IsKeyIter it d (i + 1) es.size ep → Heap.SameBut it s.heap h' → Q (some en.key) { s with heap := h' }) :
    wpAny (model prog w) A (pyNext (.ref it)) Q E s := by
  obtain ⟨o, ho, hc, hd⟩ := id hit
  obtain ⟨od, hod, hcd, hdd⟩ := id hm
  unfold pyNext
  refine wpAny_bind (wpAny_attempt (wpAny_callSpecial?_slot (name := Str.ofString "__next__") hit.typeIs PySem.F.slot_dict_keyiterator_next
    (wpAny_call_entry PySem.F.slot_dict_keyiterator_next hit.typeIs PySem.F.entry_dict_keyiterator_next ?_ (PySem.F.args_dict_keyiterator_next_1 _))))
  refine wpAny_bind (wpAny_pure ?_)
  refine wpAny_bind ?_
  refine wpAny_bind ?_
  first | refine wpAny_bind (wpAny_typeNameOfWhole_keyiter hit.typeIs (wpAny_pure ?_)) | refine wpAny_bind (wpAny_typeNameOf_keyiter hit.typeIs (wpAny_pure ?_))
  refine wpAny_bind (wpAny_fieldsOf ho hd ?_)
  have hown : Builtin.Dict_items.ownsTuple "dict_keyiterator" = false := by decide
  simp only [hown, Bool.false_eq_true, if_false]
  show wpAny _ _ (if (Value.ref d == Value.none) = true then _ else _) _ _ s
  rw [if_neg (show ¬ ((Value.ref d == Value.none) = true) from Bool.false_ne_true)]
  refine wpAny_bind (wpAny_pure ?_)
  refine wpAny_bind (wpAny_dictEntries hod hdd ?_)
  rw [if_neg (by simp)]
  refine wpAny_bind (wpAny_pure ?_)
  refine wpAny_bind (wpAny_dictEpoch hod hdd ?_)
  rw [if_neg (by simp)]
  refine wpAny_pure ?_
  obtain ⟨hlt', rfl⟩ := Array.getElem?_eq_some_iff.mp hx
  simp only [show ¬ ((i : Int) < 0) from by omega, if_false, Int.toNat_natCast, Array.getElem?_eq_getElem hlt']
  refine wpAny_bind ?_
  first | refine wpAny_bind (wpAny_typeNameOfWhole_keyiter hit.typeIs (wpAny_pure ?_)) | refine wpAny_bind (wpAny_typeNameOf_keyiter hit.typeIs (wpAny_pure ?_))
  refine wpAny_bind (wpAny_isOneOf_keyiter hit.typeIs ?_)
  show wpAny _ _ (setField (.ref it) 1 (rawInt ((i : Int) + 1)) >>= _) _ _ s
  refine wpAny_bind (wpAny_setField ho hd (by simp) ?_)
  have hit' : (s.heap.update it (Obj.mapFields (·.setIfInBounds 1 (rawInt ((i : Int) + 1))))).IsKeyIter it d (i + 1) es.size ep :=
    ⟨_, Heap.get?_update_self _ ho (Obj.isFreed_of_fields (Obj.data_mapFields hd _)), (Obj.cls_mapFields ..).trans hc, by rw [Obj.data_mapFields hd]; simp [rawInt]⟩
  refine wpAny_bind (wpAny_holding ?_)
  refine wpAny_bind (wpAny_isOneOf_keyiter (s := { s with heap := s.heap.update it (Obj.mapFields (·.setIfInBounds 1 (rawInt ((i : Int) + 1)))) }) hit'.typeIs ?_)
  show wpAny _ _ (pure es[i].key) _ _ _
  exact wpAny_pure (wpAny_pure ⟨_, rfl, wpAny_pure (hQ _ hit' (Heap.SameBut.update ..))⟩)

theorem pyNext_raw_end {it d : Addr} {i ep : Nat} {es : Array DictEntry} {Q : Option Value → Shared → Prop} (hh : A.handled = none) (hit : s.heap.IsKeyIter it d i es.size ep)
    (hm : RawDict s.heap d es ep) (hx : es[i]? = none)
    (hQ : ∀ h', Heap.ExtBut it s.heap h' → Q none { s with heap := h' }) : wpAny (model prog w) A (pyNext (.ref it)) Q E s := by
  obtain ⟨o, ho, hc, hd⟩ := id hit
  obtain ⟨od, hod, hcd, hdd⟩ := id hm
  unfold pyNext
  refine wpAny_bind (wpAny_attempt (wpAny_callSpecial?_slot (name := Str.ofString "__next__") hit.typeIs PySem.F.slot_dict_keyiterator_next
    (wpAny_call_entry PySem.F.slot_dict_keyiterator_next hit.typeIs PySem.F.entry_dict_keyiterator_next ?_ (PySem.F.args_dict_keyiterator_next_1 _))))
  refine wpAny_bind (wpAny_pure ?_)
  refine wpAny_bind ?_
  refine wpAny_bind ?_
  first | refine wpAny_bind (wpAny_typeNameOfWhole_keyiter hit.typeIs (wpAny_pure ?_)) | refine wpAny_bind (wpAny_typeNameOf_keyiter hit.typeIs (wpAny_pure ?_))
  refine wpAny_bind (wpAny_fieldsOf ho hd ?_)
  have hown : Builtin.Dict_items.ownsTuple "dict_keyiterator" = false := by decide
  simp only [hown, Bool.false_eq_true, if_false]
  show wpAny _ _ (if (Value.ref d == Value.none) = true then _ else _) _ _ s
  rw [if_neg (show ¬ ((Value.ref d == Value.none) = true) from Bool.false_ne_true)]
  refine wpAny_bind (wpAny_pure ?_)
  refine wpAny_bind (wpAny_dictEntries hod hdd ?_)
  rw [if_neg (by simp)]
  refine wpAny_bind (wpAny_pure ?_)
  refine wpAny_bind (wpAny_dictEpoch hod hdd ?_)
  rw [if_neg (by simp)]
  refine wpAny_pure ?_
  simp only [show ¬ ((i : Int) < 0) from by omega, if_false, Int.toNat_natCast, hx]
  refine wpAny_bind ?_
  first | refine wpAny_bind (wpAny_typeNameOfWhole_keyiter hit.typeIs (wpAny_pure ?_)) | refine wpAny_bind (wpAny_typeNameOf_keyiter hit.typeIs (wpAny_pure ?_))
  show wpAny _ _ (setField (.ref it) 0 .none >>= _) _ _ s
  refine wpAny_bind (wpAny_setField ho hd (by simp) ?_)
  show wpAny _ _ (newExc (.type "StopIteration") [] >>= _) _ _ _
  refine wpAny_bind ?_
  simp only [newExc, newTuple]
  refine wpAny_bind (wpAny_newObj_type ?_ (by size_fits))
  refine wpAny_bind (m := firstArgMember _ _) (wpAny_of_eq (a := Value.none) (by first | rfl | (simp only [firstArgMember]; rfl)) ?_)
  refine wpAny_newObj_type ?_ (by size_fits)
  simp only [raiseNew]
  refine wpAny_bind (wpAny_handled ?_)
  rw [show A.in1.handled = none from hh]
  refine wpAny_bind (wpAny_pure (wpAny_throw ?_))
  refine wpAny_bind (wpAny_isInstance (T := "StopIteration") (b := true) ⟨_, Heap.get?_push_size _ rfl, rfl⟩ isSubtype_stop ?_)
  exact wpAny_pure (hQ _ (((Heap.SameBut.update ..).extBut.push _).push _))
end

theorem Walks.raw {prog : Program} {w : World} {A : Around} (hh : A.handled = none) (I d : Addr) (hne : d ≠ I) (es : Array DictEntry) (ep : Nat) :
    Walks prog w A I [I, d] [I] es.size (fun i v => ∃ en, es[i]? = some en ∧ v = en.key) (fun i h => h.IsKeyIter I d i es.size ep ∧ RawDict h d es ep) where
  sub := fun b hb => by simp at hb; simp [hb]
  frame := fun _ _ _ st hk => ⟨st.1.at fun o e => hk I (by simp) o e, st.2.at fun o e => hk d (by simp) o e⟩
  item := fun i s Q E hi st hQ => by
    refine pyNext_raw_item st.1 st.2 (Array.getElem?_eq_getElem hi) fun h' hit' hs' => ?_
    exact hQ _ h' s.toks ⟨_, Array.getElem?_eq_getElem hi, rfl⟩ ⟨hit', st.2.at fun o e => (hs'.2 d hne).trans e⟩ fun b o hb e => hs'.extBut b o (fun h => hb (by simp [h])) e
  done := fun s Q E st hQ => pyNext_raw_end hh st.1 st.2 (by simp) fun h' he' => hQ h' s.toks fun b o hb e => he' b o (fun h => hb (by simp [h])) e
  self := fun _ _ _ _ st hQ => wpAny_pyIter_keyiter st.1 hQ
end Mine
namespace Mine
open PySem PyProof.Rows PySem.W PySem.SeqAt

/-- all that no name may turn is to stay -/
noncomputable def Cx.rebase (c : Cx) (b : Heap) (F : Led) : Cx := { c with base := b, Fs := F }

section
variable {c : Cx} {m : Str → Option Value} {cv : Addr → Option Value} {lo : Lo} {W : Wd} {s : Shared} {h b : Heap} {Fs : Led}

theorem hide_stays (hk : ∀ a o, c.base.get? a = some o → h.get? a = some o) (hn : ∀ a ∈ muts c W.O, c.base.get? a = none) : c.base.StaysIn (hideAll h (muts c W.O)) := fun a o e =>
  hideAll_get _ (hk a o e) fun hm => by rw [hn a hm] at e; cases e

theorem Inv.rebase (I : Inv c lo W m cv h) : Inv (c.rebase (hideAll h (muts c W.O)) W.F) lo W m cv h where
  keep := fun a o e => of_hideAll _ e
  ns := I.ns
  cells := I.cells
  ext := I.ext
  fix := I.fix
  own := I.own
  los := I.los
  inj := I.inj
  nodup := I.nodup
  off := I.off
  new := fun a ha => hideAll_none _ ha
  sys := by
    cases e : c.base.get? sysModules with
    | none => exact absurd e I.sys
    | some o => rw [show (c.rebase (hideAll h (muts c W.O)) W.F).base.get? sysModules = some o from hide_stays I.keep I.new _ _ e]; exact fun e => nomatch e
  mods := I.mods
  fresh := fun p hp => .inl hp
  pin := I.pin

theorem Inv.unbase (hk : c.base.StaysIn b) (hs : c.base.get? sysModules ≠ none) (hF : ∀ p ∈ Fs, p ∈ c.Fs ∨ c.base.get? p.1 = none) (I : Inv (c.rebase b Fs) lo W m cv h) : Inv c lo W m cv h where
  keep := fun a o e => I.keep a o (hk a o e)
  ns := I.ns
  cells := I.cells
  ext := I.ext
  fix := I.fix
  own := I.own
  los := I.los
  inj := I.inj
  nodup := I.nodup
  off := I.off
  new := fun a ha => by
    cases e : c.base.get? a with
    | none => rfl
    | some o => have := hk a o e; rw [show b.get? a = none from I.new a ha] at this; cases this
  sys := hs
  mods := I.mods
  fresh := fun p hp => by
    rcases I.fresh p hp with h | h
    · exact hF p h
    · refine .inr ?_
      cases e : c.base.get? p.1 with
      | none => rfl
      | some o => have := hk p.1 o e; rw [show b.get? p.1 = none from h] at this; cases this
  pin := I.pin

theorem St.rebase (S : St c lo W m cv s) : St (c.rebase (hideAll s.heap (muts c W.O)) W.F) lo W m cv s := ⟨S.gens, S.os, S.inv.rebase⟩
theorem St.unbase (hk : c.base.StaysIn b) (hs : c.base.get? sysModules ≠ none) (hF : ∀ p ∈ Fs, p ∈ c.Fs ∨ c.base.get? p.1 = none) (S : St (c.rebase b Fs) lo W m cv s) : St c lo W m cv s ∧ ∀ a o, b.get? a = some o → s.heap.get? a = some o :=
  ⟨⟨S.gens, S.os, S.inv.unbase hk hs hF⟩, S.inv.keep⟩

theorem Good.rebase {tp : TopP} {n : Nat} (Gd : Good tp c n) (hk : c.base.StaysIn b) : Good tp (c.rebase b Fs) n where
  tops := Gd.tops.keeps hk
  kind := Gd.kind
  fnk := Gd.fnk
  gl := Gd.gl
  bl := Gd.bl
  units := Gd.units
  depth := Gd.depth
  handled := Gd.handled
  frames := Gd.frames
  same := Gd.same
  frk := Gd.frk
  frn := Gd.frn
  fps := Gd.fps
  fpk := fun p hp => by
    rcases Gd.fpk p hp with h | h | h | ⟨o, h1, h2⟩
    · exact .inl h
    · exact .inr (.inl h)
    · exact .inr (.inr (.inl h))
    · exact .inr (.inr (.inr ⟨o, hk _ _ h1, h2⟩))
  bst := fun a o e => hk a o (Gd.bst a o e)
  hE := Gd.hE
  cells := Gd.cells
  pinned := Gd.pinned
  tr := Gd.tr
  xcls := Gd.xcls

/-- a record is nobody's -/
theorem not_fixed {h : Heap} {F : Led} {prog : Program} {w : World} (H : Stands prog w F h) {a : Addr} {o : Obj} {vs : Array Value} (ho : h.get? a = some o) (hd : o.data = .fields vs) : ∀ p ∈ F, p.1 ≠ a := fun p hp e => by
  obtain ⟨o', h1, h2⟩ := H p hp
  rw [e, ho] at h1
  cases h1
  cases hf : p.2 with
  | tup l => rw [hf] at h2; obtain ⟨n, rfl⟩ := h2; cases hd
  | lst l => rw [hf] at h2; obtain ⟨n, rfl⟩ := h2; cases hd
  | dcti l => rw [hf] at h2; obtain ⟨_, es, ep, q, _⟩ := h2; rw [hd] at q; cases q
  | dcts l => rw [hf] at h2; obtain ⟨_, es, ep, q, _⟩ := h2; rw [hd] at q; cases q
  | dctt l => rw [hf] at h2; obtain ⟨_, es, ep, q, _⟩ := h2; rw [hd] at q; cases q
end

/-! ### what is run over -/
/-- an iterator at its start -/
structure IterAt (c : Cx) (lo : Lo) (W : Wd) (m : Str → Option Value) (cv : Addr → Option Value) (items : List PV) (P : Nat → Value → Prop) (SI : Nat → Heap → Prop) (fp : List Addr) (I : Addr) (s : Shared) : Prop where
  walks : Walks c.prog c.w c.A I fp [I] items.length P SI
  size : items.length ≤ sizeLine
  fps : ∀ b ∈ fp, b = I ∨ ∃ fo, (b, fo) ∈ W.F
  obj : ∀ i h, SI i h → ∃ o vs, h.get? I = some o ∧ o.data = .fields vs
  itm : ∀ i v, i < items.length → P i v → ∃ p, items[i]? = some p ∧ VRep W.F v p
  free : Free c W I
  st : St c lo W m cv s
  at0 : SI 0 s.heap

section
variable {tp : TopP} {c : Cx} {m : Str → Option Value} {cv : Addr → Option Value} {lo : Lo} {W : Wd} {s : Shared} {n : Nat} {r : Ev}

/-- an iterator is made -/
noncomputable def MadeIt (c : Cx) (lo : Lo) (W : Wd) (m : Str → Option Value) (cv : Addr → Option Value) (items : List PV) (it : Value) (s' : Shared) : Prop := ∃ I fp P SI, it = .ref I ∧ IterAt c lo W m cv items P SI fp I s'
theorem fps_two {W : Wd} {a I : Addr} {fo : FO} (ha : (a, fo) ∈ W.F) : ∀ b ∈ [I, a], b = I ∨ ∃ fo, (b, fo) ∈ W.F := fun b hb => by
  rcases List.mem_cons.mp hb with e | hb
  · exact .inl e
  · rw [List.mem_singleton.mp hb]; exact .inr ⟨_, ha⟩
theorem iter_tup (Gd : Good tp c n) (S : St c lo W m cv s) {items : List PV} {u : Value} (r1 : VSeq W.F .tup u items) (hl : items.length ≤ sizeLine) : wpAny c.M c.A (pyIter u) (MadeIt c lo W m cv items) No s := by
  obtain @⟨a, vs, e, ha, hr⟩ := r1
  obtain ⟨k, hk⟩ := isTuple_of S.standsF ha
  have hlen := hr.length
  rw [e]
  have hT : s.heap.IsTuple a vs.toArray := ⟨_, hk, rfl, k, rfl⟩
  refine wpAny_pyIter_tuple hT ?_
  refine ⟨s.heap.objs.size, [s.heap.objs.size, a], fun i v => vs.toArray[i]? = some v, fun i h => h.IsTupleIter s.heap.objs.size a i ∧ h.IsTuple a vs.toArray, rfl, ⟨?_, hl, fps_two ha, fun i h hi => ?_, fun i v _ hv => ?_, S.inv.free (Nat.le_refl _), S.push _ _, ⟨⟨_, Heap.get?_push_size _ rfl, rfl, rfl⟩, ⟨_, Heap.get?_push_of_some _ hk, rfl, k, rfl⟩⟩⟩⟩
  · have := Walks.tuple (prog := c.prog) (w := c.w) (A := c.A) Gd.handled s.heap.objs.size a (Nat.ne_of_lt (Heap.lt_size hk)) vs.toArray
    rwa [show vs.toArray.size = items.length by rw [List.size_toArray, hlen]] at this
  · obtain ⟨o, h1, _, h3⟩ := hi.1; exact ⟨o, _, h1, h3⟩
  · exact hr.getV (by simpa using hv)
theorem iter_lst (Gd : Good tp c n) (S : St c lo W m cv s) {items : List PV} {u : Value} (r1 : VSeq W.F .lst u items) (hl : items.length ≤ sizeLine) : wpAny c.M c.A (pyIter u) (MadeIt c lo W m cv items) No s := by
  obtain @⟨a, vs, e, ha, hr⟩ := r1
  have hL := isList_of S.standsF ha
  have hlen := hr.length
  have hlt : a < s.heap.objs.size := by obtain ⟨o, ho, _⟩ := hL; exact Heap.lt_size ho
  rw [e]
  refine wpAny_pyIter_list hL ?_
  refine ⟨s.heap.objs.size, [s.heap.objs.size, a], fun i v => vs.toArray[i]? = some v, fun i h => h.IsListIter s.heap.objs.size a i ∧ h.IsList a vs.toArray, rfl, ⟨?_, hl, fps_two ha, fun i h hi => ?_, fun i v _ hv => ?_, S.inv.free (Nat.le_refl _), S.push _ _, ⟨⟨_, Heap.get?_push_size _ rfl, rfl, rfl⟩, hL.push _⟩⟩⟩
  · have := Walks.list (prog := c.prog) (w := c.w) (A := c.A) Gd.handled s.heap.objs.size a (Nat.ne_of_lt hlt) vs.toArray
    rwa [show vs.toArray.size = items.length by rw [List.size_toArray, hlen]] at this
  · obtain ⟨o, h1, _, h3⟩ := hi.1; exact ⟨o, _, h1, h3⟩
  · exact hr.getV (by simpa using hv)
theorem fits20 {k : Nat} (h : k < 2 ^ 20) : k ≤ sizeLine := by rw [sizeLine_eq]; omega
theorem iter_seq (Gd : Good tp c n) (S : St c lo W m cv s) {p : PV} {items : List PV} {u : Value} (r1 : VRep W.F u p) (e : itemsOf p = some items) (hl : items.length < 2 ^ 20) :
    wpAny c.M c.A (pyIter u) (MadeIt c lo W m cv items) No s := by
  cases p with
  | tup l => rw [Option.some.inj e] at r1; exact iter_tup Gd S r1.toTup (fits20 hl)
  | lst l => rw [Option.some.inj e] at r1; exact iter_lst Gd S r1.toLst (fits20 hl)
  | _ => cases e

theorem pairs_key {prog : Program} {w : World} {K : Type} [DecidableEq K] {knd : PySem.KeyKind prog w K} {kvs : List (K × Value)} {es : Array DictEntry} (hp : Pairs knd es.toList kvs) {i : Nat} {en : DictEntry} (h : es[i]? = some en) :
    ∃ kv, kvs[i]? = some kv ∧ knd.is kv.1 en.key = true := by
  have h' : es.toList[i]? = some en := by simpa using h
  clear h
  generalize es.toList = l at hp h'
  induction hp generalizing i with
  | nil => simp at h'
  | @cons e kv es kvs h1 h2 _ ih =>
    cases i with
    | zero => simp at h'; subst h'; exact ⟨kv, rfl, h1⟩
    | succ i => simpa using ih (by simpa using h')

theorem iter_dict (Gd : Good tp c n) (S : St c lo W m cv s) {items : List PV} {a : Addr} {fo : FO} {es : Array DictEntry} {ep : Nat} (ha : (a, fo) ∈ W.F) (hR : RawDict s.heap a es ep) (hz : es.size = items.length) (hl : items.length ≤ sizeLine)
    (hk : ∀ (i : Nat) (en : DictEntry), es[i]? = some en → ∃ p, items[i]? = some p ∧ VRep W.F en.key p) : wpAny c.M c.A (pyIter (.ref a)) (MadeIt c lo W m cv items) No s := by
  have hlt : a < s.heap.objs.size := by obtain ⟨o, ho, _⟩ := hR; exact Heap.lt_size ho
  refine pyIter_raw (beq_false_of_ne (S.inv.mods _ ha)) hR ?_
  refine ⟨s.heap.objs.size, [s.heap.objs.size, a], fun i v => ∃ en, es[i]? = some en ∧ v = en.key, fun i h => h.IsKeyIter s.heap.objs.size a i es.size ep ∧ RawDict h a es ep, rfl, ⟨?_, hl, fps_two ha, fun i h hi => ?_, fun i v _ hv => ?_, S.inv.free (Nat.le_refl _), S.push _ _, ⟨⟨_, Heap.get?_push_size _ rfl, rfl, rfl⟩, hR.at fun o e => Heap.get?_push_of_some _ e⟩⟩⟩
  · rw [← hz]
    exact Mine.Walks.raw (prog := c.prog) (w := c.w) (A := c.A) Gd.handled s.heap.objs.size a (Nat.ne_of_lt hlt) es ep
  · obtain ⟨o, h1, _, h3⟩ := hi.1; exact ⟨o, _, h1, h3⟩
  · obtain ⟨en, h1, e⟩ := hv; rw [e]; exact hk i en h1
theorem key_int {prog : Program} {w : World} {F : Led} {k : Int} {v : Value} (h : (intKind prog w).is k v = true) : VRep F v (.int k) := by
  cases v with
  | int j t => rw [← show j = k by simpa [intKind, Value.isInt] using h]; exact .int _ _
  | _ => simp [intKind, Value.isInt] at h
theorem key_str {prog : Program} {w : World} {F : Led} {k : Str} {v : Value} (h : (PySem.strKind prog w).is k v = true) : VRep F v (.str k) := by
  cases v with
  | str j t => rw [← show j = k by simpa [PySem.strKind, Value.isStrOf] using h]; exact .str _ _
  | _ => simp [PySem.strKind, Value.isStrOf] at h
theorem ints_reps {F : Led} {ks : List Int} {vs : List Value} (h : IntVals ks vs) : VReps F vs (ks.map .int) := by
  induction h with
  | nil => exact .nil
  | cons _ ih => exact .cons (.int _ _) ih
theorem iter_keys (Gd : Good tp c n) (S : St c lo W m cv s) {p : PV} {items : List PV} {u : Value} (r1 : VRep W.F u p) (e : keysOf p = some items) (hl : items.length < 2 ^ 20) :
    wpAny c.M c.A (pyIter u) (MadeIt c lo W m cv items) No s := by
  cases p with
  | dcti ks vs =>
    obtain ⟨e1, e2, ha, hr⟩ : VDct _ _ _ _ _ _ _ := r1.inv
    obtain ⟨o, ho, hx, es, ep, hd, he, hp, hn⟩ := S.inv.fix _ ha
    rw [e2] at e
    have e := Option.some.inj e
    rw [← e] at hl ⊢
    rw [e1]
    refine iter_dict Gd S ha ⟨o, ho, hx, hd⟩ (by have := hp.length; simpa using this) (fits20 hl) fun i en hi => ?_
    obtain ⟨kv, h1, h2⟩ := pairs_key hp hi
    exact ⟨.int kv.1, by simp [h1], key_int h2⟩
  | dcts ks vs =>
    obtain ⟨e1, e2, ha, hr⟩ : VDct _ _ _ _ _ _ _ := r1.inv
    obtain ⟨o, ho, hx, es, ep, hd, he, hp, hn⟩ := S.inv.fix _ ha
    rw [e2] at e
    have e := Option.some.inj e
    rw [← e] at hl ⊢
    rw [e1]
    refine iter_dict Gd S ha ⟨o, ho, hx, hd⟩ (by have := hp.length; simpa using this) (fits20 hl) fun i en hi => ?_
    obtain ⟨kv, h1, h2⟩ := pairs_key hp hi
    exact ⟨.str kv.1, by simp [h1], key_str h2⟩
  | dctt ks vs =>
    obtain ⟨a, kvs, e1, e2, ha, hr, hk⟩ := r1.inv
    obtain ⟨o, ho, hx, es, ep, hd, he, hn⟩ := S.inv.fix _ ha
    rw [e2] at e
    have e := Option.some.inj e
    rw [← e] at hl ⊢
    rw [e1]
    refine iter_dict Gd S ha ⟨o, ho, hx, hd⟩ (by have := congrArg List.length he; simpa using this) (fits20 hl) fun i en hi => ?_
    have hi' : es.toList[i]? = some en := by simpa using hi
    rw [he, List.getElem?_map] at hi'
    obtain ⟨kv, h1, e3⟩ := Option.map_eq_some_iff.mp hi'
    obtain ⟨vs, h2, h3⟩ := hk kv (List.mem_of_getElem? h1)
    rw [← e3]
    exact ⟨.tup (kv.1.map .int), by simp [h1], .tup (vs := vs) h2 (ints_reps h3)⟩
  | _ => cases e
end
end Mine
namespace Mine
open PySem PyProof.Rows PySem.W PySem.SeqAt

theorem noteFrame_env {env env' : Env} (h : env.frame = env'.frame) (e : Value) : noteFrame e env = noteFrame e env' := by
  unfold noteFrame PySem.frameOf; rw [h]
theorem leaving_env {env env' : Env} (h : env.frame = env'.frame) (e : Value) : leaving env e = leaving env' e := by
  unfold leaving; rw [noteFrame_env h]

theorem setFlight_some {M : Model} {A : Around} {E : Value → Shared → Prop} {s : Shared} {base : Heap} {l : List Env} {e L : Addr} {cls a0 fl : Value} {Q : Unit → Shared → Prop}
    (hkb : base.StaysIn s.heap) (hl : s.heap.FunFrames base l) (ht : s.heap.TracedAtW base e cls a0 fl)
    (h : ∀ h', base.StaysIn h' → h'.FunFrames base l → h'.TracedAtW base e cls a0 (rawInt L) → (∀ b o, s.heap.get? b = some o → (∀ vs, o.data ≠ .fields vs) → h'.get? b = some o) → Q () { s with heap := h' }) :
    wpAny M A (setFlight (.ref e) (some L)) Q E s := by
  obtain ⟨oe, vs, T, oT, ts, he, hcls, hd, h1, hnT, hTe, hT, hdT, h3⟩ := ht
  have hsz3 : 3 < ts.size := (Array.getElem?_eq_some_iff.mp h3).1
  have other : ∀ b, b ≠ T → (s.heap.update T (Obj.mapFields (·.setIfInBounds 3 ((some L : Option Addr).elim Value.none fun f => rawInt f)))).get? b = s.heap.get? b :=
    fun b hb => Heap.get?_update_other _ _ (Ne.symm hb)
  have noRecord : ∀ b o, s.heap.get? b = some o → (∀ vs, o.data ≠ .fields vs) → b ≠ T := fun b o hb hnf q => by
    rw [q, hT] at hb; injection hb with hb; subst hb; exact hnf ts hdT
  unfold setFlight
  refine wpAny_bind (wpAny_field he hd h1 ?_)
  rw [if_pos (show (Value.ref T != Value.none) = true from by simp)]
  refine wpAny_setField hT hdT hsz3 (h _ (fun b o hbo => ?_) ?_ ?_ fun b o hb hn => (other b (noRecord b o hb hn)).trans hb)
  · exact (other b fun q => by rw [q, hnT] at hbo; cases hbo).trans (hkb b o hbo)
  · exact hl.of_keeps fun b o hb hnf => ⟨o, (other b (noRecord b o hb hnf)).trans hb, rfl⟩
  · exact ⟨oe, vs, T, _, _, (other e (Ne.symm hTe)).trans he, hcls, hd, h1, hnT, hTe, Heap.get?_update_self _ hT (Obj.isFreed_of_fields (Obj.data_mapFields hdT _)), Obj.data_mapFields hdT _, by simp [hsz3]⟩

section
variable {tp : TopP} {c : Cx} {n : Nat}

noncomputable def FpOk (c : Cx) (h : Heap) : Prop := ∀ p ∈ c.x.Fp, ∃ o, h.get? p.1 = some o ∧ p.2 o
theorem FpOk.slots (Gd : Good tp c n) {h h' : Heap} (x : FpOk c h) (k : h.UpToSlots h') : FpOk c h' := fun p hp => by
  obtain ⟨o, h1, h2⟩ := x p hp
  have st := Gd.fps p hp
  obtain ⟨sl, h3⟩ := k _ _ h1 fun vs => st.nf o vs h2
  exact ⟨_, h3, st.up _ _ h2⟩

noncomputable def ArrH (c : Cx) (e : Value) (s' : Shared) : Prop :=
  s'.gens = #[] ∧ s'.os = c.os ∧ FpOk c s'.heap ∧ ∃ a, e = .ref a ∧ ∃ a0 L, c.x.fenv.frame = some L ∧ Heap.HeldW c.x.B c.x.frs a c.x.cls a0 L s'.heap
theorem frame_at (Gd : Good tp c n) : ∃ L, c.x.fenv.frame = some L := let ⟨_, L, h, _⟩ := Gd.frk c.x.fenv List.mem_cons_self; ⟨L, h⟩

/-- the entry is noted -/
theorem Arr.note (Gd : Good tp c n) {M : Model} {A' : Around} (hA : A'.frames = some c.x.frs) {e : Value} {s' : Shared} {E : Value → Shared → Prop} (h : Arr c e s') : wpAny M A' (noteFrame e c.x.fenv) (fun _ s'' => ArrH c e s'') E s' := by
  obtain ⟨g1, g2, g3, a, rfl, h⟩ := h
  obtain ⟨L, hL⟩ := frame_at Gd
  rcases h with ⟨oe, vs, a0, h1, h2, h3, h4, h5, h6, h7, h8⟩ | ⟨a0, h⟩ | ⟨a0, L', hL', h⟩
  · unfold noteFrame
    simp only [hL]
    refine wpAny_bind (wpAny_field h1 h3 h4 ?_)
    rw [if_neg (by decide)]
    refine wpAny_entryW hA h8 hL h1 h7 h6 h3 (Array.getElem?_eq_some_iff.mp h4).1 h5 fun h' hN => ?_
    obtain ⟨k1, k2, k3, k4⟩ := hN
    rw [h2] at k3
    exact ⟨g1, g2, FpOk.slots Gd g3 k4, a, rfl, a0, L, hL, k1, h6, k2, k3⟩
  · refine wpAny_looks_onW hA hL h fun h' k1 k2 => ⟨g1, g2, FpOk.slots Gd g3 k2, a, rfl, a0, L, hL, k1⟩
  · rw [hL] at hL'; cases hL'
    exact wpAny_noteFrame_againW hL h.2.2.2 ⟨g1, g2, g3, a, rfl, a0, L, hL, h⟩

/-- a raised thing goes on its way -/
theorem ArrH.back (Gd : Good tp c n) {M : Model} {A' : Around} {env : Env} (hf : env.frame = c.x.fenv.frame) {e : Value} {s' : Shared} (h : ArrH c e s') : cameBackBy M A' env (Arr c) e s' := by
  obtain ⟨g1, g2, g3, a, rfl, a0, L, hL, hh⟩ := h
  obtain ⟨f1, f2, f3, f4⟩ := id hh
  obtain ⟨oe, vs, T, oT, ts, he, hcls, hd, h1, hnT, hTe, hT, hdT, h3⟩ := id f4
  unfold cameBackBy
  refine wpAny_bind (wpAny_field he hd h1 ?_)
  rw [if_neg (show ¬ ((Value.ref T == Value.none) = true) from by simp)]
  have key : wpAny M A' (setFlight (.ref a) env.frame) (fun _ s'' => Arr c (.ref a) s'') (Arr c) s' := by
    rw [hf, hL]
    refine setFlight_some f1 f3 f4 fun h' k1 k2 k3 k4 => ?_
    exact ⟨g1, g2, FpOk.slots Gd g3 (fun b o hb hn => ⟨o.slots, k4 b o hb hn⟩), a, rfl, .inr (.inr ⟨a0, L, hL, k1, f2, k2, k3⟩)⟩
  first
    | exact key
    | exact wpAny_bind (wpAny_pure key)

theorem Good.pass (Gd : Good tp c n) : PassesOwn c.M c.A c.env c.E := by
  rw [Gd.hE]
  intro e s' h
  unfold notedBy
  rw [noteFrame_env Gd.same]
  exact wpAny_mono (Arr.note Gd Gd.frames h) (fun _ s'' q => q.back Gd Gd.same) fun _ _ e => e

/-- gone from the frame -/
noncomputable def Gone (c : Cx) (e : Value) (s' : Shared) : Prop :=
  s'.gens = #[] ∧ s'.os = c.os ∧ FpOk c s'.heap ∧ ∃ a a0, e = .ref a ∧ Heap.FlyingW c.x.B c.x.outer a c.x.cls a0 s'.heap
theorem ArrH.landed (Gd : Good tp c n) {M : Model} {A' : Around} {e : Value} {s' : Shared} {E : Value → Shared → Prop} (h : ArrH c e s') :
    wpAny M A' (setFlight e none) (fun _ s'' => s''.gens = #[] ∧ s''.os = c.os ∧ FpOk c s''.heap ∧ ∃ a a0, e = .ref a ∧ Heap.FlyingW c.x.B c.x.frs a c.x.cls a0 s''.heap) E s' := by
  obtain ⟨g1, g2, g3, a, rfl, a0, L, hL, hh⟩ := h
  exact wpAny_landsW hh fun h' k1 k2 => ⟨g1, g2, FpOk.slots Gd g3 k2, a, a0, rfl, k1⟩
theorem Arr.leaves (Gd : Good tp c n) {M : Model} {A' : Around} (hA : A'.frames = some c.x.frs) {env : Env} (hf : env.frame = c.x.fenv.frame) {e : Value} {s' : Shared} {E : Value → Shared → Prop} (h : Arr c e s') :
    wpAny M A' (leaving env e) (fun _ s'' => Gone c e s'') E s' := by
  rw [leaving_env hf]
  unfold leaving
  refine wpAny_bind (wpAny_mono (Arr.note Gd hA h) (fun _ s'' q => ?_) fun _ _ e => e)
  refine wpAny_mono (q.landed Gd) (fun _ s₃ q => ?_) fun _ _ e => e
  obtain ⟨g1, g2, g3, a, a0, rfl, k1, k2, ⟨_, _, k3⟩, k4⟩ := q
  exact ⟨g1, g2, g3, a, a0, rfl, k1, k2, k3, k4⟩
end
end Mine
namespace Mine
open PySem PyProof.Rows PySem.W PySem.SeqAt

noncomputable def SoundS (tp : TopP) (n : Nat) (r : Ev) : Prop :=
  ∀ {c lo W m cv s}, Good tp c n → St c lo W m cv s → ∀ st, AtS c W.F (r.s c.sc st lo) (fun Q E s => wpAny c.M c.A (exec st c.env) Q E s) s

section
variable {tp : TopP} {c : Cx} {m : Str → Option Value} {cv : Addr → Option Value} {lo : Lo} {W : Wd} {s : Shared} {n : Nat} {r : Ev} {F0 F1 : Led}

theorem AtS.map {r : Res Fl} {G G' : (Flow → Shared → Prop) → (Value → Shared → Prop) → Shared → Prop} (h : AtS c F0 r G s) (k : ∀ Q E, G Q E s → G' Q E s) : AtS c F0 r G' s := fun hne => k _ _ (h hne)
theorem okS.sub {r : Res Fl} (hs : Sub F0 F1) {f : Flow} {s' : Shared} (h : okS c F1 r f s') : okS c F0 r f s' := by
  cases r with
  | ok fl lo' => obtain ⟨W', m', cv', h1, h2, h3⟩ := h; exact ⟨W', m', cv', hs.trans h1, h2, h3⟩
  | exc => exact h
  | fail => exact h

/-- a tree, then a statement's rest -/
theorem AtS.expr {α β : Type} {x : R α} {f : α → R Fl} {t : Sem β} {G : β → (Flow → Shared → Prop) → (Value → Shared → Prop) → Shared → Prop} {Rel : α → Wd → Heap → β → Prop}
    (hx : At c m cv F1 (x lo) (Go c t) s Rel)
    (k : ∀ a lo' b s' W', St c lo' W' m cv s' → Sub F1 W'.F → Rel a W' s'.heap b → AtS c F0 (f a lo') (G b) s') :
    AtS c F0 (x.bind f lo) (fun Q E s => wpAny c.M c.A t (fun b s' => G b Q E s') E s) s := by
  intro hne
  unfold R.bind at hne ⊢
  cases hr : x lo with
  | ok a lo' =>
    rw [hr] at hx hne
    refine wpAny_mono (hx (fun e => by cases e)) (fun b s' q => ?_) fun _ _ e => e.elim
    obtain ⟨W', hs, S, r⟩ := q
    exact k a lo' b s' W' S hs r hne
  | exc =>
    rw [hr] at hx
    exact wpAny_mono (hx (fun e => by cases e)) (fun b s' q => q.elim) fun _ _ e => e
  | fail => rw [hr] at hne; exact (hne rfl).elim

theorem passes (Gd : Good tp c n) {α : Type} (r : Res α) : PassesOwn c.M c.A c.env (exE c r) := by
  cases r with
  | exc => exact Gd.pass
  | ok _ _ => exact fun _ _ h => h.elim
  | fail => exact fun _ _ h => h.elim

/-- a block -/
theorem ss_ok (H : SoundS tp n r) (Gd : Good tp c n) (sts : List Stmt) : ∀ {lo W m cv s}, St c lo W m cv s → AtS c W.F (r.ss c.sc sts lo) (fun Q E s => wpAny c.M c.A (execs sts c.env) Q E s) s := by
  induction sts with
  | nil => exact fun S _ => wpAny_execs_nil ⟨_, _, _, Sub.refl _, S, .next⟩
  | cons st rest ih =>
    intro lo W m cv s S hne
    refine wpAny_execs_cons ?_
    unfold Ev.ss R.bind at hne ⊢
    have h1 := H Gd S st
    cases hr : r.s c.sc st lo with
    | ok fl lo' =>
      rw [hr] at h1
      simp only [hr] at hne ⊢
      refine wpAny_mono (h1 (fun e => by cases e)) (fun f s' q => ?_) fun _ _ e => e.elim
      obtain ⟨W', m', cv', hs, S', rf⟩ := q
      cases rf with
      | next => exact wpAny_mono (ih S' hne) (fun _ _ q => q.sub hs) fun _ _ e => e
      | brk => exact ⟨W', m', cv', hs, S', .brk⟩
      | cont => exact ⟨W', m', cv', hs, S', .cont⟩
      | ret h => exact ⟨W', m', cv', hs, S', .ret h⟩
    | exc =>
      rw [hr] at h1
      simp only [hr]
      exact wpAny_mono (h1 (fun e => by cases e)) (fun f s' q => q.elim) fun _ _ e => e
    | fail => simp only [hr] at hne; exact (hne trivial).elim

/-! ### stores -/
theorem fn_plain (Gd : Good tp c n) : (c.env.scope.kind == .class || (c.env.scope.kind == .module && c.env.locals != c.env.globals)) = false := by rw [Gd.fnk]; rfl

theorem setVar_ok (Gd : Good tp c n) (S : St c lo W m cv s) {x : Str} {v : LV} {u : Value} (hv : New c W s.heap u v) {lo' : Lo} (e : Ev.setVar c.sc x v lo = .ok () lo') {E : Value → Shared → Prop} :
    wpAny c.M c.A (storeName c.env x u) (fun _ s' => ∃ W' m' cv', Sub W.F W'.F ∧ St c lo' W' m' cv' s') E s := by
  unfold Ev.setVar at e
  split at e
  · rename_i hx
    cases e
    obtain ⟨hx, hp⟩ := hx
    rcases hx with hx | hx
    · have hk := isLocal_kind Gd hx
      refine wpAny_storeName_local hk S.inv.ns (fun h' hn hs => ?_) (fn_plain Gd)
      obtain ⟨O', I'⟩ := S.inv.store hk hv hn hs fun h e => hp ⟨e, Gd.pinned h⟩
      exact ⟨⟨W.F, O'⟩, _, _, Sub.refl _, S.gens, S.os, I'⟩
    · have hk : c.env.kindOf x = some .cell := by
        rcases Gd.kind x with e | ⟨e, _⟩
        · rw [e, hx]
        · rw [hx] at e; cases e
      obtain ⟨a, h1, h2, h3⟩ := Gd.cells x hx
      obtain ⟨p, hp, rfl⟩ := List.mem_map.mp h2
      refine wpAny_storeName_cell Gd.fnk hk h1 (S.inv.cells p hp) fun h' hn hs => ?_
      obtain ⟨O', I'⟩ := S.inv.storeCell hk h1 h2 h3 hv hn hs
      exact ⟨⟨W.F, O'⟩, _, _, Sub.refl _, S.gens, S.os, I'⟩
  · cases e

theorem setVar_no {sc : Scope} {x : Str} {v : LV} {lo : Lo} (h : Ev.setVar sc x v lo = .fail → False) : ∃ lo', Ev.setVar sc x v lo = .ok () lo' := by
  unfold Ev.setVar at h ⊢
  split
  · exact ⟨_, rfl⟩
  · rename_i hn; rw [if_neg hn] at h; exact (h rfl).elim

/-- a store, and on -/
theorem store_then (Gd : Good tp c n) (S : St c lo W m cv s) (hs : Sub F0 W.F) {x : Str} {v : LV} {u : Value} (hv : New c W s.heap u v) :
    AtS c F0 (((Ev.setVar c.sc x v).bind fun _ => R.ret Fl.next) lo) (fun Q E s => wpAny c.M c.A (storeName c.env x u) (fun _ s' => Q .next s') E s) s := by
  intro hne
  obtain ⟨lo', h⟩ := setVar_no (lift_ok hne)
  unfold R.bind
  simp only [h]
  refine wpAny_mono (setVar_ok Gd S hv h) (fun _ s' q => ?_) fun _ _ e => e
  obtain ⟨W', m', cv', h1, h2⟩ := q
  exact ⟨W', m', cv', hs.trans h1, h2, .next⟩

theorem swaps_bool (e : Expr) (x : Str) (px : Pos) (line : Nat) (env : Env) : ∃ b : Bool, swapsWith e (some (.Name x px)) line env = pure b ∧ (b = true → Ev.isComp e = true) := by
  cases e <;> first | exact ⟨false, rfl, fun h => nomatch h⟩ | exact ⟨_, rfl, fun _ => rfl⟩
theorem swaps_sub (e o i : Expr) (px : Pos) (line : Nat) (env : Env) : swapsWith e (some (.Subscript o i px)) line env = pure false := by
  cases e <;> rfl
theorem swaps_none (e : Expr) (line : Nat) (env : Env) (h : Ev.isComp e = false) : swapsWith e none line env = pure false := by
  cases e <;> first | rfl | cases h

theorem Assign_ok (H : SoundE tp n r) (Gd : Good tp c n) (S : St c lo W m cv s) (x : Str) (px : Pos) (e : Expr) (p : Pos) :
    AtS c W.F (((r.e c.sc e).bind fun v => (Ev.setVar c.sc x v).bind fun _ => R.ret Fl.next) lo) (fun Q E s => wpAny c.M c.A (exec (.Assign [.Name x px] e p) c.env) Q E s) s := by
  obtain ⟨b, hb, hc⟩ := swaps_bool e x px p.line c.env
  cases b with
  | false =>
    refine AtS.map ?_ fun Q E h => wpAny_Assign_Name h hb
    refine AtS.expr (H.e Gd S e) fun v lo₁ u s₁ W₁ S₁ h₁ r₁ => store_then Gd S₁ h₁ r₁
  | true =>
    refine AtS.map (H.u Gd S e x px (hc rfl)) fun Q E h => ?_
    have e0 : exec (.Assign [.Name x px] e p) c.env = (do
      standAt p
      if ← swapsWith e (some (.Name x px)) p.line c.env then
        evalThenUse e c.env (assign (.Name x px) c.env)
        return .next
      let v ← eval e c.env
      standAt px
      bindName c.env x v
      pure .next) := rfl
    rw [e0, hb]
    exact wpAny_bind (wpAny_standAt (wpAny_bind (wpAny_pure (wpAny_bind (wpAny_mono h (fun _ _ q => wpAny_pure q) fun _ _ e => e)))))

theorem addI_int {o v : PV} {l : LV} (h : Ev.addI o v = some l) : ∃ a b, o = .int a ∧ v = .int b ∧ l = .pv (.int (a + b)) := by
  obtain ⟨a, h1, h⟩ := ob h
  obtain ⟨b, h2, h⟩ := ob h
  exact ⟨a, b, keyI_eq h1, keyI_eq h2, (Option.some.inj h).symm⟩
end
end Mine
namespace Mine
open PySem PyProof.Rows PySem.W PySem.SeqAt

section
variable {prog : Program} {w : World} {A : Around} {E : Value → Shared → Prop} {s : Shared}
/-- a list's place is set, its object told whole -/
theorem setItem_lst {l : Addr} {items : Array Value} {n : Nat} {k : Int} {t : Tok} {v : Value} {Q : Unit → Shared → Prop} (ho : s.heap.get? l = some { cls := .type "list", dict := none, data := .seq items n, slots := #[] })
    (h0 : 0 ≤ k) (hfit : k < 2 ^ 63) (hn : k < items.size) (hQ : Q () { s with heap := s.heap.update l (Obj.mapSeq (·.setIfInBounds k.toNat v)) }) :
    wpAny (model prog w) A (setItem (.ref l) (.int k t) v) Q E s := by
  have hl : s.heap.IsList l items := ⟨_, ho, rfl, n, rfl⟩
  unfold setItem
  try with_reducible refine wpAny_holding ?_
  first | refine wpAny_bind (wpAny_pure ?_) | skip
  refine wpAny_bind (wpAny_sequenceKey hl.typeIs (by decide) ?_)
  refine wpAny_bind (wpAny_callSpecial?_slot (name := Str.ofString "__setitem__") hl.typeIs PySem.F.slot_list_setitem
    (wpAny_call_entry PySem.F.slot_list_setitem hl.typeIs PySem.F.entry_list_setitem ?_ (PySem.F.args_list_setitem_3 _ _ _)))
  show wpAny _ _ (Builtin.List.listSubscript? (.int k t) >>= _) _ _ s
  refine wpAny_bind (wpAny_listSubscript_int (fitsIndex_of h0 hfit) ?_)
  clear hfit
  obtain ⟨j, rfl⟩ := Int.eq_ofNat_of_zero_le h0
  have hj : j < items.size := by omega
  have hx' : items[j]? = some items[j] := Array.getElem?_eq_getElem hj
  show wpAny _ _ ((seqItemAt l j >>= fun r => pure (r.map (j, ·))) >>= _) _ _ s
  refine wpAny_bind (wpAny_bind (wpAny_seqItemAt ho rfl (wpAny_pure ?_)))
  rw [hx']
  show wpAny _ _ (setSeqItemAt l j v >>= _) _ _ s
  refine wpAny_bind (wpAny_setSeqItemAt ho rfl ?_)
  first
    | exact wpAny_bind (wpAny_pure (wpAny_pure ⟨.none, rfl, wpAny_pure hQ⟩))
    | exact wpAny_pure ⟨.none, rfl, wpAny_pure hQ⟩
end

section
variable {tp : TopP} {c : Cx} {m : Str → Option Value} {cv : Addr → Option Value} {lo : Lo} {W : Wd} {s : Shared} {n : Nat} {r : Ev} {F0 F1 : Led}

theorem Aug_ok (H : SoundE tp n r) (Gd : Good tp c n) (S : St c lo W m cv s) (x : Str) (px : Pos) (e : Expr) (p : Pos) :
    AtS c W.F (((nameR c.sc x).bind fun o => (r.pvE c.sc e).bind fun v => (R.lift (Ev.addI o v)).bind fun n => (Ev.setVar c.sc x n).bind fun _ => R.ret Fl.next) lo) (fun Q E s => wpAny c.M c.A (exec (.AugAssign (.Name x px) .Add e p) c.env) Q E s) s := by
  refine AtS.map ?_ fun Q E h => wpAny_AugAssign_Name h
  refine AtS.expr (loadN_ok Gd S x) fun o lo₁ u s₁ W₁ S₁ h₁ r₁ => ?_
  refine AtS.expr (G := fun v Q E s₂ => wpAny c.M c.A (inplaceOp .Add u v) (fun r s₃ => wpAny c.M c.A (storeName c.env x r) (fun _ => Q .next) E s₃) E s₂) (pvE_ok H Gd S₁ e) fun v lo₂ u' s₂ W₂ S₂ h₂ r₂ => ?_
  intro hne
  cases ha : Ev.addI o v with
  | none => unfold R.bind R.lift at hne; rw [ha] at hne; exact (hne rfl).elim
  | some l =>
    unfold R.bind R.lift at hne ⊢
    rw [ha] at hne
    obtain ⟨a, b, e1, e2, e3⟩ := addI_int ha
    rw [e1] at r₁
    rw [e2] at r₂
    rw [e3] at hne
    obtain ⟨t1, e4⟩ := r₁.toInt
    obtain ⟨t2, e5⟩ := r₂.toInt
    rw [e3, e4, e5]
    refine wpAny_iadd_int ?_
    exact store_then Gd (S₂.tok (s₂.toks + 1)) (h₁.trans h₂) (.pv (.int _ _)) hne

theorem If_ok (H : SoundE tp n r) (HS : SoundS tp n r) (Gd : Good tp c n) (S : St c lo W m cv s) (t : Expr) (b o : List Stmt) (p : Pos) :
    AtS c W.F (((r.b c.sc t).bind fun c' => if c' then r.ss c.sc b else r.ss c.sc o) lo) (fun Q E s => wpAny c.M c.A (exec (.If t b o p) c.env) Q E s) s := by
  refine AtS.map ?_ fun Q E h => wpAny_If h
  refine AtS.expr (G := fun b' Q E s₂ => if b' then wpAny c.M c.A (execs b c.env) Q E s₂ else wpAny c.M c.A (execs o c.env) Q E s₂) (H.b Gd S t) fun v lo₁ u s₁ W₁ S₁ h₁ r₁ => ?_
  obtain rfl : u = v := r₁
  intro hne
  cases u with
  | true => exact wpAny_mono (ss_ok HS Gd b S₁ hne) (fun _ _ q => q.sub h₁) fun _ _ e => e
  | false => exact wpAny_mono (ss_ok HS Gd o S₁ hne) (fun _ _ q => q.sub h₁) fun _ _ e => e

theorem While_ok (H : SoundE tp n r) (Gd : Good tp c n) (S : St c lo W m cv s) (t : Expr) (b : List Stmt) (p : Pos) :
    AtS c W.F (((r.b c.sc t).bind fun c' => if c' then R.fail else R.ret Fl.next) lo) (fun Q E s => wpAny c.M c.A (exec (.While t b [] p) c.env) Q E s) s := by
  intro hne
  have hr := H.b Gd S t (lift_ok hne)
  refine wpAny_While (codeAny_whileLoop (fun _ s' => s' = s) (fun k s' hs => ?_) 0 rfl)
  subst hs
  refine wpAny_passesOwn (passes Gd _) ?_
  unfold R.bind at hne ⊢
  cases hx : r.b c.sc t lo with
  | ok v lo₁ =>
    rw [hx] at hne hr
    refine wpAny_mono hr (fun b' s' q => ?_) fun _ _ e => e.elim
    obtain ⟨W₁, h₁, S₁, rfl⟩ := q
    cases b' with
    | true => exact (hne rfl).elim
    | false => exact wpAny_execs_nil ⟨W₁, m, cv, h₁, S₁, .next⟩
  | exc =>
    rw [hx] at hr
    exact wpAny_mono hr (fun b' s' q => q.elim) fun _ _ e => e
  | fail => rw [hx] at hne; exact (hne rfl).elim

theorem Return_ok (H : SoundE tp n r) (Gd : Good tp c n) (S : St c lo W m cv s) (e : Expr) (p : Pos) :
    AtS c W.F (((r.pvE c.sc e).bind fun v => R.ret (Fl.ret (.pv v))) lo) (fun Q E s => wpAny c.M c.A (exec (.Return (some e) p) c.env) Q E s) s := by
  refine AtS.map ?_ fun Q E h => wpAny_Return_some h
  exact AtS.expr (G := fun v Q E s => Q (.ret v) s) (pvE_ok H Gd S e) fun v lo₁ u s₁ W₁ S₁ h₁ r₁ => fun _ => ⟨W₁, m, cv, h₁, S₁, .ret (.pv r₁)⟩

theorem retOwn_own {x : Str} {lo : Lo} (h : retOwn x lo = .fail → False) : ∃ mo, getLo lo x = some (.own mo) ∧ retOwn x lo = .ok (.ret (.own mo)) lo := by
  unfold retOwn at h ⊢
  revert h
  generalize getLo lo x = o
  intro h
  rcases o with _ | (_ | mo)
  · exact (h rfl).elim
  · exact (h rfl).elim
  · exact ⟨_, rfl, rfl⟩
theorem RetOwn_ok (Gd : Good tp c n) (S : St c lo W m cv s) (x : Str) (px p : Pos) (hx : isLocal c.sc x = true) :
    AtS c W.F (retOwn x lo) (fun Q E s => wpAny c.M c.A (exec (.Return (some (.Name x px)) p) c.env) Q E s) s := by
  intro hne
  obtain ⟨mo, e, q⟩ := retOwn_own hne
  rw [q]
  obtain ⟨u, hu, rr⟩ := S.inv.los x _ e
  exact wpAny_Return_some (wpAny_Name (load_held Gd S hu (isLocal_ne hx).2 ⟨W, m, cv, Sub.refl _, S, .ret rr⟩) (isLocal_ne hx).1)

theorem Expr_ok (H : SoundE tp n r) (Gd : Good tp c n) (S : St c lo W m cv s) (e : Expr) (p : Pos) (he : Ev.isComp e = false) :
    AtS c W.F (((r.pvE c.sc e).bind fun p => if isNoneV p then R.ret Fl.next else R.fail) lo) (fun Q E s => wpAny c.M c.A (exec (.Expr e p) c.env) Q E s) s := by
  have hi : interactive c.env = false := by unfold interactive; rw [Gd.fnk]; rfl
  refine AtS.map ?_ fun Q E h => wpAny_Expr h hi (swaps_none e _ _ he)
  refine AtS.expr (G := fun v Q E s => match v with | .ref _ => False | _ => Q .next s) (pvE_ok H Gd S e) fun v lo₁ u s₁ W₁ S₁ h₁ r₁ => ?_
  by_cases h : isNoneV v = true
  · rw [if_pos h]
    rw [isNoneV_eq h] at r₁
    rw [show u = .none from r₁.inv]
    exact fun _ => ⟨W₁, m, cv, h₁, S₁, .next⟩
  · rw [if_neg h]; exact fun h => (h rfl).elim

/-! ### x[k] = v -/
theorem bind_ok {α β : Type} {x : R α} {f : α → R β} {lo lo' : Lo} {a : α} (h : x lo = .ok a lo') : x.bind f lo = f a lo' := by unfold R.bind; rw [h]
theorem bind_exc {α β : Type} {x : R α} {f : α → R β} {lo : Lo} (h : x lo = .exc) : x.bind f lo = .exc := by unfold R.bind; rw [h]
theorem bind_fail {α β : Type} {x : R α} {f : α → R β} {lo : Lo} (h : x lo = .fail) : x.bind f lo = .fail := by unfold R.bind; rw [h]
theorem putItem_cases {mo mo' : MO} {k p : PV} (h : Ev.putItem mo k p = some mo') : (Ev.MO.size mo < 2 ^ 20 ∧ dset mo k p = some mo') ∨
    ∃ l i, mo = .lst l ∧ k = .int i ∧ (0 ≤ i ∧ i < l.length ∧ l.length < 2 ^ 20) ∧ mo' = .lst (l.set i.toNat p) := by
  cases mo with
  | lst l =>
    cases k with
    | int i =>
      obtain ⟨hi, h⟩ := ite_some (show (if 0 ≤ i ∧ i < l.length ∧ l.length < 2 ^ 20 then some (MO.lst (l.set i.toNat p)) else none) = some mo' from h)
      exact .inr ⟨l, i, rfl, rfl, hi, (Option.some.inj h).symm⟩
    | _ => exact .inl (ite_some h)
  | dcti => exact .inl (ite_some h)
  | dcts => exact .inl (ite_some h)
  | dctt => exact .inl (ite_some h)
theorem putItem_ok (Gd : Good tp c n) (S : St c lo W m cv s) {x : Str} {mo mo' : MO} {a : Addr} {fo : FO} {k p : PV} {u v : Value} (e : getLo lo x = some (.own mo)) (hu : Held c m cv x (.ref a)) (ha : (a, fo) ∈ W.O) (hr : FORep W.F fo mo)
    (rk : VRep W.F u k) (rv : VRep W.F v p) (h : Ev.putItem mo k p = some mo') {E : Value → Shared → Prop} :
    wpAny c.M c.A (setItem (.ref a) u v) (fun _ s' => ∃ W', Sub W.F W'.F ∧ St c (setLo lo x (.own mo')) W' m cv s') E s := by
  have tab : ∀ {mo'}, Ev.MO.size mo < 2 ^ 20 → dset mo k p = some mo' → wpAny c.M c.A (setItem (.ref a) u v) (fun _ s' => ∃ W', Sub W.F W'.F ∧ St c (setLo lo x (.own mo')) W' m cv s') E s := by
    intro mo' hz hd
    refine wpAny_mono (dset_step (T := setItem (.ref a) u v) S.standsF ⟨?_, ?_⟩ (S.inv.own _ ha) hr rk rv hz hd) (fun _ s' q => ?_) fun _ _ e => e
    · intro K _ knd kvs kk hk hm hl Q hQ
      exact wpAny_setItem_pairs hk hm hQ hl
    · intro xs kk b hb hk hm hl Q hQ
      subst hb
      exact wpAny_setItem_heap (knd := tupleKind (intKind c.prog c.w)) (show c.A.units + 1 < cLine by have := Gd.units; omega) hk hm (fun h' h1 h2 => hQ h' _ h1 h2) hl
    · obtain ⟨h', t, fo', es, hs, ho, hf⟩ := q
      rw [es]
      exact ⟨⟨W.F, repl W.O a fo'⟩, Sub.refl _, S.gens, S.os, S.inv.turn e hu ha hf ho fun b o hb eo => (hs.2 b hb).trans eo⟩
  rcases putItem_cases h with ⟨hz, h⟩ | ⟨l, i, e1, e2, hi, h⟩
  · exact tab hz h
  · rw [e1] at hr e
    rw [e2] at rk
    cases hr with | @lst vs _ hr =>
    obtain ⟨t, et⟩ := rk.toInt
    obtain ⟨o, ho, kk, eo⟩ := S.inv.own _ ha
    rw [eo] at ho
    rw [et, h]
    refine setItem_lst ho hi.1 (by omega) (by rw [List.size_toArray, hr.length]; exact hi.2.1) ?_
    exact ⟨⟨W.F, repl W.O a (.lst (vs.set i.toNat v))⟩, Sub.refl _, S.turnL e hu ha ho (by simp) (hr.set rv _) s.toks⟩

theorem ownAny_own {α : Type} {x : Str} {t : R α} {lo : Lo} (h : Ev.ownAny x t lo = .fail → False) : ∃ mo, getLo lo x = some (.own mo) ∧ Ev.ownAny x t lo = t lo := by
  unfold Ev.ownAny at h ⊢
  revert h
  generalize getLo lo x = o
  intro h
  rcases o with _ | (_ | mo)
  · exact (h rfl).elim
  · exact (h rfl).elim
  · exact ⟨_, rfl, rfl⟩
theorem storeItem_own {sc : Scope} {x : Str} {k v : PV} {lo : Lo} (hx : isLocal sc x = true) (h : Ev.storeItem sc x k v lo = .fail → False) : ∃ mo mo', getLo lo x = some (.own mo) ∧ Ev.putItem mo k v = some mo' ∧ Ev.storeItem sc x k v lo = .ok () (setLo lo x (.own mo')) := by
  unfold Ev.storeItem at h ⊢
  rw [if_pos hx] at h ⊢
  revert h
  generalize getLo lo x = o
  intro h
  rcases o with _ | (_ | mo)
  · exact (h rfl).elim
  · exact (h rfl).elim
  · revert h
    dsimp only
    generalize hp : Ev.putItem mo k v = o
    intro h
    cases o with
    | none => exact (h rfl).elim
    | some mo' => exact ⟨mo, mo', rfl, hp, rfl⟩
theorem StoreItem_ok (H : SoundE tp n r) (Gd : Good tp c n) (S : St c lo W m cv s) (x : Str) (px : Pos) (k : Expr) (kp : Pos) (e : Expr) (p : Pos) :
    AtS c W.F (((r.pvE c.sc e).bind fun v => if isLocal c.sc x then Ev.ownAny x ((r.pvE c.sc k).bind fun kp => (Ev.storeItem c.sc x kp v).bind fun _ => R.ret Fl.next) else R.fail) lo)
      (fun Q E s => wpAny c.M c.A (exec (.Assign [.Subscript (.Name x px) k kp] e p) c.env) Q E s) s := by
  refine AtS.map ?_ fun Q E h => wpAny_Assign_Subscript h (swaps_sub _ _ _ _ _ _)
  refine AtS.expr (G := fun v Q E s₁ => wpAny c.M c.A (eval (.Name x px) c.env) (fun ov s₂ => wpAny c.M c.A (eval k c.env) (fun iv s₃ => wpAny c.M c.A (setItem ov iv v) (fun _ => Q .next) E s₃) E s₂) E s₁)
    (pvE_ok H Gd S e) fun v lo₁ u s₁ W₁ S₁ h₁ r₁ => ?_
  by_cases hx : isLocal c.sc x = true
  rotate_left
  · rw [if_neg hx]; exact fun h => (h rfl).elim
  rw [if_pos hx]
  intro hne
  obtain ⟨mo₁, e₁, q⟩ := ownAny_own hne
  rw [q] at hne ⊢
  obtain ⟨ou, hu, _⟩ := S₁.inv.los x _ e₁
  refine wpAny_Name (load_held Gd S₁ hu (isLocal_ne hx).2 ?_) (isLocal_ne hx).1
  refine AtS.expr (F0 := W.F) (G := fun iv Q E s₃ => wpAny c.M c.A (setItem ou iv u) (fun _ => Q .next) E s₃) (pvE_ok H Gd S₁ k) (fun kp lo₂ u' s₂ W₂ S₂ h₂ r₂ => ?_) hne
  intro hne
  obtain ⟨mo₂, mo', e₂, hp, q⟩ := storeItem_own hx (lift_ok hne)
  rw [bind_ok q]
  obtain ⟨a, fo, ea, ha, hr⟩ := S₂.inv.own_at (fun _ _ _ h1 h2 => S₂.inv.fn h1 h2) e₂ hu
  rw [ea] at hu ⊢
  refine wpAny_mono (putItem_ok Gd S₂ e₂ hu ha hr r₂ (VRep.sub r₁ h₂) hp) (fun _ s' q => ?_) fun _ _ e => e
  obtain ⟨W', hs, S'⟩ := q
  exact ⟨W', m, cv, (h₁.trans h₂).trans hs, S', .next⟩
end
end Mine
namespace Mine
open PySem PyProof.Rows PySem.W PySem.SeqAt

section
variable {tp : TopP} {c : Cx} {m : Str → Option Value} {cv : Addr → Option Value} {lo : Lo} {W : Wd} {s : Shared} {n : Nat} {r : Ev} {F0 F1 : Led}

/-- what an iterator stands on stays through a turn -/
theorem IterAt.fps_base {items : List PV} {P : Nat → Value → Prop} {SI : Nat → Heap → Prop} {fp : List Addr} {I : Addr} (It : IterAt c lo W m cv items P SI fp I s) {lo' : Lo} {W' : Wd} {m' : Str → Option Value} {cv' : Addr → Option Value} {h : Heap}
    (hs : Sub W.F W'.F) (I' : Inv c lo' W' m' cv' h) (hI : I ∉ muts c W'.O) {b : Addr} (hb : b ∈ fp) : b ∉ muts c W'.O := by
  rcases It.fps b hb with rfl | ⟨fo, hf⟩
  · exact hI
  · exact I'.off _ (hs _ hf)

/-- the iterator moves on: the rest stands -/
theorem St.moved (S : St c lo W m cv s) {I : Addr} (f : Free c W I) {h' : Heap} {tk : Nat} (hk : ∀ b o, b ∉ [I] → s.heap.get? b = some o → h'.get? b = some o) : St c lo W m cv { s with heap := h', toks := tk } :=
  ⟨S.gens, S.os, S.inv.but f fun b o hb e => hk b o (by simpa using hb) e⟩

theorem forGo_cons {x : Str} {sc : Scope} {body : R Fl} {p : PV} {ps : List PV} {lo : Lo} : Ev.forGo x sc body (p :: ps) lo = (match Ev.setVar sc x (.pv p) lo with
    | .ok _ lo₁ => (match body lo₁ with
      | .ok fl lo₂ => (match fl with
        | .next => Ev.forGo x sc body ps lo₂
        | .cont => Ev.forGo x sc body ps lo₂
        | .brk => .ok .next lo₂
        | .ret v => .ok (.ret v) lo₂)
      | .exc => .exc
      | .fail => .fail)
    | .exc => .exc
    | .fail => .fail) := by
  show ((Ev.setVar sc x (.pv p)).bind fun _ => body.bind fun f => match f with | .next | .cont => Ev.forGo x sc body ps | .brk => R.ret .next | .ret v => R.ret (.ret v)) lo = _
  cases h1 : Ev.setVar sc x (.pv p) lo with
  | ok a lo₁ =>
    rw [bind_ok h1]
    dsimp only
    cases h2 : body lo₁ with
    | ok fl lo₂ => rw [bind_ok h2]; cases fl <;> rfl
    | exc => rw [bind_exc h2]
    | fail => rw [bind_fail h2]
  | exc => rw [bind_exc h1]
  | fail => rw [bind_fail h1]
theorem setVar_exc {sc : Scope} {x : Str} {v : LV} {lo : Lo} : Ev.setVar sc x v lo ≠ .exc :=
  ite_or (P := fun z : Res Unit => z ≠ .exc) (fun _ h => nomatch h) fun _ h => nomatch h
/-- a for's loop before its turn i -/
noncomputable def ForI (c : Cx) (W : Wd) (SI : Nat → Heap → Prop) (I : Addr) (i : Nat) (lo' : Lo) (s' : Shared) : Prop := ∃ W' m' cv', St c lo' W' m' cv' s' ∧ Sub W.F W'.F ∧ SI i s'.heap ∧ Free c W' I
noncomputable def InvF (c : Cx) (W : Wd) (SI : Nat → Heap → Prop) (I : Addr) (go : List PV → R Fl) (items : List PV) (R0 : Res Fl) (k : Nat) (s' : Shared) : Prop :=
  ∃ i lo', k = items.length + 1 - i ∧ i ≤ items.length ∧ ForI c W SI I i lo' s' ∧ go (items.drop i) lo' = R0
/-- the frame of one turn, and the way back -/
theorem turn_frame (Gd : Good tp c n) {W : Wd} (S : St c lo W m cv s) : ∃ b, Good tp (c.rebase b W.F) n ∧ St (c.rebase b W.F) lo W m cv s ∧ (∀ a o, s.heap.get? a = some o → a ∉ muts c W.O → b.get? a = some o) ∧
    ∀ lo' W' m' cv' s', St (c.rebase b W.F) lo' W' m' cv' s' → St c lo' W' m' cv' s' ∧ (∀ a o, b.get? a = some o → s'.heap.get? a = some o) ∧ ∀ a ∈ muts c W'.O, b.get? a = none := by
  have hkb : c.base.StaysIn (hideAll s.heap (muts c W.O)) := hide_stays S.inv.keep S.inv.new
  refine ⟨_, Gd.rebase (Fs := W.F) hkb, S.rebase, fun a o e h => hideAll_get _ e h, fun lo' W' m' cv' s' S' => ?_⟩
  obtain ⟨h1, h2⟩ := S'.unbase hkb S.inv.sys S.inv.fresh
  exact ⟨h1, h2, S'.inv.new⟩
theorem for_turn (H : SoundS tp n r) (Gd : Good tp c n) {items : List PV} {P : Nat → Value → Prop} {SI : Nat → Heap → Prop} {fp : List Addr} {I : Addr} (It : IterAt c lo W m cv items P SI fp I s) {x : Str} {px : Pos} {body : List Stmt}
    {i : Nat} {lo' : Lo} {W' : Wd} {m' : Str → Option Value} {cv' : Addr → Option Value} {s' : Shared} (S : St c lo' W' m' cv' s') (hs : Sub W.F W'.F) (hF : Free c W' I) (hSI : SI (i + 1) s'.heap) {p : PV} {v : Value} (rv : VRep W.F v p)
    {lo₁ : Lo} (hv : Ev.setVar c.sc x (.pv p) lo' = .ok () lo₁) (hbody : r.ss c.sc body lo₁ = .fail → False) {E E' : Value → Shared → Prop} (hE : r.ss c.sc body lo₁ = .exc → ∀ e s', c.E e s' → E e s') {Q : Flow → Shared → Prop}
    (hQ : ∀ fl lo₂ f s₄ W₄, r.ss c.sc body lo₁ = .ok fl lo₂ → RelF W₄ fl f → (∃ m₄ cv₄, St c lo₂ W₄ m₄ cv₄ s₄) → Sub W.F W₄.F → ForI c W SI I (i + 1) lo₂ s₄ → Q f s₄) :
    wpAny c.M c.A (assign (.Name x px) c.env v) (fun _ s₃ => wpAny c.M c.A (execs body c.env) Q E s₃) E' s' := by
  obtain ⟨b, Gd', S₂, hb, back⟩ := turn_frame Gd S
  obtain ⟨oI, vsI, hoI, hdI⟩ := It.obj _ _ hSI
  have hIb := hb _ _ hoI hF.away
  refine wpAny_assign_Name (wpAny_mono (setVar_ok (c := c.rebase b W'.F) Gd' S₂ (.pv (rv.mono hs)) hv) (fun _ s₃ q => ?_) fun _ _ e => e)
  obtain ⟨W₃, m₃, cv₃, hs₃, S₃⟩ := q
  have hbd := ss_ok (c := c.rebase b W'.F) H Gd' body S₃
  rw [show (c.rebase b W'.F).sc = c.sc from rfl] at hbd
  refine wpAny_mono (hbd hbody) (fun f s₄ q => ?_) fun e s₄ q => ?_
  · cases hres : r.ss c.sc body lo₁ with
    | ok fl lo₂ =>
      rw [hres] at q
      obtain ⟨W₄, m₄, cv₄, hs₄, S₄, rf⟩ := q
      obtain ⟨S₅, hk₅, hnew⟩ := back _ _ _ _ _ S₄
      have hsub : Sub W.F W₄.F := (hs.trans hs₃).trans hs₄
      refine hQ fl lo₂ f s₄ W₄ hres rf ⟨m₄, cv₄, S₅⟩ hsub ⟨W₄, m₄, cv₄, S₅, hsub, It.walks.frame _ _ _ hSI fun a ha o e => hk₅ _ _ (hb _ _ e (It.fps_base hs S.inv hF.away ha)), fun hm => ?_, not_fixed S₅.inv.fix (hk₅ _ _ hIb) hdI, hF.based⟩
      have h1 := hnew I hm
      rw [hIb] at h1; cases h1
    | exc => rw [hres] at q; exact q.elim
    | fail => exact (hbody hres).elim
  · cases hres : r.ss c.sc body lo₁ with
    | ok fl lo₂ => rw [hres] at q; exact q.elim
    | exc => rw [hres] at q; exact hE hres _ _ q
    | fail => exact (hbody hres).elim
theorem forLoop_ok (H : SoundS tp n r) (Gd : Good tp c n) {items : List PV} {P : Nat → Value → Prop} {SI : Nat → Heap → Prop} {fp : List Addr} {I : Addr} (It : IterAt c lo W m cv items P SI fp I s) (x : Str) (px : Pos) (body : List Stmt) :
    AtS c W.F (Ev.forGo x c.sc (r.ss c.sc body) items lo)
      (fun Q E s => codeAny c.M c.A (.forLoop (.Name x px) (.ref I) body [] c.env) (fun r s' => match r with | .ok f => Q f s' | .error e => cameBackBy c.M c.A c.env E e s') s) s := by
  intro hne
  generalize hR : Ev.forGo x c.sc (r.ss c.sc body) items lo = R0 at hne ⊢
  refine codeAny_forLoop (InvF c W SI I (Ev.forGo x c.sc (r.ss c.sc body)) items R0) (fun k s' h => ?_) (items.length + 1)
    ⟨0, lo, rfl, Nat.zero_le _, ⟨W, m, cv, It.st, Sub.refl _, It.at0, It.free⟩, by rw [List.drop_zero]; exact hR⟩
  obtain ⟨i, lo', hk, hi, ⟨W', m', cv', S, hs, hSI, hF⟩, hR'⟩ := h
  rw [hk]
  clear hR hk
  rcases Nat.lt_or_ge i items.length with hlt | hge
  · refine It.walks.item i s' _ _ hlt hSI fun v h' tk hP hSI' hk => ?_
    obtain ⟨p, hp, rv⟩ := It.itm i v hlt hP
    rw [show items.drop i = p :: items.drop (i + 1) by
      obtain ⟨_, e⟩ := List.getElem?_eq_some_iff.mp hp
      rw [← e]; exact List.drop_eq_getElem_cons hlt, forGo_cons] at hR'
    cases hv : Ev.setVar c.sc x (.pv p) lo' with
    | exc => exact absurd hv setVar_exc
    | fail => rw [hv] at hR'; exact (hne hR'.symm).elim
    | ok _ lo₁ =>
      rw [hv] at hR'
      dsimp only at hR'
      refine for_turn H Gd It (S.moved hF (tk := tk) hk) hs hF hSI' rv hv (fun e => by rw [e] at hR'; exact hne hR'.symm) (fun e _ _ h => ?_) fun fl lo₂ f s₄ W₄ hres rf S₄ hsub hI => ?_
      · rw [e] at hR'
        have hR' : Res.exc = R0 := hR'
        exact passes Gd R0 _ _ (by rw [← hR']; exact h)
      · rw [hres] at hR'
        have again : Ev.forGo x c.sc (r.ss c.sc body) (items.drop (i + 1)) lo₂ = R0 → ∃ k', k' < items.length + 1 - i ∧ InvF c W SI I (Ev.forGo x c.sc (r.ss c.sc body)) items R0 k' s₄ := fun h => ⟨items.length + 1 - (i + 1), by omega, i + 1, lo₂, rfl, hlt, hI, h⟩
        obtain ⟨m₄, cv₄, S₅⟩ := S₄
        cases rf with
        | next => exact again hR'
        | cont => exact again hR'
        | brk => rw [← show Res.ok Fl.next lo₂ = R0 from hR']; exact ⟨W₄, m₄, cv₄, hsub, S₅, .next⟩
        | ret h => rw [← show Res.ok (Fl.ret _) lo₂ = R0 from hR']; exact ⟨W₄, m₄, cv₄, hsub, S₅, .ret h⟩
  · refine It.walks.done s' _ _ ((Nat.le_antisymm hi hge) ▸ hSI) fun h' tk hk => ?_
    rw [List.drop_of_length_le hge] at hR'
    rw [← show Res.ok Fl.next lo' = R0 from hR']
    exact wpAny_execs_nil ⟨W', m', cv', hs, S.moved hF hk, .next⟩
end
end Mine
namespace Mine
open PySem PyProof.Rows PySem.W PySem.SeqAt

section
variable {tp : TopP} {c : Cx} {m : Str → Option Value} {cv : Addr → Option Value} {lo : Lo} {W : Wd} {s : Shared} {n : Nat} {r : Ev} {F0 F1 : Led}

theorem small_range (k : Int) (h0 : 0 ≤ k) (h : k < 2 ^ 20) : Builtin.Range.small 0 k 1 = true := by
  have hs : Builtin.Range.rangeSize 0 k 1 = if 0 < k then k - 0 else 0 := rangeSize_one 0 k
  unfold Builtin.Range.small
  rw [hs]
  unfold Builtin.Range.rangeFitsLong
  simp only [Bool.and_eq_true, Bool.or_eq_true, decide_eq_true_eq, beq_iff_eq]
  split <;> simp <;> omega

theorem iter_range (Gd : Good tp c n) (S : St c lo W m cv s) {p : PV} {items : List PV} {u : Value} (r1 : VRep W.F u p) (e : Ev.rangeOf p = some items) :
    wpAny c.M c.A (call (.type "range") [u]) (fun rv s' => wpAny c.M c.A (pyIter rv) (fun it s' => ∃ I fp P SI, it = .ref I ∧ IterAt c lo W m cv items P SI fp I s') No s') No s := by
  unfold Ev.rangeOf at e
  split at e
  · rename_i k
    split at e
    · rename_i hk
      cases e
      cases r1 with
      | int _ t =>
      refine call_range_1 ?_
      have S₁ := S.push { cls := .type "range", data := .fields #[.int 0 s.toks, .int k t, .int 1 (s.toks + 1)] } (s.toks + 1 + 1)
      refine wpAny_pyIter_range (a := 0) (b := k) (c := 1) (IsRange.new ..) (small_range k hk.1 hk.2) ?_
      obtain ⟨j, rfl⟩ := Int.eq_ofNat_of_zero_le hk.1
      have hs : Builtin.Range.rangeSize 0 (j : Int) 1 = (j : Int) := by rw [rangeSize_one]; split <;> omega
      rw [hs]
      have S₂ := S₁.push { cls := .type "range_iterator", data := .fields #[rawInt 0, rawInt (j : Int), rawInt 1] } (s.toks + 1 + 1)
      refine ⟨_, [_], fun i v => ∃ t, v = .int (0 + (i : Int) * 1) t, fun i h => IsRangeIter h (s.heap.push { cls := .type "range", data := .fields #[.int 0 s.toks, .int j t, .int 1 (s.toks + 1)] }).objs.size (0 + (i : Nat) * 1) ((j : Int) - (i : Nat)) 1, rfl,
        ⟨?_, by simp; rw [sizeLine_eq]; omega, fun b hb => .inl (by simpa using hb), fun i h hi => ⟨_, _, hi, rfl⟩, fun i v hi hv => ?_, S₁.inv.free (Nat.le_refl _), S₂, ?_⟩⟩
      · have := Walks.range (prog := c.prog) (w := c.w) (A := c.A) Gd.handled (s.heap.push { cls := .type "range", data := .fields #[.int 0 s.toks, .int j t, .int 1 (s.toks + 1)] }).objs.size 0 1 j
        simpa using this
      · obtain ⟨t, rfl⟩ := hv
        have hi : i < j := by simpa using hi
        refine ⟨.int (i : Int), by simp [hi], ?_⟩
        rw [show (0 + (i : Int) * 1) = (i : Int) by omega]
        exact .int _ _
      · have := Heap.get?_push_size (s.heap.push { cls := .type "range", data := .fields #[.int 0 s.toks, .int (j : Int) t, .int 1 (s.toks + 1)] }) (o := { cls := .type "range_iterator", data := .fields #[rawInt 0, rawInt (j : Int), rawInt 1] }) rfl
        simpa using this
    · cases e
  · cases e

theorem folded_plain {e : Expr} {env : Env} (h : ∀ a b d, e ≠ .Set a b d) (x : Value) : foldedSetIterable e env x = pure x := by
  cases e <;> first | rfl | exact absurd rfl (h _ _ _)

theorem small_some {l items : List PV} (h : small l = some items) : items = l ∧ l.length < 2 ^ 20 := by
  unfold small at h
  split at h
  · cases h; exact ⟨rfl, ‹_›⟩
  · cases h

/-- a loop over what stands -/
theorem ForSeq_ok (H : SoundE tp n r) (HS : SoundS tp n r) (Gd : Good tp c n) (S : St c lo W m cv s) (x : Str) (px : Pos) (it : Expr) (body : List Stmt) (p : Pos) (hit : ∀ a b d, it ≠ .Set a b d) :
    AtS c W.F ((((r.pvE c.sc it).bind fun p => R.lift ((itemsOf p).bind small)).bind fun items => Ev.forGo x c.sc (r.ss c.sc body) items) lo) (fun Q E s => wpAny c.M c.A (exec (.For (.Name x px) it body [] p) c.env) Q E s) s := by
  refine AtS.map ?_ fun Q E h => wpAny_For h (folded_plain hit)
  have assoc : ∀ {α β : Type} (f : R α) (g : α → R β) (k : β → R Fl), ((f.bind g).bind k) = f.bind fun a => (g a).bind k := by
    intro α β f g k; funext lo; unfold R.bind; dsimp only; cases f lo <;> rfl
  rw [assoc]
  refine AtS.expr (G := fun u Q E s₁ => wpAny c.M c.A (pyIter u) (fun it' s₂ => codeAny c.M c.A (.forLoop (.Name x px) it' body [] c.env) (fun r s' => match r with | .ok f => Q f s' | .error e => cameBackBy c.M c.A c.env E e s') s₂) E s₁)
    (pvE_ok H Gd S it) fun q lo₁ u s₁ W₁ S₁ h₁ r₁ => ?_
  intro hne
  cases hi : (itemsOf q).bind small with
  | none => unfold R.bind R.lift at hne; rw [hi] at hne; exact (hne rfl).elim
  | some items =>
    obtain ⟨l, hl, hsm⟩ := Option.bind_eq_some_iff.mp hi
    obtain ⟨rfl, hlen⟩ := small_some hsm
    unfold R.bind R.lift at hne ⊢
    rw [hi] at hne
    refine wpAny_mono (iter_seq Gd S₁ r₁ hl hlen) (fun it' s₂ q => ?_) fun _ _ e => e.elim
    obtain ⟨I, fp, P, SI, rfl, It⟩ := q
    refine codeAny_mono (forLoop_ok HS Gd It x px body hne) fun r' s' h => ?_
    cases r' with
    | ok f => exact h.sub h₁
    | error e => exact h

theorem ForRange_ok (H : SoundE tp n r) (HS : SoundS tp n r) (Gd : Good tp c n) (S : St c lo W m cv s) (x : Str) (px : Pos) (gp : Pos) (a : Expr) (cp : Pos) (body : List Stmt) (p : Pos) (hg : isGlob c.sc "range" = true) (hs : Ev.isStar a = false) :
    AtS c W.F ((((r.pvE c.sc a).bind fun p => R.lift (Ev.rangeOf p)).bind fun items => Ev.forGo x c.sc (r.ss c.sc body) items) lo) (fun Q E s => wpAny c.M c.A (exec (.For (.Name x px) (.Call (.Name "range" gp) [a] [] cp) body [] p) c.env) Q E s) s := by
  refine AtS.map (G := fun Q E s => wpAny c.M c.A (eval a c.env) (fun u s₁ => wpAny c.M c.A (call (.type "range") ([] ++ [u])) (fun rv s₂ => wpAny c.M c.A (pyIter rv) (fun it' s₂ => codeAny c.M c.A (.forLoop (.Name x px) it' body [] c.env) (fun r s' => match r with | .ok f => Q f s' | .error e => cameBackBy c.M c.A c.env E e s') s₂) E s₂) E s₁) E s) ?_ fun Q E h => ?_
  rotate_left
  · refine wpAny_For ?_ (folded_plain fun _ _ _ e => nomatch e)
    refine call_name (bt_name Gd S hg (by simp) boot_range (by decide) ?_)
    refine callWith_machine (by simp) (by simpa using hs) (one_items hs ?_)
    exact h
  have assoc : ∀ {α β : Type} (f : R α) (g : α → R β) (k : β → R Fl), ((f.bind g).bind k) = f.bind fun a => (g a).bind k := by
    intro α β f g k; funext lo; unfold R.bind; dsimp only; cases f lo <;> rfl
  rw [assoc]
  refine AtS.expr (G := fun u Q E s₁ => wpAny c.M c.A (call (.type "range") ([] ++ [u])) (fun rv s₂ => wpAny c.M c.A (pyIter rv) (fun it' s₂ => codeAny c.M c.A (.forLoop (.Name x px) it' body [] c.env) (fun r s' => match r with | .ok f => Q f s' | .error e => cameBackBy c.M c.A c.env E e s') s₂) E s₂) E s₁)
    (pvE_ok H Gd S a) fun q lo₁ u s₁ W₁ S₁ h₁ r₁ => ?_
  intro hne
  cases hi : Ev.rangeOf q with
  | none => unfold R.bind R.lift at hne; rw [hi] at hne; exact (hne rfl).elim
  | some items =>
    unfold R.bind R.lift at hne ⊢
    rw [hi] at hne
    refine wpAny_mono (iter_range Gd S₁ r₁ hi) (fun rv s₂ q => wpAny_mono q (fun it' s₃ q => ?_) fun _ _ e => e.elim) fun _ _ e => e.elim
    obtain ⟨I, fp, P, SI, rfl, It⟩ := q
    refine codeAny_mono (forLoop_ok HS Gd It x px body hne) fun r' s' h => ?_
    cases r' with
    | ok f => exact h.sub h₁
    | error e => exact h
end
end Mine
namespace Mine
open PySem PyProof.Rows PySem.W PySem.SeqAt

noncomputable def Cx.calleeN (c : Cx) (h : Heap) (lent : List Addr) (F : Led) (sc : Scope) (env : Env) (la : Option Addr) : Cx :=
  { prog := c.prog, w := c.w, base := hideAll h (c.x.ls ++ lent), os := c.os, sc, env, cl := env.cells, X := c.x.ls.map fun L => (L, upto (h.get? L)), A := c.A.deeper env, E := No,
    x := { c.x with fenv := env, outer := c.x.frs }, Fs := F, la }
noncomputable def Cx.callee (c : Cx) (h : Heap) (lent : List Addr) (F : Led) (sc : Scope) (env : Env) (la : Option Addr) : Cx := { c.calleeN h lent F sc env la with E := Arr (c.calleeN h lent F sc env la) }

section
variable {tp : TopP} {c : Cx} {m : Str → Option Value} {cv : Addr → Option Value} {lo : Lo} {W : Wd} {s : Shared} {n : Nat} {r : Ev} {F0 F1 : Led}

theorem ls_muts (Gd : Good tp c n) {L : Addr} (h : L ∈ c.x.ls) (O : Led) : L ∈ muts c O := by
  unfold XC.ls at h
  obtain ⟨e, he, hf⟩ := List.mem_filterMap.mp h
  obtain ⟨_, L', h1, h2⟩ := Gd.frk e he
  rw [h1] at hf; cases hf
  rcases h2 with rfl | ⟨P, h2, _⟩
  · exact List.mem_cons_self
  · exact List.mem_cons_of_mem _ (List.mem_append_right _ (List.mem_append_left _ (List.mem_map.mpr ⟨_, h2, rfl⟩)))

theorem ns_obj {h : Heap} {a : Addr} (hn : h.Ns a m) : ∃ o, h.get? a = some o ∧ NsP m o := let ⟨o, es, ep, h1, h2, h3, h4⟩ := hn; ⟨o, h1, es, ep, h2, h3, h4⟩

/-- a frame's table -/
theorem ls_obj (Gd : Good tp c n) (I : Inv c lo W m cv s.heap) {L : Addr} (h : L ∈ c.x.ls) : ∃ o, s.heap.get? L = some o ∧ ∀ vs, o.data ≠ .fields vs := by
  unfold XC.ls at h
  obtain ⟨e, he, hf⟩ := List.mem_filterMap.mp h
  obtain ⟨_, L', h1, h2⟩ := Gd.frk e he
  rw [h1] at hf; cases hf
  rcases h2 with rfl | ⟨P, h2, st⟩
  · obtain ⟨o, h3, h4⟩ := ns_obj I.ns
    exact ⟨o, h3, fun vs => (NsP.stab m).nf o vs h4⟩
  · obtain ⟨o, h3, h4⟩ := I.ext _ h2
    exact ⟨o, h3, fun vs => st.nf o vs h4⟩

theorem upto_stab {h : Heap} {L : Addr} {o : Obj} (ho : h.get? L = some o) (hn : ∀ vs, o.data ≠ .fields vs) : Stab (upto (h.get? L)) :=
  ⟨fun o' sl ⟨o1, sl1, e, e'⟩ => ⟨o1, sl, e, by rw [e']⟩, fun o' vs ⟨o1, sl1, e, e'⟩ => by rw [ho] at e; cases e; rw [e']; exact hn vs⟩

theorem lent_stays (Gd : Good tp c n) (I : Inv c lo W m cv s.heap) {lent : List Addr} (hl : ∀ a ∈ lent, a ∈ muts c W.O) : c.base.StaysIn (hideAll s.heap (c.x.ls ++ lent)) := fun b o e =>
  hideAll_get _ (I.keep b o e) fun hm => by
    have : b ∈ muts c W.O := by
      rcases List.mem_append.mp hm with h | h
      · exact ls_muts Gd h _
      · exact hl _ h
    rw [I.new b this] at e; cases e

theorem Good.callee (Gd : Good tp c (n + 1)) (I : Inv c lo W m cv s.heap) {lent : List Addr} (hl : ∀ a ∈ lent, a ∈ muts c W.O) {sc : Scope} {env : Env} {F : Led} (hsc : env.scope.names = sc.names) (hek : env.scope.kind = .function) {la : Option Addr} (hla : la ≠ none → sc.isCoroutine = true) (hg : env.globals = mainGlobals) (hb : env.builtins = builtinsNs)
    (hf : env.frame = some env.locals) (hnew : s.heap.objs.size ≤ env.locals)
    (hcells : ∀ x, sc.names.lookup x = some .cell → ∃ a, env.cells.lookup x = some a ∧ a ∈ env.cells.map (·.2) ∧ ∀ y, y ≠ x → env.cells.lookup y ≠ some a)
    (hlent : ∀ a ∈ lent, ∀ p ∈ c.x.Fp, p.1 ≠ a) :
    Good tp (c.callee s.heap lent F sc env la) n where
  tops := Gd.tops.keeps (lent_stays Gd I hl)
  kind := fun x => .inl (by unfold Env.kindOf; rw [show (c.callee s.heap lent F sc env la).env = env from rfl, hsc]; rfl)
  fnk := hek
  gl := hg
  bl := hb
  units := by have := Gd.units; show (c.A.deeper env).units + 4 * n + 200 < cLine; show c.A.units + 3 + 4 * n + 200 < cLine; omega
  depth := by have := Gd.depth; show c.A.depth + 1 + n < recursionLimit; omega
  handled := Gd.handled
  frames := Around.frames_deeper Gd.frames
  same := rfl
  frk := fun e he => by
    rcases List.mem_cons.mp he with he | he
    · rw [show e = env from he]
      refine ⟨?_, _, hf, .inl rfl⟩
      rw [hek]; decide
    · obtain ⟨h1, L, h2, _⟩ := Gd.frk e he
      have hL : L ∈ c.x.ls := List.mem_filterMap.mpr ⟨e, he, h2⟩
      obtain ⟨o, h3, h4⟩ := ls_obj Gd I hL
      exact ⟨h1, L, h2, .inr ⟨_, List.mem_map.mpr ⟨L, hL, rfl⟩, upto_stab h3 h4⟩⟩
  frn := by
    show (List.filterMap (·.frame) (env :: c.x.frs)).Nodup
    rw [List.filterMap_cons, hf]
    refine List.nodup_cons.mpr ⟨fun hm => ?_, Gd.frn⟩
    have := I.lt (ls_muts Gd hm W.O)
    exact absurd (Nat.lt_of_lt_of_le this hnew) (Nat.lt_irrefl _)
  fps := Gd.fps
  fpk := fun p hp => by
    have st := Gd.fps p hp
    have key : ∀ o, s.heap.get? p.1 = some o → p.2 o → (∃ P, (p.1, P) ∈ (c.callee s.heap lent F sc env la).X ∧ ∀ o, P o → p.2 o) ∨ (p.1 = (c.callee s.heap lent F sc env la).env.locals ∧ ∀ m o, NsP m o → p.2 o) ∨ (p.1 ∈ (c.callee s.heap lent F sc env la).cl.map (·.2) ∧ ∀ v o, CellP v o → p.2 o) ∨ ∃ o, (c.callee s.heap lent F sc env la).base.get? p.1 = some o ∧ p.2 o := by
      intro o ho hpo
      by_cases hL : p.1 ∈ c.x.ls
      · refine .inl ⟨_, List.mem_map.mpr ⟨_, hL, rfl⟩, fun o' ⟨o1, sl, e, e'⟩ => ?_⟩
        rw [ho] at e; cases e
        rw [e']; exact st.up _ _ hpo
      · refine .inr (.inr (.inr ⟨o, hideAll_get _ ho fun hm => ?_, hpo⟩))
        rcases List.mem_append.mp hm with h | h
        · exact hL h
        · exact hlent _ h p hp rfl
    rcases Gd.fpk p hp with ⟨P, h1, h2⟩ | ⟨h1, h2⟩ | ⟨h1, h2⟩ | ⟨o, h1, h2⟩
    · obtain ⟨o, h3, h4⟩ := I.ext _ h1; exact key o h3 (h2 o h4)
    · obtain ⟨o, h3, h4⟩ := ns_obj I.ns; exact key o (h1 ▸ h3) (h2 m o h4)
    · obtain ⟨q, hq, e⟩ := List.mem_map.mp h1
      obtain ⟨o, h3, h4⟩ := I.cells q hq
      exact key o (e ▸ h3) (h2 _ o h4)
    · exact key o (I.keep _ _ h1) h2
  bst := fun b o e => lent_stays Gd I hl b o (Gd.bst b o e)
  cells := hcells
  pinned := hla
  tr := fun _ p hp => by
    obtain ⟨L, hL, rfl⟩ := List.mem_map.mp hp
    obtain ⟨o, h3, h4⟩ := ls_obj Gd I hL
    exact upto_stab h3 h4
  xcls := Gd.xcls
  hE := rfl

theorem fp_ne_own (Gd : Good tp c n) (I : Inv c lo W m cv s.heap) {a : Addr} {fo : FO} (ha : (a, fo) ∈ W.O) : ∀ p ∈ c.x.Fp, p.1 ≠ a := fun p hp e => by
  have nd := I.nodup
  unfold muts at nd
  rw [List.nodup_cons, List.nodup_append, List.nodup_append] at nd
  have hO : a ∈ W.O.map (·.1) := List.mem_map.mpr ⟨_, ha, rfl⟩
  rcases Gd.fpk p hp with ⟨P, h1, _⟩ | ⟨h1, _⟩ | ⟨h1, _⟩ | ⟨o, h1, _⟩
  · exact nd.2.2.1.2.2 _ (List.mem_map.mpr ⟨_, h1, rfl⟩) _ hO e
  · exact nd.1 (h1 ▸ e ▸ List.mem_append_right _ (List.mem_append_right _ hO))
  · exact nd.2.2.2 _ h1 _ (List.mem_append_right _ hO) e
  · rw [e, I.new a (own_mem ha)] at h1; cases h1
end
end Mine
namespace Mine
open PySem PyProof.Rows PySem.W PySem.SeqAt

/-! ### names bound -/
theorem bindL_not {kind : Str → Option NameKind} {x : Str} : ∀ {binds : List (Str × Value)} {m : Str → Option Value}, x ∉ binds.map (·.1) → bindL kind binds m x = m x
  | [], m, _ => rfl
  | (y, v) :: r, m, h => by
    rw [List.map_cons, List.mem_cons, not_or] at h
    unfold bindL
    rw [bindL_not h.2]
    split
    · exact if_neg h.1
    · rfl
theorem bindL_mem {kind : Str → Option NameKind} {x : Str} {u : Value} (hk : kind x = some .local) : ∀ {binds : List (Str × Value)} {m : Str → Option Value}, (binds.map (·.1)).Nodup → (x, u) ∈ binds → bindL kind binds m x = some u
  | (y, v) :: r, m, hn, h => by
    rw [List.map_cons, List.nodup_cons] at hn
    unfold bindL
    rcases List.mem_cons.mp h with e | h
    · cases e
      rw [bindL_not hn.1, if_pos hk]; exact if_pos rfl
    · exact bindL_mem hk hn.2 h
theorem bindC_not {kind : Str → Option NameKind} {x : Str} : ∀ {binds : List (Str × Value)} {m : Str → Option Value}, x ∉ binds.map (·.1) → bindC kind binds m x = m x
  | [], m, _ => rfl
  | (y, v) :: r, m, h => by
    rw [List.map_cons, List.mem_cons, not_or] at h
    unfold bindC
    rw [bindC_not h.2]
    split
    · rfl
    · exact if_neg h.1
theorem bindC_mem {kind : Str → Option NameKind} {x : Str} {u : Value} (hk : kind x ≠ some .local) : ∀ {binds : List (Str × Value)} {m : Str → Option Value}, (binds.map (·.1)).Nodup → (x, u) ∈ binds → bindC kind binds m x = some u
  | (y, v) :: r, m, hn, h => by
    rw [List.map_cons, List.nodup_cons] at hn
    unfold bindC
    rcases List.mem_cons.mp h with e | h
    · cases e
      rw [bindC_not hn.1, if_neg hk]; exact if_pos rfl
    · exact bindC_mem hk hn.2 h

theorem cellsFrom_nodup : ∀ {names : List (Str × NameKind)} {k : Nat} {acc : List (Str × Addr)}, (names.map (·.1)).Nodup → (acc.map (·.1)).Nodup → (∀ x ∈ acc.map (·.1), x ∉ names.map (·.1)) → ((cellsFrom k names acc).map (·.1)).Nodup
  | [], k, acc, _, h, _ => h
  | (y, kd) :: r, k, acc, hn, ha, hd => by
    rw [List.map_cons, List.nodup_cons] at hn
    unfold cellsFrom
    split
    · refine cellsFrom_nodup hn.2 ?_ ?_
      · rw [List.map_cons, List.nodup_cons]
        exact ⟨fun hm => hd y hm (by simp), ha⟩
      · intro x hx
        rw [List.map_cons, List.mem_cons] at hx
        rcases hx with rfl | hx
        · exact hn.1
        · exact fun hm => hd x hx (by rw [List.map_cons]; exact List.mem_cons_of_mem _ hm)
    · exact cellsFrom_nodup hn.2 ha fun x hx hm => hd x hx (by rw [List.map_cons]; exact List.mem_cons_of_mem _ hm)
theorem cellsFrom_has {x : Str} : ∀ {names : List (Str × NameKind)} {k : Nat} {acc : List (Str × Addr)}, (x, NameKind.cell) ∈ names ∨ x ∈ acc.map (·.1) → x ∈ (cellsFrom k names acc).map (·.1)
  | [], k, acc, h => by
    rcases h with h | h
    · cases h
    · exact h
  | (y, kd) :: r, k, acc, h => by
    unfold cellsFrom
    split
    · rename_i hk
      refine cellsFrom_has ?_
      rcases h with h | h
      · rcases List.mem_cons.mp h with e | h
        · cases e; exact .inr (by simp)
        · exact .inl h
      · exact .inr (by rw [List.map_cons]; exact List.mem_cons_of_mem _ h)
    · rename_i hk
      refine cellsFrom_has ?_
      rcases h with h | h
      · rcases List.mem_cons.mp h with e | h
        · cases e; exact (hk rfl).elim
        · exact .inl h
      · exact .inr h
theorem lookup_of_mem {α : Type} {l : List (Str × α)} (hn : (l.map (·.1)).Nodup) {x : Str} {a : α} (h : (x, a) ∈ l) : l.lookup x = some a := by
  induction l with
  | nil => cases h
  | cons p r ih =>
    obtain ⟨y, b⟩ := p
    rw [List.map_cons, List.nodup_cons] at hn
    rcases List.mem_cons.mp h with e | h
    · cases e; simp [List.lookup_cons]
    · have : x ≠ y := fun e => hn.1 (e ▸ List.mem_map.mpr ⟨_, h, rfl⟩)
      rw [List.lookup_cons, beq_false_of_ne this]
      exact ih hn.2 h
theorem mem_of_lookup {α : Type} {l : List (Str × α)} {x : Str} {a : α} (h : l.lookup x = some a) : (x, a) ∈ l := by
  induction l with
  | nil => cases h
  | cons p r ih =>
    obtain ⟨y, b⟩ := p
    rw [List.lookup_cons] at h
    cases hx : x == y with
    | true => rw [hx] at h; cases h; rw [beq_iff_eq.mp hx]; exact List.mem_cons_self
    | false => rw [hx] at h; exact List.mem_cons_of_mem _ (ih h)

/-- what stands in a cell, by its address -/
noncomputable def cellV (cells : List (Str × Addr)) (cm : Str → Option Value) (a : Addr) : Option Value := match cells.find? (fun p => decide (p.2 = a)) with
  | some p => cm p.1
  | none => none
theorem cellV_mem {cells : List (Str × Addr)} {cm : Str → Option Value} (hp : cells.Pairwise fun x y => x.2 ≠ y.2) {x : Str} {a : Addr} (h : (x, a) ∈ cells) : cellV cells cm a = cm x := by
  unfold cellV
  induction cells with
  | nil => cases h
  | cons p r ih =>
    rw [List.pairwise_cons] at hp
    rcases List.mem_cons.mp h with e | h
    · subst e; simp
    · have : ¬ p.2 = a := fun e => hp.1 _ h e
      rw [List.find?_cons, decide_eq_false this]
      exact ih hp.2 h

/-- names, what the evaluator binds, what the call binds -/
inductive BindRep (W : Wd) : List Str → List LV → List Value → Prop
  | nil : BindRep W [] [] []
  | cons {x v u xs vs us} : LRep W u v → BindRep W xs vs us → BindRep W (x :: xs) (v :: vs) (u :: us)

theorem lo0_none {x : Str} : ∀ {names : List (Str × NameKind)}, getLo (Ev.lo0 names) x = none
  | [] => rfl
  | (y, k) :: r => by
    have ih := @lo0_none x r
    cases k <;> unfold Ev.lo0 <;> first
      | exact ih
      | (unfold getLo
         by_cases h : y = x
         · rw [if_pos h]
         · rw [if_neg h]; exact ih)

theorem bindLo_get {W : Wd} {xs : List Str} {vs : List LV} {us : List Value} (b : BindRep W xs vs us) : ∀ {lo lo' : Lo}, Ev.bindLo xs vs lo = some lo' → ∀ {x v}, getLo lo' x = some v →
    getLo lo x = some v ∨ ∃ u, (x, u) ∈ xs.zip us ∧ LRep W u v ∧ v ∈ vs := by
  induction b with
  | nil => intro lo lo' h x v hg; rw [Option.some.inj (show some lo = some lo' from h)]; exact .inl hg
  | cons h1 _ ih =>
    intro lo lo' h x v hg
    rcases ih (show Ev.bindLo _ _ (setLo lo _ _) = some lo' from h) hg with h3 | ⟨u', h3, h4, h5⟩
    · rcases getLo_set_cases h3 with ⟨e1, e2⟩ | ⟨_, h3⟩
      · rw [e1, e2]; exact .inr ⟨_, by rw [List.zip_cons_cons]; exact List.mem_cons_self, h1, List.mem_cons_self⟩
      · exact .inl h3
    · exact .inr ⟨u', by rw [List.zip_cons_cons]; exact List.mem_cons_of_mem _ h3, h4, List.mem_cons_of_mem _ h5⟩
end Mine
namespace Mine
open PySem PyProof.Rows PySem.W PySem.SeqAt

section
variable {tp : TopP} {c : Cx} {m : Str → Option Value} {cv : Addr → Option Value} {lo : Lo} {W : Wd} {s : Shared} {n : Nat} {r : Ev} {F0 F1 : Led}

/-- the callee's frame at its start -/
theorem St.enter (Gd : Good tp c n) (S : St c lo W m cv s) {OL : Led} (hOL : ∀ p ∈ OL, p ∈ W.O) (hO1 : (OL.map (·.1)).Nodup) {sc : Scope} {env : Env} (hsc : env.scope.names = sc.names) (hL : env.locals = s.heap.objs.size)
    (hcn : (sc.names.map (·.1)).Nodup) (hcl : env.cells = cellsFrom (s.heap.objs.size + 1) sc.names [])
    {xs : List Str} {vs : List LV} {us : List Value} (hb : BindRep ⟨W.F, OL⟩ xs vs us) {la : Option Addr} (hla : ∀ a, la = some a → (figs, Value.ref a) ∈ xs.zip us ∧ sc.names.lookup figs = some .local) (hxs : xs.Nodup) (hlen : xs.length = us.length)
    (hkind : ∀ x ∈ xs, sc.names.lookup x = some .local ∨ sc.names.lookup x = some .cell)
    {lo' : Lo} (hlo : Ev.bindLo xs vs (Ev.lo0 sc.names) = some lo') (hown : ∀ x y mo mo', getLo lo' x = some (.own mo) → getLo lo' y = some (.own mo') → x = y) {s₂ : Shared}
    (hI : InCallC s env.locals (bindL env.kindOf (xs.zip us) fun _ => none) env.cells (bindC env.kindOf (xs.zip us) fun _ => none) s₂) :
    St (c.callee s.heap (OL.map (·.1)) W.F sc env la) lo' ⟨W.F, OL⟩ (bindL env.kindOf (xs.zip us) fun _ => none) (cellV env.cells (bindC env.kindOf (xs.zip us) fun _ => none)) s₂ := by
  obtain ⟨⟨⟨h₂, tk, rfl⟩, hns, hkeep, hfresh⟩, hcell, hapart, habove⟩ := hI
  have hzip : (xs.zip us).map (·.1) = xs := List.map_fst_zip (by omega)
  have hzn : ((xs.zip us).map (·.1)).Nodup := by rw [hzip]; exact hxs
  have hcnd : (env.cells.map (·.1)).Nodup := by rw [hcl]; exact cellsFrom_nodup hcn List.nodup_nil (fun x hx => nomatch hx)
  have hkn : ∀ x, env.kindOf x = sc.names.lookup x := fun x => by unfold Env.kindOf; rw [hsc]
  have olm : ∀ a ∈ OL.map (·.1), a ∈ muts c W.O := fun a ha => by
    obtain ⟨p, hp, rfl⟩ := List.mem_map.mp ha
    exact own_mem (fo := p.2) (hOL _ hp)
  have newAddr : ∀ a, s.heap.objs.size ≤ a → a ∉ muts c W.O := fun a ha hm => absurd (Nat.lt_of_lt_of_le (S.inv.lt hm) ha) (Nat.lt_irrefl _)
  have lsAll : ∀ a ∈ c.x.ls, a ∈ muts c W.O := fun a ha => ls_muts Gd ha _
  have cellAbove : ∀ a ∈ env.cells.map (·.2), env.locals < a := fun a ha => by
    obtain ⟨p, hp, rfl⟩ := List.mem_map.mp ha
    exact habove p.1 p.2 hp
  have nd := S.inv.nodup
  have lsO : ∀ a ∈ c.x.ls, a ∉ OL.map (·.1) := by
    intro a ha hm
    obtain ⟨p, hp, rfl⟩ := List.mem_map.mp hm
    unfold muts at nd
    rw [List.nodup_cons, List.nodup_append, List.nodup_append] at nd
    have hO : p.1 ∈ W.O.map (·.1) := List.mem_map_of_mem (hOL _ hp)
    unfold XC.ls at ha
    obtain ⟨e, he, hf⟩ := List.mem_filterMap.mp ha
    obtain ⟨_, L', h1, h2⟩ := Gd.frk e he
    rw [h1] at hf; cases hf
    rcases h2 with h2 | ⟨P, h2, _⟩
    · exact nd.1 (h2 ▸ List.mem_append_right _ (List.mem_append_right _ hO))
    · exact nd.2.2.1.2.2 _ (List.mem_map.mpr ⟨_, h2, rfl⟩) _ hO rfl
  have hX : (c.callee s.heap (OL.map (·.1)) W.F sc env la).X.map (·.1) = c.x.ls := by
    show (c.x.ls.map fun L => (L, upto (s.heap.get? L))).map (·.1) = _
    rw [List.map_map]; exact List.map_id' _
  have hmuts : muts (c.callee s.heap (OL.map (·.1)) W.F sc env la) OL = env.locals :: (env.cells.map (·.2) ++ (c.x.ls ++ OL.map (·.1))) := by
    unfold muts; rw [hX]; rfl
  refine ⟨S.gens, S.os, ?_⟩
  refine ⟨fun b o e => hkeep b o (of_hideAll _ e), hns, ?_, ?_, fun p hp => ?_, fun p hp => ?_, ?_, ?_, ?_, ?_, ?_, ?_, S.inv.mods, fun p hp => .inl hp, fun a ha => bindL_mem ((hkn _).trans (hla a ha).2) hzn (hla a ha).1⟩
  · rintro ⟨x, a⟩ hp
    show Heap.IsCell h₂ a (cellV env.cells _ a)
    rw [cellV_mem hapart hp]
    exact hcell x a (lookup_of_mem hcnd hp)
  · intro p hp
    obtain ⟨L, hL', rfl⟩ := List.mem_map.mp hp
    obtain ⟨o, ho, _⟩ := ls_obj Gd S.inv hL'
    exact ⟨o, hkeep _ _ ho, o, o.slots, ho, rfl⟩
  · obtain ⟨o, h1, h2⟩ := S.inv.fix p hp; exact ⟨o, hkeep _ _ h1, h2⟩
  · obtain ⟨o, h1, h2⟩ := S.inv.own p (hOL p hp); exact ⟨o, hkeep _ _ h1, h2⟩
  · intro x v hg
    rcases bindLo_get hb hlo hg with h | ⟨u, h1, h2, _⟩
    · rw [lo0_none] at h; cases h
    · refine ⟨u, ?_, h2⟩
      rcases hkind x (List.of_mem_zip h1).1 with hk | hk
      · exact .inl ⟨(hkn x).trans hk, bindL_mem ((hkn x).trans hk) hzn h1⟩
      · have hx : x ∈ env.cells.map (·.1) := by rw [hcl]; exact cellsFrom_has (.inl (mem_of_lookup hk))
        obtain ⟨⟨x', a⟩, hp, rfl⟩ := List.mem_map.mp hx
        refine .inr ⟨.inl ((hkn _).trans hk), a, lookup_of_mem hcnd hp, .inl ⟨List.mem_map.mpr ⟨_, hp, rfl⟩, ?_⟩⟩
        rw [cellV_mem hapart hp]
        exact bindC_mem (by rw [hkn, hk]; exact fun e => nomatch e) hzn h1
  · exact fun x y mx my _ h1 h2 _ _ => hown x y mx my h1 h2
  · rw [hmuts]
    have hge : ∀ a ∈ env.cells.map (·.2), s.heap.objs.size ≤ a := fun a ha => Nat.le_trans hfresh (Nat.le_of_lt (cellAbove a ha))
    have ndc : (env.cells.map (·.2)).Nodup := by
      rw [List.nodup_iff_pairwise_ne, List.pairwise_map]; exact hapart
    refine List.nodup_cons.mpr ⟨fun hm => ?_, List.nodup_append.mpr ⟨ndc, List.nodup_append.mpr ⟨Gd.frn, hO1, fun a ha b hb e => lsO a ha (e ▸ hb)⟩, fun a ha b hb e => ?_⟩⟩
    · rcases List.mem_append.mp hm with hm | hm
      · exact absurd (cellAbove _ hm) (Nat.lt_irrefl _)
      · rcases List.mem_append.mp hm with hm | hm
        · exact newAddr _ hfresh (lsAll _ hm)
        · exact newAddr _ hfresh (olm _ hm)
    · subst e
      rcases List.mem_append.mp hb with hm | hm
      · exact newAddr _ (hge a ha) (lsAll _ hm)
      · exact newAddr _ (hge a ha) (olm _ hm)
  · intro p hp hm
    rw [hmuts] at hm
    have hlt := S.inv.ltF hp
    rcases List.mem_cons.mp hm with hm | hm
    · exact absurd (hm ▸ hlt) (Nat.not_lt.mpr hfresh)
    · rcases List.mem_append.mp hm with hm | hm
      · have := cellAbove _ hm
        exact absurd (Nat.lt_trans (Nat.lt_of_le_of_lt hfresh this) hlt) (Nat.lt_irrefl _)
      · rcases List.mem_append.mp hm with hm | hm
        · exact S.inv.off p hp (lsAll _ hm)
        · exact S.inv.off p hp (olm _ hm)
  · intro a ha
    rw [hmuts] at ha
    have big : s.heap.objs.size ≤ a → (hideAll s.heap (c.x.ls ++ OL.map (·.1))).get? a = none := fun hge => by
      cases e : (hideAll s.heap (c.x.ls ++ OL.map (·.1))).get? a with
      | none => rfl
      | some o => exact absurd (Heap.lt_size (of_hideAll _ e)) (Nat.not_lt.mpr hge)
    rcases List.mem_cons.mp ha with rfl | ha
    · exact big hfresh
    · rcases List.mem_append.mp ha with ha | ha
      · exact big (Nat.le_trans hfresh (Nat.le_of_lt (cellAbove _ ha)))
      · exact hideAll_none _ ha
  · cases e : c.base.get? sysModules with
    | none => exact absurd e S.inv.sys
    | some o =>
      rw [show (c.callee s.heap (OL.map (·.1)) W.F sc env la).base.get? sysModules = some o from lent_stays Gd S.inv olm _ _ e]
      exact fun e => nomatch e
end
end Mine
namespace Mine
open PySem PyProof.Rows PySem.W PySem.SeqAt

section
variable {tp : TopP} {c : Cx} {m : Str → Option Value} {cv : Addr → Option Value} {lo : Lo} {W : Wd} {s : Shared} {n : Nat} {r : Ev} {F0 F1 : Led}

theorem uniq_fst {α : Type} {l : List (Addr × α)} (hn : (l.map (·.1)).Nodup) {a : Addr} {x y : α} (h1 : (a, x) ∈ l) (h2 : (a, y) ∈ l) : x = y := by
  induction l with
  | nil => cases h1
  | cons q r ih =>
    rw [List.map_cons, List.nodup_cons] at hn
    rcases List.mem_cons.mp h1 with e1 | h1 <;> rcases List.mem_cons.mp h2 with e2 | h2
    · rw [← e1] at e2; exact (Prod.mk.inj e2).2.symm
    · exact absurd (List.mem_map.mpr ⟨_, h2, by rw [← e1]⟩) hn.1
    · exact absurd (List.mem_map.mpr ⟨_, h1, by rw [← e2]⟩) hn.1
    · exact ih hn.2 h1 h2

/-- what a frame's tables keep -/
structure After (c : Cx) (lent : List Addr) (h h' : Heap) : Prop where
  same : ∀ b o, h.get? b = some o → b ∉ c.x.ls → b ∉ lent → h'.get? b = some o
  upto : ∀ L ∈ c.x.ls, ∀ o, h.get? L = some o → ∃ sl, h'.get? L = some { o with slots := sl }

theorem St.afterOf {OL : Led} {sc : Scope} {env : Env} {la : Option Addr} {lo₃ : Lo} {W₃ : Wd} {m₃ : Str → Option Value} {cv₃ : Addr → Option Value} {s₃ : Shared}
    (Gd : Good tp c n) (I : Inv c lo W m cv s.heap) (S₃ : St (c.callee s.heap (OL.map (·.1)) W.F sc env la) lo₃ W₃ m₃ cv₃ s₃) : After c (OL.map (·.1)) s.heap s₃.heap := by
  refine ⟨fun b o e h1 h2 => S₃.inv.keep b o (hideAll_get _ e fun hm => ?_), fun L hL o e => ?_⟩
  · rcases List.mem_append.mp hm with h | h
    · exact h1 h
    · exact h2 h
  · obtain ⟨o', h1, o1, sl, h2, h3⟩ := S₃.inv.ext _ (List.mem_map.mpr ⟨L, hL, rfl⟩)
    rw [e] at h2; cases h2
    exact ⟨sl, h3 ▸ h1⟩

theorem ns_upto {h h' : Heap} {a : Addr} {o : Obj} {sl : Array (Option Value)} (hn : h.Ns a m) (ho : h.get? a = some o) (h' : Heap) (ho' : h'.get? a = some { o with slots := sl }) : h'.Ns a m := by
  obtain ⟨o', es, ep, h1, h2, h3⟩ := hn
  rw [ho] at h1; cases h1
  exact ⟨_, es, ep, ho', h2, h3⟩

theorem Inv.after (Gd : Good tp c n) {h h' : Heap} {lent : List Addr} (I : Inv c lo W m cv h) (A : After c lent h h') (hl : ∀ a ∈ lent, a ∈ W.O.map (·.1)) {F' O' : Led} {lo' : Lo} (hO : O'.map (·.1) = W.O.map (·.1))
    (hfix : ∀ p ∈ F', ∃ o, h'.get? p.1 = some o ∧ p.2.is c.prog c.w o) (hoff : ∀ p ∈ F', p.1 ∉ muts c W.O) (hfresh : ∀ p ∈ F', p ∈ c.Fs ∨ c.base.get? p.1 = none) (hmods : ∀ p ∈ F', p.1 ≠ sysModules)
    (hown : ∀ p ∈ O', ∃ o, h'.get? p.1 = some o ∧ p.2.is c.prog c.w o) (los : ∀ x v, getLo lo' x = some v → ∃ u, Held c m cv x u ∧ LRep ⟨F', O'⟩ u v)
    (inj : ∀ x y mx my a, getLo lo' x = some (.own mx) → getLo lo' y = some (.own my) → Held c m cv x (.ref a) → Held c m cv y (.ref a) → x = y) : Inv c lo' ⟨F', O'⟩ m cv h' := by
  have hm : muts c O' = muts c W.O := by unfold muts; rw [hO]
  have nd := I.nodup
  unfold muts at nd
  rw [List.nodup_cons, List.nodup_append, List.nodup_append] at nd
  have lm : ∀ a ∈ lent, a ∈ muts c W.O := fun a ha => by obtain ⟨p, hp, rfl⟩ := List.mem_map.mp (hl a ha); exact own_mem (fo := p.2) hp
  have lsx : ∀ L ∈ c.x.ls, L = c.env.locals ∨ ∃ P, (L, P) ∈ c.X ∧ Stab P := fun L hL => by
    unfold XC.ls at hL
    obtain ⟨e, he, hf⟩ := List.mem_filterMap.mp hL
    obtain ⟨_, L', h1, h2⟩ := Gd.frk e he
    rw [h1] at hf; cases hf
    exact h2
  refine ⟨fun b o e => A.same b o (I.keep b o e) (fun h => ?_) fun h => ?_, ?_, ?_, ?_, hfix, hown, los, inj, by rw [hm]; exact I.nodup, fun p hp => by rw [hm]; exact hoff p hp, by rw [hm]; exact I.new, I.sys, hmods, hfresh, I.pin⟩
  · rw [I.new b (ls_muts Gd h _)] at e; cases e
  · rw [I.new b (lm b h)] at e; cases e
  · obtain ⟨o, h1, _⟩ := ns_obj I.ns
    by_cases hL : c.env.locals ∈ c.x.ls
    · obtain ⟨sl, h2⟩ := A.upto _ hL o h1
      exact ns_upto (h' := h') I.ns h1 h' h2
    · have := A.same _ _ h1 hL fun h => nd.1 (List.mem_append_right _ (List.mem_append_right _ (hl _ h)))
      obtain ⟨o', es, ep, h3, r⟩ := I.ns
      rw [h1] at h3; cases h3
      exact ⟨o, es, ep, this, r⟩
  · intro p hp
    obtain ⟨o, h1, h2⟩ := I.cells p hp
    have hc : p.2 ∈ c.cl.map (·.2) := List.mem_map_of_mem hp
    refine ⟨o, A.same _ _ h1 (fun h => ?_) fun h => nd.2.2.2 _ hc _ (List.mem_append_right _ (hl _ h)) rfl, h2⟩
    rcases lsx _ h with e | ⟨P, hP, _⟩
    · exact nd.1 (e ▸ List.mem_append_left _ hc)
    · exact nd.2.2.2 _ hc _ (List.mem_append_left _ (List.mem_map.mpr ⟨_, hP, rfl⟩)) rfl
  · intro p hp
    obtain ⟨o, h1, h2⟩ := I.ext p hp
    have hx : p.1 ∈ c.X.map (·.1) := List.mem_map_of_mem hp
    by_cases hL : p.1 ∈ c.x.ls
    · obtain ⟨sl, h3⟩ := A.upto _ hL o h1
      rcases lsx _ hL with e | ⟨P, hP, st⟩
      · exact absurd (e ▸ List.mem_append_right _ (List.mem_append_left _ hx)) nd.1
      · have : P = p.2 := uniq_fst nd.2.2.1.1 (a := p.1) hP hp
        subst this
        exact ⟨_, h3, st.up _ _ h2⟩
    · exact ⟨o, A.same _ _ h1 hL fun h => nd.2.2.1.2.2 _ hx _ (hl _ h) rfl, h2⟩

theorem muts_obj {h : Heap} (I : Inv c lo W m cv h) {a : Addr} (ha : a ∈ muts c W.O) : ∃ o, h.get? a = some o := by
  unfold muts at ha
  rcases List.mem_cons.mp ha with rfl | ha
  · obtain ⟨o, h1, _⟩ := ns_obj I.ns; exact ⟨o, h1⟩
  · rcases List.mem_append.mp ha with ha | ha
    · obtain ⟨p, hp, rfl⟩ := List.mem_map.mp ha; obtain ⟨o, h1, _⟩ := I.cells p hp; exact ⟨o, h1⟩
    · rcases List.mem_append.mp ha with ha | ha
      · obtain ⟨p, hp, rfl⟩ := List.mem_map.mp ha; obtain ⟨o, h1, _⟩ := I.ext p hp; exact ⟨o, h1⟩
      · obtain ⟨p, hp, rfl⟩ := List.mem_map.mp ha; obtain ⟨o, h1, _⟩ := I.own p hp; exact ⟨o, h1⟩

theorem back_F {OL : Led} {sc : Scope} {env : Env} {la : Option Addr} {lo₃ : Lo} {W₃ : Wd} {m₃ : Str → Option Value} {cv₃ : Addr → Option Value} {s₃ : Shared}
    (Gd : Good tp c n) (I : Inv c lo W m cv s.heap) (hOL : ∀ p ∈ OL, p ∈ W.O) (hO3 : ∀ a ∈ OL.map (·.1), a ∈ W₃.O.map (·.1)) (S₃ : St (c.callee s.heap (OL.map (·.1)) W.F sc env la) lo₃ W₃ m₃ cv₃ s₃) :
    (∀ p ∈ W₃.F, p.1 ∉ muts c W.O) ∧ (∀ p ∈ W₃.F, p ∈ c.Fs ∨ c.base.get? p.1 = none) := by
  have olm : ∀ a ∈ OL.map (·.1), a ∈ muts c W.O := fun a ha => by
    obtain ⟨p, hp, rfl⟩ := List.mem_map.mp ha
    exact own_mem (fo := p.2) (hOL _ hp)
  refine ⟨fun p hp hm => ?_, fun p hp => ?_⟩
  · rcases S₃.inv.fresh p hp with h | h
    · exact I.off p h hm
    · obtain ⟨o, ho⟩ := muts_obj I hm
      have hin : p.1 ∈ c.x.ls ++ OL.map (·.1) := by
        by_cases hn : p.1 ∈ c.x.ls ++ OL.map (·.1)
        · exact hn
        · have := hideAll_get _ ho hn
          rw [show (hideAll s.heap (c.x.ls ++ OL.map (·.1))).get? p.1 = none from h] at this; cases this
      refine S₃.inv.off p hp ?_
      unfold muts
      refine List.mem_cons_of_mem _ (List.mem_append_right _ ?_)
      rcases List.mem_append.mp hin with h | h
      · exact List.mem_append_left _ (List.mem_map.mpr ⟨_, List.mem_map.mpr ⟨_, h, rfl⟩, rfl⟩)
      · exact List.mem_append_right _ (hO3 _ h)
  · rcases S₃.inv.fresh p hp with h | h
    · exact I.fresh p h
    · refine .inr ?_
      cases e : c.base.get? p.1 with
      | none => rfl
      | some o =>
        have := lent_stays Gd I olm _ _ e
        rw [show (hideAll s.heap (c.x.ls ++ OL.map (·.1))).get? p.1 = none from h] at this; cases this

/-- back from a call: nothing was lent -/
theorem St.back0 {sc : Scope} {env : Env} {la : Option Addr} {lo₃ : Lo} {W₃ : Wd} {m₃ : Str → Option Value} {cv₃ : Addr → Option Value} {s₃ : Shared}
    (Gd : Good tp c n) (S : St c lo W m cv s) (hs : Sub W.F W₃.F) (S₃ : St (c.callee s.heap (([] : Led).map (·.1)) W.F sc env la) lo₃ W₃ m₃ cv₃ s₃) : St c lo ⟨W₃.F, W.O⟩ m cv s₃ := by
  have A := St.afterOf (OL := []) Gd S.inv S₃
  obtain ⟨h1, h2⟩ := back_F (OL := []) Gd S.inv (fun p hp => nomatch hp) (fun a ha => nomatch ha) S₃
  refine ⟨S₃.gens, S₃.os, S.inv.after Gd A (fun a ha => nomatch ha) rfl S₃.inv.fix h1 h2 S₃.inv.mods (fun p hp => ?_) (fun x v e => ?_) S.inv.inj⟩
  · obtain ⟨o, e1, e2⟩ := S.inv.own p hp
    refine ⟨o, A.same _ _ e1 (fun h => ?_) (fun h => nomatch h), e2⟩
    have nd := S.inv.nodup
    unfold muts at nd
    rw [List.nodup_cons, List.nodup_append, List.nodup_append] at nd
    have hO : p.1 ∈ W.O.map (·.1) := List.mem_map_of_mem hp
    unfold XC.ls at h
    obtain ⟨e, he, hf⟩ := List.mem_filterMap.mp h
    obtain ⟨_, L', k1, k2⟩ := Gd.frk e he
    rw [k1] at hf; cases hf
    rcases k2 with k2 | ⟨P, k2, _⟩
    · exact nd.1 (k2 ▸ List.mem_append_right _ (List.mem_append_right _ hO))
    · exact nd.2.2.1.2.2 _ (List.mem_map.mpr ⟨_, k2, rfl⟩) _ hO rfl
  · obtain ⟨u, hu, r⟩ := S.inv.los x v e
    exact ⟨u, hu, LRep.mono (W := W) (W' := ⟨W₃.F, W.O⟩) hs (fun _ h => h) r⟩

/-- back from a call with a lent list -/
theorem St.back1 {a : Addr} {fo fo' : FO} {x : Str} {mo mo' : MO} {sc : Scope} {env : Env} {la : Option Addr} {lo₃ : Lo} {W₃ : Wd} {m₃ : Str → Option Value} {cv₃ : Addr → Option Value} {s₃ : Shared}
    (Gd : Good tp c n) (S : St c lo W m cv s) (hs : Sub W.F W₃.F) (S₃ : St (c.callee s.heap (([(a, fo)] : Led).map (·.1)) W.F sc env la) lo₃ W₃ m₃ cv₃ s₃)
    (e : getLo lo x = some (.own mo)) (hu : Held c m cv x (.ref a)) (ha : (a, fo) ∈ W.O) (ha' : (a, fo') ∈ W₃.O) (hr : FORep W₃.F fo' mo') : St c (setLo lo x (.own mo')) ⟨W₃.F, repl W.O a fo'⟩ m cv s₃ := by
  have A := St.afterOf (OL := [(a, fo)]) Gd S.inv S₃
  obtain ⟨h1, h2⟩ := back_F (OL := [(a, fo)]) Gd S.inv (fun p hp => by rw [List.mem_singleton.mp hp]; exact ha) (fun b hb => by
    have : b = a := by simpa using hb
    rw [this]; exact List.mem_map.mpr ⟨_, ha', rfl⟩) S₃
  refine ⟨S₃.gens, S₃.os, S.inv.after Gd A (fun b hb => by
    have : b = a := by simpa using hb
    rw [this]; exact List.mem_map.mpr ⟨_, ha, rfl⟩) (repl_fst _ _ _) S₃.inv.fix h1 h2 S₃.inv.mods (fun p hp => ?_) (fun y v hy => ?_) (fun y z my mz b hy hz hb hb' => ?_)⟩
  · obtain ⟨q, hq, rfl⟩ := List.mem_map.mp hp
    by_cases hqa : q.1 = a
    · rw [if_pos hqa]; exact S₃.inv.own _ ha'
    · rw [if_neg hqa]
      obtain ⟨o, e1, e2⟩ := S.inv.own q hq
      refine ⟨o, A.same _ _ e1 (fun h => ?_) (fun h => hqa (by simpa using h)), e2⟩
      have nd := S.inv.nodup
      unfold muts at nd
      rw [List.nodup_cons, List.nodup_append, List.nodup_append] at nd
      have hO : q.1 ∈ W.O.map (·.1) := List.mem_map_of_mem hq
      unfold XC.ls at h
      obtain ⟨e, he, hf⟩ := List.mem_filterMap.mp h
      obtain ⟨_, L', k1, k2⟩ := Gd.frk e he
      rw [k1] at hf; cases hf
      rcases k2 with k2 | ⟨P, k2, _⟩
      · exact nd.1 (k2 ▸ List.mem_append_right _ (List.mem_append_right _ hO))
      · exact nd.2.2.1.2.2 _ (List.mem_map.mpr ⟨_, k2, rfl⟩) _ hO rfl
  · rcases getLo_set_cases hy with ⟨rfl, rfl⟩ | ⟨hne, hy⟩
    · exact ⟨_, hu, .own (mem_repl_self ha) hr⟩
    · obtain ⟨u, hu', r⟩ := S.inv.los y v hy
      refine ⟨u, hu', ?_⟩
      cases r with
      | pv r => exact .pv (r.mono hs)
      | @own b fo₁ mo₁ k1 k2 =>
        refine .own (mem_repl k1 fun q => ?_) (k2.mono hs)
        subst q
        exact hne (S.inv.inj _ _ _ _ _ hy e hu' hu)
  · have step : ∀ {y my}, getLo (setLo lo x (.own mo')) y = some (.own my) → ∃ my', getLo lo y = some (.own my') := by
      intro y my hy
      rcases getLo_set_cases hy with ⟨rfl, _⟩ | ⟨_, hy⟩
      · exact ⟨_, e⟩
      · exact ⟨_, hy⟩
    obtain ⟨_, hy⟩ := step hy
    obtain ⟨_, hz⟩ := step hz
    exact S.inv.inj _ _ _ _ _ hy hz hb hb'
end
end Mine
namespace Mine
open PySem PyProof.Rows PySem.W PySem.SeqAt

section
variable {prog : Program} {w : World} {A : Around} {s : Shared}
/-- a def's call, with cells and defaults -/
theorem call_cellsB {R : Result → Shared → Prop} {a : Addr} {o : Obj} {fd : FuncData} {body : List Stmt} {vals : List Value} {binds : List (Str × Value)}
    (hroom : A.depth < recursionLimit) (ho : s.heap.get? a = some o) (hdata : o.data = .func fd) (hlim : s.heap.NoLimit) (hcd : s.heap.CodeRec fd.code fd.qualname)
    (hbody : fd.body = .stmts body) (hbind : BindsTo s fd ⟨vals, []⟩ binds) (hclo : fd.closure = [])
    (hkind : ∀ x ∈ binds, fd.scope.names.lookup x.1 = some .local ∨ (fd.scope.names.lookup x.1 = some .cell ∧ ((cellsFrom (s.heap.objs.size + 1) fd.scope.names []).lookup x.1).isSome = true))
    (h : ∀ s₁, InCallC s (callEnvC fd s.heap.objs.size a).locals (bindL (callEnvC fd s.heap.objs.size a).kindOf binds fun _ => none) (callEnvC fd s.heap.objs.size a).cells
        (bindC (callEnvC fd s.heap.objs.size a).kindOf binds fun _ => none) s₁ →
      wpAny (model prog w) (A.deeper (callEnvC fd s.heap.objs.size a)) (execs body (callEnvC fd s.heap.objs.size a)) (fun f s' => R (.ok (.ret (match f with | .ret v => v | _ => .none))) s')
        (fun e s' => wpAny (model prog w) (A.deeper (callEnvC fd s.heap.objs.size a)) (leaving (callEnvC fd s.heap.objs.size a) e) (fun _ s'' => R (.error e) s'') (fun e' s'' => R (.error e') s'') s') s₁)
    (hco : fd.scope.isCoroutine = false) (hgen : fd.scope.isGenerator = false) (hk : fd.scope.kind = .function) :
    codeAny (model prog w) A (.call (.ref a) ⟨vals, []⟩) R s := by
  refine codeAny_call_function hroom ho hdata hco hgen hbody hcd ?_
  refine hbind _ _ _ _ ?_
  rw [hclo]
  refine wpAny_newFunctionEnv_cells hk hkind fun env he s' x => ?_
  subst he
  exact ⟨hlim.keeps x.toInCall.keep, codeAny_func (h s' x)⟩
end
end Mine
namespace Mine
open PySem PyProof.Rows PySem.W PySem.SeqAt

/-- what the text's own defs give -/
structure SoundC (tp : TopP) (n : Nat) (r : Ev) : Prop where
  dbg : tp.FD "__debug__" = Option.none
  none : ∀ g m ps, tp.FD g = none → r.c g m ps = .fail
  user : ∀ {c lo W m cv s}, Good tp c n → St c lo W m cv s → ∀ {g d a fd us ps}, tp.FD g = some d → FnAt tp.mg c.base g d a fd → VReps W.F us ps → At c m cv W.F (r.userE g ps lo) (Go c (call (.ref a) us)) s (RelL c)
  lend : ∀ {c lo W m cv s}, Good tp c n → St c lo W m cv s → ∀ {g d a fd us ps x u}, tp.FD g = some d → FnAt tp.mg c.base g d a fd → VReps W.F us ps → Held c m cv x u → At c m cv W.F (r.lendE g x ps lo) (Go c (call (.ref a) (u :: us))) s (RelL c)

inductive LReps (W : Wd) : List Value → List LV → Prop
  | nil : LReps W [] []
  | cons {u v us vs} : LRep W u v → LReps W us vs → LReps W (u :: us) (v :: vs)

section
variable {W : Wd}
theorem LReps.length {us : List Value} {vs : List LV} (h : LReps W us vs) : us.length = vs.length := by
  induction h with
  | nil => rfl
  | cons _ _ ih => rw [List.length_cons, List.length_cons, ih]
theorem LReps.snoc {us : List Value} {vs : List LV} {u v} (h : LReps W us vs) (k : LRep W u v) : LReps W (us ++ [u]) (vs ++ [v]) := by
  induction h with
  | nil => exact .cons k .nil
  | cons h _ ih => exact .cons h ih
theorem LReps.bind {us : List Value} {vs : List LV} (h : LReps W us vs) : ∀ {xs : List Str}, xs.length = vs.length → BindRep W xs vs us := by
  induction h with
  | nil =>
    intro xs e
    rw [List.length_eq_zero_iff.mp e]; exact .nil
  | cons h _ ih =>
    intro xs e
    cases xs with
    | nil => cases e
    | cons x xs => exact .cons h (ih (Nat.succ.inj e))
theorem LReps.pvs {F O : Led} {us : List Value} : ∀ {ps : List PV}, VReps F us ps → LReps ⟨F, O⟩ us (ps.map .pv) := by
  induction us with
  | nil => intro ps h; cases h; exact .nil
  | cons u us ih => intro ps h; cases h with | cons h r => exact .cons (.pv h) (ih r)
theorem bindLo_len {xs : List Str} : ∀ {vs : List LV} {lo lo' : Lo}, Ev.bindLo xs vs lo = some lo' → xs.length = vs.length := by
  induction xs with
  | nil =>
    intro vs lo lo' h
    cases vs with
    | nil => rfl
    | cons => cases h
  | cons x xs ih =>
    intro vs lo lo' h
    cases vs with
    | nil => cases h
    | cons v vs => rw [List.length_cons, List.length_cons, ih (vs := vs) h]
theorem bindLo_pv {xs : List Str} : ∀ {vs : List LV} {lo lo' : Lo}, (∀ v ∈ vs, ∃ p, v = .pv p) → Ev.bindLo xs vs lo = some lo' → ∀ {y mo}, getLo lo' y = some (.own mo) → getLo lo y = some (.own mo) := by
  induction xs with
  | nil =>
    intro vs lo lo' hp h y mo e
    cases vs with
    | nil => rw [Option.some.inj (show some lo = some lo' from h)]; exact e
    | cons => cases h
  | cons x xs ih =>
    intro vs lo lo' hp h y mo e
    cases vs with
    | nil => cases h
    | cons v vs =>
      have := ih (fun w hw => hp w (List.mem_cons_of_mem _ hw)) (show Ev.bindLo xs vs (setLo lo x v) = some lo' from h) e
      rcases getLo_set_cases this with ⟨_, q⟩ | ⟨_, q⟩
      · obtain ⟨p, e⟩ := hp v List.mem_cons_self
        rw [e] at q; cases q
      · exact q

theorem fill_cases (params : Arguments) (vs : List LV) : Ev.fill params vs = vs ∨ (Ev.fill params vs = vs ++ [.pv .none] ∧ vs.length + 1 = params.args.length ∧ ∃ p q, params.defaults = [.Constant .none p q]) := by
  have P0 : vs = vs ∨ (vs = vs ++ [.pv .none] ∧ vs.length + 1 = params.args.length ∧ ∃ p q, params.defaults = [.Constant .none p q]) := .inl rfl
  refine one_or (P := fun v => v = vs ∨ (v = vs ++ [.pv .none] ∧ vs.length + 1 = params.args.length ∧ ∃ p q, params.defaults = [.Constant .none p q])) (fun e h1 => ?_) P0
  refine xConstant_or (P := fun v => v = vs ∨ (v = vs ++ [.pv .none] ∧ vs.length + 1 = params.args.length ∧ ∃ p q, params.defaults = [.Constant .none p q])) (fun k p q h2 => ?_) fun _ => P0
  refine cnone_or (P := fun v => v = vs ∨ (v = vs ++ [.pv .none] ∧ vs.length + 1 = params.args.length ∧ ∃ p q, params.defaults = [.Constant .none p q])) (fun h3 => ?_) P0
  exact ite_or (P := fun v => v = vs ∨ (v = vs ++ [.pv .none] ∧ vs.length + 1 = params.args.length ∧ ∃ p q, params.defaults = [.Constant .none p q])) (fun h => .inr ⟨rfl, h, p, q, by rw [h1, h2, h3]⟩) fun _ => P0
/-- the missing last argument -/
theorem fill_rep {params : Arguments} {us : List Value} {vs : List LV} {lo lo' : Lo} (hr : LReps W us vs) (h : Ev.bindLo (Ev.argNames params) (Ev.fill params vs) lo = some lo') :
    ∃ us', ((params.args.length = us.length ∧ us' = us) ∨ (params.args.length = us.length + 1 ∧ (∃ k p q, params.defaults = [.Constant .none p q] ∧ k = (0 : Nat)) ∧ us' = us ++ [.none])) ∧ LReps W us' (Ev.fill params vs) ∧
      (Ev.fill params vs = vs ∨ Ev.fill params vs = vs ++ [.pv .none]) := by
  have hl := bindLo_len h
  have hn : (Ev.argNames params).length = params.args.length := by unfold Ev.argNames; rw [List.length_map]
  have hrl := hr.length
  rcases fill_cases params vs with e | ⟨e, h1, p, q, h2⟩
  · rw [e] at hl ⊢
    exact ⟨us, .inl ⟨by omega, rfl⟩, hr, .inl rfl⟩
  · rw [e]
    exact ⟨us ++ [.none], .inr ⟨by omega, ⟨0, p, q, h2, rfl⟩, rfl⟩, hr.snoc (.pv .none), .inr rfl⟩
end

section
variable {tp : TopP} {c : Cx} {m : Str → Option Value} {cv : Addr → Option Value} {lo : Lo} {W : Wd} {s : Shared} {n : Nat} {r : Ev} {F0 F1 : Led}

/-- a def's call, from the caller's side -/
theorem callee_run (H : SoundS tp n r) (Gd : Good tp c (n + 1)) (S : St c lo W m cv s) {g : Str} {d : FnDef} {a : Addr} {fd : FuncData} (Fn : FnAt tp.mg c.base g d a fd) {OL : Led} (hOL : ∀ p ∈ OL, p ∈ W.O) (hO1 : (OL.map (·.1)).Nodup)
    {sc : Scope} (hsc : sc.names = d.scope.names) {vs' : List LV} {us us' : List Value} (hus : (d.params.args.length = us.length ∧ us' = us) ∨ (d.params.args.length = us.length + 1 ∧ (∃ k p q, d.params.defaults = [.Constant .none p q] ∧ k = (0 : Nat)) ∧ us' = us ++ [.none]))
    (hr : LReps ⟨W.F, OL⟩ us' vs') {la : Option Addr} (hla : ∀ a, la = some a → (figs, Value.ref a) ∈ (Ev.argNames d.params).zip us' ∧ d.scope.names.lookup figs = some .local) (hlc : la ≠ none → sc.isCoroutine = true)
    {lo₁ : Lo} (hlo : Ev.bindLo (Ev.argNames d.params) vs' (Ev.lo0 d.scope.names) = some lo₁) (hown : ∀ x y mo mo', getLo lo₁ x = some (.own mo) → getLo lo₁ y = some (.own mo') → x = y)
    (hne : r.ss sc d.body lo₁ = .fail → False) {Q : Value → Shared → Prop} {E : Value → Shared → Prop}
    (hQ : ∀ fl lo', r.ss sc d.body lo₁ = .ok fl lo' → ∀ env W' m' cv' s' f, env.scope = d.scope → Sub W.F W'.F → St (c.callee s.heap (OL.map (·.1)) W.F sc env la) lo' W' m' cv' s' → RelF W' fl f → Q (match f with | .ret v => v | _ => .none) s')
    (hE : r.ss sc d.body lo₁ = .exc → ∀ e s', Arr c e s' → E e s') :
    wpAny c.M c.A (call (.ref a) us) Q E s := by
  obtain ⟨o, ho, hdat⟩ := Fn.obj
  have hk := S.inv.keep
  have hfs := Fn.scope
  obtain ⟨hnd, hargs⟩ := Fn.args
  have hlen : (Ev.argNames d.params).length = us'.length := (bindLo_len hlo).trans hr.length.symm
  have hzip : ((Ev.argNames d.params).zip us').map (·.1) = Ev.argNames d.params := List.map_fst_zip (by omega)
  refine wpAny_call (call_cellsB (binds := (Ev.argNames d.params).zip us') (body := d.body) (by have := Gd.depth; omega) (hk _ _ ho) hdat (Gd.tops.nolimit.keeps hk) (Fn.code.keeps hk) Fn.body (Fn.binds s us us' hk hus) Fn.closure ?_ ?_ (by rw [hfs]; exact Fn.co) (by rw [hfs]; exact Fn.gen) (by rw [hfs]; exact Fn.kind))
  · intro x hx
    have hxn : x.1 ∈ Ev.argNames d.params := by rw [← hzip]; exact List.mem_map_of_mem hx
    rw [hfs]
    rcases hargs x.1 hxn with h | h
    · exact .inl h
    · refine .inr ⟨h, ?_⟩
      have h1 := cellsFrom_has (k := s.heap.objs.size + 1) (acc := []) (.inl (mem_of_lookup h))
      obtain ⟨⟨y, b⟩, hm, e⟩ := List.mem_map.mp h1
      have e : y = x.1 := e
      subst e
      rw [lookup_of_mem (cellsFrom_nodup (acc := []) Fn.names List.nodup_nil (fun x hx => nomatch hx)) hm]
      rfl
  · intro s₁ hI
    generalize henv : callEnvC fd s.heap.objs.size a = env at hI
    have e1 : env.scope = d.scope := by rw [← henv]; exact hfs
    have e2 : env.locals = s.heap.objs.size := by rw [← henv]; rfl
    have e3 : env.cells = cellsFrom (s.heap.objs.size + 1) sc.names [] := by rw [← henv, hsc, ← hfs]; rfl
    have e4 : env.frame = some env.locals := by rw [← henv]; rfl
    have e5 : env.globals = mainGlobals := by rw [← henv]; exact Fn.gl
    have e6 : env.builtins = builtinsNs := by rw [← henv]; exact Fn.bl
    have e7 : env.scope.names = sc.names := by rw [e1, hsc]
    have hcn : (sc.names.map (·.1)).Nodup := by rw [hsc]; exact Fn.names
    have hcnd : (env.cells.map (·.1)).Nodup := by rw [e3]; exact cellsFrom_nodup hcn List.nodup_nil (fun x hx => nomatch hx)
    have hap : env.cells.Pairwise fun x y => x.2 ≠ y.2 := hI.apart
    have S₁ := St.enter (tp := tp) (n := n + 1) Gd S hOL hO1 (sc := sc) (env := env) e7 e2 hcn e3 (hr.bind (bindLo_len hlo)) (la := la) (fun a ha => by rw [hsc]; exact hla a ha) hnd hlen (fun x hx => by rw [hsc]; exact hargs x hx) (by rw [hsc]; exact hlo) hown hI
    have Gd₁ : Good tp (c.callee s.heap (OL.map (·.1)) W.F sc env la) n := Good.callee Gd S.inv (fun b hb => by
        obtain ⟨p, hp, rfl⟩ := List.mem_map.mp hb
        exact own_mem (fo := p.2) (hOL _ hp)) e7 (by rw [e1]; exact Fn.kind) hlc e5 e6 e4 (by rw [e2]; exact Nat.le_refl _) (fun x hx => by
        have h1 : x ∈ env.cells.map (·.1) := by rw [e3]; exact cellsFrom_has (.inl (mem_of_lookup hx))
        obtain ⟨⟨y, b⟩, hm, e⟩ := List.mem_map.mp h1
        have e : y = x := e
        subst e
        refine ⟨b, lookup_of_mem hcnd hm, List.mem_map.mpr ⟨_, hm, rfl⟩, fun z hz hz' => ?_⟩
        exact hz (PySem.name_of_addr hap (mem_of_lookup hz') hm)) (fun b hb => by
        obtain ⟨p, hp, rfl⟩ := List.mem_map.mp hb
        exact fp_ne_own Gd S.inv (fo := p.2) (hOL _ hp))
    have hrun := ss_ok H Gd₁ d.body S₁ hne
    rw [show (c.callee s.heap (OL.map (·.1)) W.F sc env la).sc = sc from rfl] at hrun
    show wpAny c.M (c.A.deeper env) (execs d.body env) _ _ s₁
    refine wpAny_mono hrun (fun f s' q => ?_) fun e s' q => ?_
    · cases hres : r.ss sc d.body lo₁ with
      | ok fl lo' =>
        rw [hres] at q
        obtain ⟨W', m', cv', h1, h2, h3⟩ := q
        exact hQ fl lo' hres env W' m' cv' s' f e1 h1 h2 h3
      | exc => rw [hres] at q; exact q.elim
      | fail => exact (hne hres).elim
    · cases hres : r.ss sc d.body lo₁ with
      | ok fl lo' => rw [hres] at q; exact q.elim
      | exc =>
        rw [hres] at q
        have q : Arr (c.callee s.heap (OL.map (·.1)) W.F sc env la) e s' := q
        refine wpAny_mono (Arr.leaves Gd₁ (A' := c.A.deeper env) Gd₁.frames (env := env) rfl q) (fun _ s'' g => ?_) fun _ _ e => e
        obtain ⟨g1, g2, g3, b, a0, rfl, g4⟩ := g
        exact hE hres _ _ ⟨g1, g2, g3, b, rfl, .inr (.inl ⟨a0, g4⟩)⟩
      | fail => exact (hne hres).elim
end
end Mine
namespace Mine
open PySem PyProof.Rows PySem.W PySem.SeqAt

section
variable {tp : TopP} {c : Cx} {m : Str → Option Value} {cv : Addr → Option Value} {lo : Lo} {W : Wd} {s : Shared} {n : Nat} {r : Ev} {F0 F1 : Led}

/-- what a callee made and gives back is the caller's to own -/
theorem back_free (Gd : Good tp c n) (S : St c lo W m cv s) {sc : Scope} {env : Env} {la : Option Addr} {lo₃ : Lo} {W₃ : Wd} {m₃ : Str → Option Value} {cv₃ : Addr → Option Value} {s₃ : Shared}
    (S₃ : St (c.callee s.heap (([] : Led).map (·.1)) W.F sc env la) lo₃ W₃ m₃ cv₃ s₃) {a : Addr} {fo : FO} (ha : (a, fo) ∈ W₃.O) : Free c ⟨W₃.F, W.O⟩ a := by
  have hm := own_mem (c := c.callee s.heap (([] : Led).map (·.1)) W.F sc env la) ha
  have hnone : (hideAll s.heap (c.x.ls ++ [])).get? a = none := S₃.inv.new a hm
  have hls : a ∉ c.x.ls := fun h => by
    have nd := S₃.inv.nodup
    unfold muts at nd
    rw [List.nodup_cons, List.nodup_append, List.nodup_append] at nd
    refine nd.2.2.1.2.2 a ?_ a (List.mem_map.mpr ⟨_, ha, rfl⟩) rfl
    exact List.mem_map.mpr ⟨_, List.mem_map.mpr ⟨a, h, rfl⟩, rfl⟩
  have hs : s.heap.get? a = none := by
    cases e : s.heap.get? a with
    | none => rfl
    | some o =>
      have := hideAll_get (c.x.ls ++ []) e (by simpa using hls)
      rw [hnone] at this; cases this
  refine ⟨fun h => ?_, fun p hp e => ?_, ?_⟩
  · obtain ⟨o, ho⟩ := muts_obj S.inv h
    rw [hs] at ho; cases ho
  · exact S₃.inv.off p hp (e ▸ hm)
  · cases e : c.base.get? a with
    | none => rfl
    | some o => have := S.inv.keep _ _ e; rw [hs] at this; cases this

theorem pv_all {ps : List PV} : ∀ v ∈ ps.map LV.pv, ∃ p, v = .pv p := fun v hv => let ⟨p, _, e⟩ := List.mem_map.mp hv; ⟨p, e.symm⟩
theorem fill_pv {params : Arguments} {vs : List LV} (h : Ev.fill params vs = vs ∨ Ev.fill params vs = vs ++ [.pv .none]) (hv : ∀ v ∈ vs, ∃ p, v = LV.pv p) : ∀ v ∈ Ev.fill params vs, ∃ p, v = LV.pv p := fun v hm => by
  rcases h with h | h
  · rw [h] at hm; exact hv v hm
  · rw [h] at hm
    rcases List.mem_append.mp hm with hm | hm
    · exact hv v hm
    · exact ⟨.none, by simpa using hm⟩

theorem cStep_none {body : List Stmt} {g : Str} {mo : Option MO} {ps : List PV} (h : findFn g body = none) : r.cStep body g mo ps = .fail := by unfold Ev.cStep; rw [h]

theorem user_ok (H : SoundS tp n r) {body : List Stmt} (hFD : ∀ g, tp.FD g = findFn g body) (Gd : Good tp c (n + 1)) (S : St c lo W m cv s) {g : Str} {d : FnDef} {a : Addr} {fd : FuncData} {us : List Value} {ps : List PV} (hd : tp.FD g = some d)
    (Fn : FnAt tp.mg c.base g d a fd) (hr : VReps W.F us ps) : At c m cv W.F ((r.step body).userE g ps lo) (Go c (call (.ref a) us)) s (RelL c) := by
  intro hne
  rw [hFD] at hd
  have hc : (r.step body).c g none ps = r.cStep body g none ps := rfl
  unfold Ev.userE at hne ⊢
  rw [hc] at hne ⊢
  unfold Ev.cStep at hne ⊢
  rw [hd] at hne ⊢
  have hlend : Ev.lendOk d none = true := rfl
  simp only [hlend, Bool.true_eq_false, if_false, Option.map_none, Option.toList_none, List.nil_append, Option.isSome_none, Bool.false_eq_true] at hne ⊢
  cases hlo : Ev.bindLo (Ev.argNames d.params) (Ev.fill d.params (ps.map .pv)) (Ev.lo0 d.scope.names) with
  | none => simp only [hlo] at hne; exact (hne trivial).elim
  | some lo₁ =>
    simp only [hlo] at hne ⊢
    obtain ⟨us', hus, hr', hfill⟩ := fill_rep (W := ⟨W.F, []⟩) (LReps.pvs hr) hlo
    have hnoown : ∀ y mo, getLo lo₁ y = some (.own mo) → False := fun y mo e => by
      have := bindLo_pv (fill_pv hfill pv_all) hlo e
      rw [lo0_none] at this; cases this
    have hss : r.ss d.scope d.body lo₁ = .fail → False := fun e => by simp only [e] at hne; exact hne trivial
    refine callee_run H Gd S Fn (OL := []) (fun p hp => nomatch hp) List.nodup_nil (sc := d.scope) rfl hus hr' (la := none) (fun a ha => nomatch ha) (fun h => absurd rfl h) hlo (fun x y mo mo' h1 _ => (hnoown x mo h1).elim) hss (fun fl lo' hres env W' m' cv' s' f henv hs S' rf => ?_) fun hres e s' he => ?_
    · simp only [hres]
      have S₂ := St.back0 Gd S hs S'
      cases rf with
      | next => exact ⟨⟨W'.F, W.O⟩, hs, S₂, .pv .none⟩
      | brk => exact ⟨⟨W'.F, W.O⟩, hs, S₂, .pv .none⟩
      | cont => exact ⟨⟨W'.F, W.O⟩, hs, S₂, .pv .none⟩
      | ret h =>
        cases h with
        | pv h => exact ⟨⟨W'.F, W.O⟩, hs, S₂, .pv h⟩
        | own ha h => exact ⟨⟨W'.F, W.O⟩, hs, S₂, .own h (back_free Gd S S' ha) (S'.inv.own _ ha)⟩
    · simp only [hres]
      show c.E e s'
      rw [Gd.hE]; exact he

/-- how a lent call goes -/
inductive LendI (r : Ev) (d : FnDef) (x : Str) (ps : List PV) (lo : Lo) (res : Res LV) : Prop
  | mk {mo xr lo₁ fl lo' mo' p} : getLo lo x = some (.own mo) → Ev.argNames d.params = figs :: xr → d.scope.names.lookup figs = some .local →
      Ev.bindLo (Ev.argNames d.params) (Ev.fill d.params (.own mo :: ps.map .pv)) (Ev.lo0 d.scope.names) = some lo₁ → r.ss { d.scope with isCoroutine := true } d.body lo₁ = .ok fl lo' →
      getLo lo' figs = some (.own mo') → (fl = .next ∧ p = .none ∨ fl = .ret (.pv p)) → res = .ok (.pv p) (setLo lo x (.own mo')) → LendI r d x ps lo res
theorem lendOk_inv {d : FnDef} {mo : MO} (h : ¬ Ev.lendOk d (some mo) = false) : ∃ xr, Ev.argNames d.params = figs :: xr ∧ d.scope.names.lookup figs = some .local := by
  unfold Ev.lendOk at h
  cases e : Ev.argNames d.params with
  | nil => rw [e] at h; exact (h rfl).elim
  | cons y xr =>
    rw [e] at h
    have h := of_decide_eq_true (Bool.not_eq_false _ ▸ h : decide (y = figs ∧ d.scope.names.lookup figs = some .local) = true)
    exact ⟨xr, by rw [h.1], h.2⟩
theorem lendE_inv {body : List Stmt} {g x : Str} {ps : List PV} {d : FnDef} (hd : findFn g body = some d) (hne : (r.step body).lendE g x ps lo = .fail → False) : LendI r d x ps lo ((r.step body).lendE g x ps lo) := by
  unfold Ev.lendE at hne ⊢
  cases e₀ : getLo lo x with
  | none => rw [e₀] at hne; exact (hne rfl).elim
  | some w =>
  cases w with
  | pv p => rw [e₀] at hne; exact (hne rfl).elim
  | own mo =>
  rw [e₀] at hne
  dsimp only at hne ⊢
  have hc : (r.step body).c g (some mo) ps = r.cStep body g (some mo) ps := rfl
  rw [hc] at hne ⊢
  unfold Ev.cStep at hne ⊢
  rw [hd] at hne ⊢
  dsimp only at hne ⊢
  by_cases hl : Ev.lendOk d (some mo) = false
  · rw [if_pos hl] at hne; exact (hne rfl).elim
  rw [if_neg hl] at hne ⊢
  obtain ⟨xr, hxr, hfl⟩ := lendOk_inv hl
  cases hlo : Ev.bindLo (Ev.argNames d.params) (Ev.fill d.params ((Option.map LV.own (some mo)).toList ++ ps.map .pv)) (Ev.lo0 d.scope.names) with
  | none => rw [hlo] at hne; exact (hne rfl).elim
  | some lo₁ =>
  rw [hlo] at hne
  dsimp only at hne ⊢
  cases hr : r.ss (if (some mo).isSome = true then { d.scope with isCoroutine := true } else d.scope) d.body lo₁ with
  | exc => rw [hr] at hne; exact (hne rfl).elim
  | fail => rw [hr] at hne; exact (hne rfl).elim
  | ok fl lo' =>
  rw [hr] at hne
  dsimp only at hne ⊢
  rw [hxr] at hne ⊢
  dsimp only at hne ⊢
  cases e₂ : getLo lo' figs with
  | none => rw [e₂] at hne; exact (hne rfl).elim
  | some w =>
  cases w with
  | pv p => rw [e₂] at hne; exact (hne rfl).elim
  | own mo' =>
  rw [e₂] at hne
  cases fl with
  | next => exact .mk e₀ hxr hfl (hxr ▸ hlo) hr e₂ (.inl ⟨rfl, rfl⟩) rfl
  | brk => exact (hne rfl).elim
  | cont => exact (hne rfl).elim
  | ret v =>
    cases v with
    | pv p => exact .mk e₀ hxr hfl (hxr ▸ hlo) hr e₂ (.inr rfl) rfl
    | own => exact (hne rfl).elim

theorem lend_ok (H : SoundS tp n r) {body : List Stmt} (hFD : ∀ g, tp.FD g = findFn g body) (Gd : Good tp c (n + 1)) (S : St c lo W m cv s) {g : Str} {d : FnDef} {a : Addr} {fd : FuncData} {us : List Value} {ps : List PV} {x : Str} {u : Value} (hd : tp.FD g = some d)
    (Fn : FnAt tp.mg c.base g d a fd) (hr : VReps W.F us ps) (hu : Held c m cv x u) : At c m cv W.F ((r.step body).lendE g x ps lo) (Go c (call (.ref a) (u :: us))) s (RelL c) := by
  intro hne
  rw [hFD] at hd
  obtain @⟨mo, xr, lo₁, fl₀, lo₂, mo₂, p, e₀, hxr, hfl, hlo, hss, e₂, hp, hres⟩ := lendE_inv hd hne
  rw [hres]
  obtain ⟨b, fo, hub, hb, hfo⟩ := S.inv.own_at (fun _ _ _ h1 h2 => S.inv.fn h1 h2) e₀ hu
  rw [hub] at hu ⊢
  obtain ⟨us', hus, hr', hfill⟩ := fill_rep (W := ⟨W.F, [(b, fo)]⟩) (us := .ref b :: us) (.cons (.own (by simp) hfo) (LReps.pvs hr)) hlo
  have hvs : ∃ vr, Ev.fill d.params (.own mo :: ps.map .pv) = .own mo :: vr ∧ ∀ v ∈ vr, ∃ p, v = .pv p := by
    rcases hfill with h | h
    · exact ⟨_, h, pv_all⟩
    · refine ⟨ps.map .pv ++ [.pv .none], by rw [h]; rfl, fun v hv => ?_⟩
      rcases List.mem_append.mp hv with hv | hv
      · exact pv_all v hv
      · exact ⟨.none, by simpa using hv⟩
  have hus0 : ∃ ur, us' = .ref b :: ur := by
    rcases hus with ⟨_, h⟩ | ⟨_, _, h⟩
    · exact ⟨_, h⟩
    · exact ⟨us ++ [.none], by rw [h]; rfl⟩
  obtain ⟨vr, hvr, hvp⟩ := hvs
  obtain ⟨ur, hur⟩ := hus0
  have hown : ∀ y mo', getLo lo₁ y = some (.own mo') → y = figs := fun y mo' e => by
    rw [hvr, hxr] at hlo
    rcases getLo_set_cases (bindLo_pv hvp (show Ev.bindLo xr vr (setLo (Ev.lo0 d.scope.names) figs (.own mo)) = some lo₁ from hlo) e) with ⟨h, _⟩ | ⟨_, h⟩
    · exact h
    · rw [lo0_none] at h; cases h
  generalize hsc : ({ d.scope with isCoroutine := true } : Scope) = sc at hss
  refine callee_run H Gd S Fn (OL := [(b, fo)]) (fun p hp => by rw [List.mem_singleton.mp hp]; exact hb) (by simp) (sc := sc) (by rw [← hsc]) hus hr' (la := some b) (fun a' ha' => ?_) (fun _ => by rw [← hsc]) hlo (fun y z _ _ h1 h2 => (hown y _ h1).trans (hown z _ h2).symm) (fun e => by rw [hss] at e; cases e) (fun fl lo' hres env W' m' cv' s' f henv hs S' rf => ?_) fun hres e s' he => by rw [hss] at hres; cases hres
  · cases ha'
    refine ⟨?_, hfl⟩
    rw [hxr, hur, List.zip_cons_cons]; exact List.mem_cons_self
  · rw [hss] at hres
    injection hres with h1 h2
    rw [← h1] at rf
    rw [← h2] at S'
    have hkind : (c.callee s.heap ([(b, fo)].map (·.1)) W.F sc env (some b)).env.kindOf figs = some .local := by
      show env.scope.names.lookup figs = some .local
      rw [henv]; exact hfl
    have hheld : Held (c.callee s.heap ([(b, fo)].map (·.1)) W.F sc env (some b)) m' cv' figs (.ref b) := .inl ⟨hkind, S'.inv.pin b rfl⟩
    obtain ⟨b', fo', hbe, hb', hfo'⟩ := S'.inv.own_at (fun _ _ _ h1 h2 => S'.inv.fn h1 h2) e₂ hheld
    rw [← Value.ref.inj hbe] at hb'
    refine ⟨⟨W'.F, repl W.O b fo'⟩, hs, St.back1 Gd S hs S' e₀ hu hb hb' hfo', ?_⟩
    rcases hp with ⟨h3, h4⟩ | h3
    · rw [h3] at rf; rw [h4]
      cases rf with | next => exact .pv .none
    · rw [h3] at rf
      cases rf with | ret h => cases h with | pv h => exact .pv h
end
end Mine
namespace Mine
open PySem PyProof.Rows PySem.W PySem.SeqAt

section
variable {M : Model} {A : Around} {E : Value → Shared → Prop} {s : Shared} {env : Env}

/-- how a block's frame ends -/
noncomputable def compEnd (M : Model) (A : Around) (E : Value → Shared → Prop) (use : Option (Value → Sem Unit)) (Q : Value → Shared → Prop) (acc : Value) (cenv : Env) (r : Result) (s' : Shared) : Prop :=
  match r, use with
  | .ok _, none => ∃ m, s'.heap.Ns cenv.locals m ∧ ∀ h', Heap.SameBut cenv.locals s'.heap h' → Q acc { s' with heap := h' }
  | .ok _, some u => wpAny M A (u acc) (fun _ s'' => ∃ m, s''.heap.Ns cenv.locals m ∧ ∀ h', Heap.SameBut cenv.locals s''.heap h' → Q .none { s'' with heap := h' }) E s'
  | .error x, _ => ∃ m, s'.heap.Ns cenv.locals m ∧ ∀ h', Heap.SameBut cenv.locals s'.heap h' → wpAny M A (passOn "comprehension.variables-let-go" x cenv : Sem Value) (fun _ _ => False) E { s' with heap := h' }

/-- a block that may let a raised thing through: the frame is told -/
theorem comp_run {e : Expr} {scope : Scope} {pos : Pos} {newAcc first : Sem Value} {g : Comprehension} {gs : List Comprehension} {cl : List (Str × Addr)} {use : Option (Value → Sem Unit)} {Q : Value → Shared → Prop}
    (hcl : clausesOf e = g :: gs) (hs : ∀ x, foldedSetIterable g.iter env x = pure x) (hclos : closureFor scope env = pure cl) (hcell : ∀ y ∈ scope.names, y.2 ≠ .cell)
    (hkind : scope.kind = .function) (hnames : ∀ x ∈ scope.names, x.2 = .local → scope.names.lookup x.1 = some .local)
    (h : wpAny M A first (fun x s₁ => wpAny M A (pyIter x) (fun it s₂ => wpAny M A newAcc (fun acc s₃ =>
      ∀ h', h'.Ns s₃.heap.objs.size (fun _ => none) → (∀ b o, s₃.heap.get? b = some o → h'.get? b = some o) →
        codeAny M A (.compStart e 0 it acc (compEnvC scope cl s₃.heap.objs.size env)) (compEnd M A E use Q acc (compEnvC scope cl s₃.heap.objs.size env)) { s₃ with heap := h', toks := s₃.toks + 0 }) E s₂) E s₁) E s) :
    wpAny M A (comprehension e scope env pos newAcc false first use) Q E s := by
  unfold comprehension
  rw [hclos, hcl]
  refine wpAny_bind (wpAny_mono h (fun x s₁ h₁ => wpAny_bind (wpAny_standAt (wpAny_bind (wpAny_of_eq (hs x) (wpAny_bind (wpAny_holding (wpAny_mono h₁ (fun it s₂ h₂ =>
    wpAny_standIf (wpAny_bind (wpAny_mono h₂ (fun acc s₃ h₃ => wpAny_bind (wpAny_pure (wpAny_bind (wpAny_newFunctionEnv hcell (by intro y hy; simp at hy) (fun h' hn hk => ?_) hkind)))) fun _ _ h' => h')))
      fun _ _ h' => h'))))))) fun _ _ h' => h')
  have h₄ := h₃ h' (by simpa using hn) fun b o e => hk.extBut b o (Nat.ne_of_lt (Heap.lt_size e)) (Heap.get?_push_of_some _ e)
  dsimp only
  have hv : ∀ x ∈ (scope.names.filter fun x => (x.2 == .local || x.2 == .cell) && x.1 != (".0" : Str)).reverse, x.2 = .local →
      Env.kindOf (compEnvC scope cl s₃.heap.objs.size env) x.1 = some .local := fun x hx hl => lookup_relabel_local (hnames x (List.mem_filter.mp (List.mem_reverse.mp hx)).1 hl)
  have hv' : ∀ x ∈ (scope.names.filter fun x => (x.2 == .local || x.2 == .cell) && x.1 != (".0" : Str)).reverse.drop 1 ++ (scope.names.filter fun x => (x.2 == .local || x.2 == .cell) && x.1 != (".0" : Str)).reverse.take 1,
      x.2 = .local → Env.kindOf (compEnvC scope cl s₃.heap.objs.size env) x.1 = some .local := fun x hx hl => by
    rcases List.mem_append.mp hx with h1 | h1
    · exact hv x (List.mem_of_mem_drop h1) hl
    · exact hv x (List.mem_of_mem_take h1) hl
  refine wpAny_holding (wpAny_bind (wpAny_attempt (wpAny_holding (wpAny_run (codeAny_mono h₄ fun r s' hr => ?_)))))
  cases r with
  | ok f =>
    cases use with
    | none =>
      obtain ⟨m, hn, hr⟩ := hr
      exact wpAny_bind (wpAny_holding (wpAny_comp_letGo (cenv := compEnvC scope cl s₃.heap.objs.size env) hkind _ s' m hv hn fun h' m' _ hs' => wpAny_pure (hr h' hs')))
    | some u =>
      refine wpAny_bind (wpAny_rule (wpAny_bind (wpAny_holding (wpAny_mono hr (fun _ s'' hr' => ?_) fun _ _ h' => h'))))
      obtain ⟨m, hn, hr'⟩ := hr'
      exact wpAny_bind (wpAny_comp_letGo (cenv := compEnvC scope cl s₃.heap.objs.size env) hkind _ s'' m hv' hn fun h' m' _ hs' => wpAny_pure (hr' h' hs'))
  | error x =>
    have hr' : ∃ m, s'.heap.Ns (compEnvC scope cl s₃.heap.objs.size env).locals m ∧ ∀ h', Heap.SameBut (compEnvC scope cl s₃.heap.objs.size env).locals s'.heap h' →
        wpAny M A (passOn "comprehension.variables-let-go" x (compEnvC scope cl s₃.heap.objs.size env) : Sem Value) (fun _ _ => False) E { s' with heap := h' } := by cases use <;> exact hr
    obtain ⟨m, hn, hr⟩ := hr'
    exact wpAny_bind (wpAny_holding (wpAny_comp_letGo (cenv := compEnvC scope cl s₃.heap.objs.size env) hkind _ s' m hv hn fun h' m' _ hs' => wpAny_mono (hr h' hs') (fun _ _ f => f.elim) fun _ _ y => y))

/-! ### the closure of a block -/
theorem closure_go {env : Env} : ∀ (names : List (Str × NameKind)) (cs : List (Str × Addr)), (∀ y, (y, NameKind.free) ∈ names → ∃ a, env.cells.lookup y = some a) →
    ∃ cl, (forIn names cs fun (x : Str × NameKind) r => (if (x.2 == NameKind.free) = true then do let a ← cellOf env x.1; pure (ForInStep.yield ((x.1, a) :: r)) else pure (ForInStep.yield r) : Sem _)) = pure cl ∧
      (∀ y a, cl.lookup y = some a → cs.lookup y = some a ∨ env.cells.lookup y = some a) ∧ (∀ y, (cs.lookup y).isSome ∨ (y, NameKind.free) ∈ names → (cl.lookup y).isSome)
  | [], cs, _ => ⟨cs, rfl, fun y a h => .inl h, fun y h => by rcases h with h | h; exact h; cases h⟩
  | (x, k) :: r, cs, h => by
    have hr : ∀ y, (y, NameKind.free) ∈ r → ∃ a, env.cells.lookup y = some a := fun y hy => h y (List.mem_cons_of_mem _ hy)
    by_cases hk : k = .free
    · subst hk
      obtain ⟨a, ha⟩ := h x List.mem_cons_self
      obtain ⟨cl, h1, h2, h3⟩ := closure_go r ((x, a) :: cs) hr
      refine ⟨cl, ?_, fun y b hb => ?_, fun y hy => h3 y ?_⟩
      · rw [List.forIn_cons]
        have : cellOf env x = pure a := by unfold cellOf; rw [ha]
        simp only [beq_self_eq_true, if_true, this]
        exact h1
      · rcases h2 y b hb with h4 | h4
        · by_cases e : y = x
          · subst e
            simp only [List.lookup_cons, beq_self_eq_true] at h4
            exact .inr (ha.trans h4)
          · rw [List.lookup_cons, beq_false_of_ne e] at h4; exact .inl h4
        · exact .inr h4
      · by_cases e : y = x
        · subst e; exact .inl (by simp [List.lookup_cons])
        · rcases hy with h4 | h4
          · exact .inl (by rw [List.lookup_cons, beq_false_of_ne e]; exact h4)
          · rcases List.mem_cons.mp h4 with h5 | h5
            · cases h5; exact absurd rfl e
            · exact .inr h5
    · obtain ⟨cl, h1, h2, h3⟩ := closure_go r cs hr
      refine ⟨cl, ?_, h2, fun y hy => h3 y ?_⟩
      · rw [List.forIn_cons]
        have : (k == NameKind.free) = false := by simpa using hk
        simp only [this, Bool.false_eq_true, if_false]
        exact h1
      · rcases hy with h4 | h4
        · exact .inl h4
        · rcases List.mem_cons.mp h4 with h5 | h5
          · cases h5; exact absurd rfl hk
          · exact .inr h5

theorem closure_ok {scope : Scope} {env : Env} (h : ∀ y, (y, NameKind.free) ∈ scope.names → ∃ a, env.cells.lookup y = some a) :
    ∃ cl, closureFor scope env = pure cl ∧ ∀ y, (y, NameKind.free) ∈ scope.names → ∃ a, cl.lookup y = some a ∧ env.cells.lookup y = some a := by
  obtain ⟨cl, h1, h2, h3⟩ := closure_go scope.names [] h
  refine ⟨cl, ?_, fun y hy => ?_⟩
  · unfold closureFor
    have := congrArg (fun t : Sem (List (Str × Addr)) => t >>= fun cs => pure cs) h1
    first
      | exact this
      | simpa using this
  · obtain ⟨a, ha⟩ := Option.isSome_iff_exists.mp (h3 y (.inr hy))
    refine ⟨a, ha, ?_⟩
    rcases h2 y a ha with h4 | h4
    · cases h4
    · exact h4

theorem lookup_relabel_free {env : Env} {y : Str} (hf : env.scope.kind = .function) (hk : env.kindOf y = some .cell) : ∀ {names : List (Str × NameKind)}, names.lookup y = some .free →
    (names.map fun (n, k) => if (k == NameKind.free && env.scope.kind == .function && env.kindOf n == some .cell) then (n, NameKind.cell) else (n, k)).lookup y = some .cell
  | [], h => by simp at h
  | (n, k) :: r, h => by
    have ih := @lookup_relabel_free env y hf hk r
    show List.lookup y ((if (k == NameKind.free && env.scope.kind == .function && env.kindOf n == some .cell) = true then (n, NameKind.cell) else (n, k)) :: _) = _
    cases hx : y == n with
    | true =>
      simp only [List.lookup_cons, hx] at h
      cases h
      obtain rfl := beq_iff_eq.mp hx
      rw [hf, hk]
      simp [List.lookup_cons]
    | false =>
      simp only [List.lookup_cons, hx] at h
      by_cases hc : (k == NameKind.free && env.scope.kind == .function && env.kindOf n == some .cell) = true
      · rw [if_pos hc]; simp only [List.lookup_cons, hx]; exact ih h
      · rw [if_neg hc]; simp only [List.lookup_cons, hx]; exact ih h
theorem lookup_relabel_any {env : Env} : ∀ {names : List (Str × NameKind)} {y : Str},
    (names.map fun (n, k) => if (k == NameKind.free && env.scope.kind == .function && env.kindOf n == some .cell) then (n, NameKind.cell) else (n, k)).lookup y = names.lookup y ∨
      (names.lookup y = some .free ∧ (names.map fun (n, k) => if (k == NameKind.free && env.scope.kind == .function && env.kindOf n == some .cell) then (n, NameKind.cell) else (n, k)).lookup y = some .cell)
  | [], y => .inl rfl
  | (n, k) :: r, y => by
    have ih := @lookup_relabel_any env r y
    show List.lookup y ((if (k == NameKind.free && env.scope.kind == .function && env.kindOf n == some .cell) = true then (n, NameKind.cell) else (n, k)) :: _) = _ ∨ _ ∧ List.lookup y ((if (k == NameKind.free && env.scope.kind == .function && env.kindOf n == some .cell) = true then (n, NameKind.cell) else (n, k)) :: _) = _
    by_cases hc : (k == NameKind.free && env.scope.kind == .function && env.kindOf n == some .cell) = true
    · rw [if_pos hc]
      cases hx : y == n with
      | true =>
        simp only [List.lookup_cons, hx]
        have : k = .free := by
          simp only [Bool.and_eq_true, beq_iff_eq] at hc
          exact hc.1.1
        exact .inr ⟨by rw [this], trivial⟩
      | false => simp only [List.lookup_cons, hx]; exact ih
    · rw [if_neg hc]
      cases hx : y == n with
      | true => simp only [List.lookup_cons, hx]; exact .inl trivial
      | false => simp only [List.lookup_cons, hx]; exact ih
end
end Mine
namespace Mine
open PySem PyProof.Rows PySem.W PySem.SeqAt

/-- a block's own frame -/
noncomputable def Cx.innerN (c : Cx) (b : Heap) (W : Wd) (m : Str → Option Value) (cv : Addr → Option Value) (scope : Scope) (cl : List (Str × Addr)) (C : Addr) : Cx :=
  { prog := c.prog, w := c.w, base := b, os := c.os, sc := Ev.marked scope, env := compEnvC scope cl C c.env, cl := [],
    X := (c.env.locals, NsP m) :: (c.cl.map (fun p => (p.2, CellP (cv p.2))) ++ (c.X ++ W.O.map fun p => (p.1, fun o => p.2.is c.prog c.w o))), A := c.A, E := No,
    x := { c.x with Fp := (C, fun o => ∃ m, NsP m o) :: c.x.Fp }, Fs := W.F, la := none }
noncomputable def Cx.inner (c : Cx) (b : Heap) (W : Wd) (m : Str → Option Value) (cv : Addr → Option Value) (scope : Scope) (cl : List (Str × Addr)) (C : Addr) : Cx := { c.innerN b W m cv scope cl C with E := Arr (c.innerN b W m cv scope cl C) }

section
variable {tp : TopP} {c : Cx} {m : Str → Option Value} {cv : Addr → Option Value} {lo : Lo} {W : Wd} {s : Shared} {n : Nat} {r : Ev} {F0 F1 : Led} {b : Heap} {scope : Scope} {cl : List (Str × Addr)} {C : Addr} {mC : Str → Option Value}

theorem inner_X (b : Heap) (scope : Scope) (cl : List (Str × Addr)) (C : Addr) : (c.inner b W m cv scope cl C).X.map (·.1) = muts c W.O := by
  show ((c.env.locals, NsP m) :: (c.cl.map (fun p => (p.2, CellP (cv p.2))) ++ (c.X ++ W.O.map fun p => (p.1, fun o => p.2.is c.prog c.w o)))).map (·.1) = _
  unfold muts
  rw [List.map_cons, List.map_append, List.map_append, List.map_map, List.map_map]
  rfl
theorem inner_muts (b : Heap) (scope : Scope) (cl : List (Str × Addr)) (C : Addr) (O : Led) : muts (c.inner b W m cv scope cl C) O = C :: (muts c W.O ++ O.map (·.1)) := by
  have h := inner_X (c := c) (W := W) (m := m) (cv := cv) b scope cl C
  unfold muts at h ⊢
  rw [h]
  rfl
theorem ns_of {h : Heap} {a : Addr} {o : Obj} (ho : h.get? a = some o) (hn : NsP m o) : h.Ns a m := let ⟨es, ep, h2, h3, h4⟩ := hn; ⟨o, es, ep, ho, h2, h3, h4⟩

/-- a block's facts -/
structure CompAt (tp : TopP) (c : Cx) (scope : Scope) (cl : List (Str × Addr)) (x : Str) : Prop where
  kind : scope.kind = .function
  x : isLocal scope x = true
  cell : ∀ y ∈ scope.names, y.2 ≠ .cell
  loc : ∀ y ∈ scope.names, y.2 = .local → scope.names.lookup y.1 = some .local
  fr : ∀ y, (y, NameKind.free) ∈ scope.names → c.env.kindOf y = some .cell ∧ ∃ a, cl.lookup y = some a ∧ c.env.cells.lookup y = some a
  clos : closureFor scope c.env = pure cl
  noset : ∀ a b d, ∀ it, Ev.isSetE it = false → it ≠ .Set a b d

theorem compOk_at (Gd : Good tp c n) {x : Str} {it : Expr} (h : Ev.compOk c.sc scope x it = true) : Ev.isSetE it = false ∧ ∃ cl, CompAt tp c scope cl x := by
  unfold Ev.compOk at h
  simp only [Bool.and_eq_true, Bool.not_eq_true', decide_eq_true_eq, List.all_eq_true, Bool.or_eq_true] at h
  obtain ⟨⟨⟨⟨h0, h1⟩, h2⟩, h3⟩, h4⟩ := h
  have hfr : ∀ y, (y, NameKind.free) ∈ scope.names → c.env.kindOf y = some .cell ∧ ∃ a, c.env.cells.lookup y = some a := fun y hy => by
    have h5 : c.sc.names.lookup y = some .cell := by
      rcases (h4 _ hy).2 with h | h
      · exact absurd rfl h
      · exact h
    obtain ⟨a, ha, _⟩ := Gd.cells y h5
    refine ⟨?_, a, ha⟩
    rcases Gd.kind y with e | ⟨e, _⟩
    · rw [e, h5]
    · rw [h5] at e; cases e
  obtain ⟨cl, e1, e2⟩ := closure_ok (env := c.env) (scope := scope) fun y hy => (hfr y hy).2
  refine ⟨h0, cl, h1, h2, fun y hy => (h4 y hy).1.1, fun y hy e => ?_, fun y hy => ⟨(hfr y hy).1, e2 y hy⟩, e1, fun a b d it hi e => ?_⟩
  · rcases (h4 y hy).1.2 with h | h
    · exact absurd e h
    · exact h
  · subst e; cases hi

theorem pvOnly_get : ∀ {lo : Lo} {y : Str} {v : LV}, getLo (Ev.pvOnly scope lo) y = some v → ∃ p, v = .pv p ∧ getLo lo y = some (.pv p) ∧ scope.names.lookup y = some .free
  | [], y, v, h => by cases h
  | (z, w) :: r, y, v, h => by
    unfold Ev.pvOnly at h
    unfold getLo at h ⊢
    by_cases hz : z = y
    · subst hz
      rw [if_pos rfl] at h ⊢
      unfold Ev.pvFree at h
      split at h
      · rename_i p
        split at h
        · rename_i hf; cases h; exact ⟨p, rfl, rfl, hf⟩
        · cases h
      · cases h
    · rw [if_neg hz] at h ⊢
      exact pvOnly_get h

theorem Gd_fp_ne (Gd : Good tp c n) (f : Free c W C) : ∀ p ∈ c.x.Fp, p.1 ≠ C := fun p hp e => by
  have hn := f.away
  unfold muts at hn
  simp only [List.mem_cons, List.mem_append, not_or] at hn
  rcases Gd.fpk p hp with ⟨P, h1, _⟩ | ⟨h1, _⟩ | ⟨h1, _⟩ | ⟨o, h1, _⟩
  · exact hn.2.2.1 (e ▸ List.mem_map.mpr ⟨_, h1, rfl⟩)
  · exact hn.1 (e ▸ h1)
  · exact hn.2.1 (e ▸ h1)
  · rw [e, f.based] at h1; cases h1

theorem Good.inner (Gd : Good tp c n) (I : Inv c lo W m cv s.heap) {x : Str} (Cp : CompAt tp c scope cl x) (hb : c.base.StaysIn b) : Good tp (c.inner b W m cv scope cl C) n where
  tops := Gd.tops.keeps hb
  kind := fun y => lookup_relabel_any
  fnk := Cp.kind
  gl := Gd.gl
  bl := Gd.bl
  units := Gd.units
  depth := Gd.depth
  handled := Gd.handled
  frames := Gd.frames
  same := Gd.same
  frk := fun e he => by
    obtain ⟨h1, L, h2, h3⟩ := Gd.frk e he
    refine ⟨h1, L, h2, .inr ?_⟩
    rcases h3 with rfl | ⟨P, h3, st⟩
    · exact ⟨NsP m, List.mem_cons_self, NsP.stab m⟩
    · exact ⟨P, List.mem_cons_of_mem _ (List.mem_append_right _ (List.mem_append_left _ h3)), st⟩
  frn := Gd.frn
  fps := fun p hp => by
    rcases List.mem_cons.mp hp with rfl | hp
    · exact ⟨fun o sl ⟨m, h⟩ => ⟨m, (NsP.stab m).up o sl h⟩, fun o vs ⟨m, h⟩ => (NsP.stab m).nf o vs h⟩
    · exact Gd.fps p hp
  fpk := fun p hp => by
    rcases List.mem_cons.mp hp with rfl | hp
    · exact .inr (.inl ⟨rfl, fun m o h => ⟨m, h⟩⟩)
    · rcases Gd.fpk p hp with ⟨P, h1, h2⟩ | ⟨h1, h2⟩ | ⟨h1, h2⟩ | ⟨o, h1, h2⟩
      · exact .inl ⟨P, List.mem_cons_of_mem _ (List.mem_append_right _ (List.mem_append_left _ h1)), h2⟩
      · exact .inl ⟨NsP m, by rw [h1]; exact List.mem_cons_self, h2 m⟩
      · obtain ⟨q, hq, e⟩ := List.mem_map.mp h1
        refine .inl ⟨CellP (cv q.2), List.mem_cons_of_mem _ (List.mem_append_left _ (List.mem_map.mpr ⟨q, hq, ?_⟩)), h2 _⟩
        rw [e]
      · exact .inr (.inr (.inr ⟨o, hb _ _ h1, h2⟩))
  bst := fun a o e => hb a o (Gd.bst a o e)
  cells := fun y hy => absurd rfl (Cp.cell _ (mem_of_lookup (show scope.names.lookup y = some .cell from hy)))
  hE := rfl
  pinned := fun h => absurd rfl h
  tr := fun h => nomatch h
  xcls := Gd.xcls

/-- a block's frame at a turn -/
theorem St.inner (Gd : Good tp c n) (S : St c lo W m cv s) {x : Str} (Cp : CompAt tp c scope cl x) (f : Free c W C) (hC : s.heap.Ns C mC) {u : Value} {p : PV} (hx : mC x = some u) (hu : VRep W.F u p) :
    c.base.StaysIn (hideAll s.heap (C :: muts c W.O)) ∧ St (c.inner (hideAll s.heap (C :: muts c W.O)) W m cv scope cl C) ((x, some (.pv p)) :: Ev.pvOnly scope lo) ⟨W.F, []⟩ mC (fun _ => none) s := by
  have I := S.inv
  have hst : c.base.StaysIn (hideAll s.heap (C :: muts c W.O)) := fun a o e => hideAll_get _ (I.keep a o e) fun hm => by
    rcases List.mem_cons.mp hm with rfl | hm
    · rw [f.based] at e; cases e
    · rw [I.new a hm] at e; cases e
  have hm := inner_muts (c := c) (W := W) (m := m) (cv := cv) (hideAll s.heap (C :: muts c W.O)) scope cl C []
  simp only [List.map_nil, List.append_nil] at hm
  refine ⟨hst, S.gens, S.os, ?_⟩
  refine ⟨fun a o e => of_hideAll _ e, hC, fun p hp => (nomatch hp), fun p hp => ?_, I.fix, fun p hp => (nomatch hp), ?_, ?_, ?_, ?_, ?_, ?_, I.mods, fun p hp => .inl hp, fun a ha => nomatch ha⟩
  · rcases List.mem_cons.mp hp with rfl | hp
    · exact ns_obj I.ns
    · rcases List.mem_append.mp hp with hp | hp
      · obtain ⟨q, hq, rfl⟩ := List.mem_map.mp hp
        obtain ⟨o, h1, h2⟩ := I.cells q hq
        exact ⟨o, h1, h2⟩
      · rcases List.mem_append.mp hp with hp | hp
        · exact I.ext p hp
        · obtain ⟨q, hq, rfl⟩ := List.mem_map.mp hp
          exact I.own q hq
  · intro y v hy
    unfold getLo at hy
    by_cases hxy : x = y
    · subst hxy
      rw [if_pos rfl] at hy
      cases hy
      refine ⟨u, .inl ⟨?_, hx⟩, .pv hu⟩
      have := Cp.x
      unfold isLocal at this
      simp only [Bool.and_eq_true] at this
      exact lookup_relabel_local (beq_iff_eq.mp this.1.1)
    · rw [if_neg hxy] at hy
      obtain ⟨q, rfl, h1, h2⟩ := pvOnly_get hy
      obtain ⟨k, a, h3, h4⟩ := Cp.fr y (mem_of_lookup h2)
      obtain ⟨u', hu', rr⟩ := I.los y _ h1
      cases rr with
      | pv rr =>
      refine ⟨u', .inr ⟨.inl (lookup_relabel_free Gd.fnk k h2), a, h3, .inr ?_⟩, .pv rr⟩
      rcases hu' with ⟨k', _⟩ | ⟨_, a', h5, h6⟩
      · rw [k] at k'; cases k'
      · rw [h4] at h5; cases h5
        rcases h6 with ⟨i, e⟩ | h6
        · obtain ⟨q, hq, e'⟩ := List.mem_map.mp i
          refine List.mem_cons_of_mem _ (List.mem_append_left _ (List.mem_map.mpr ⟨q, hq, ?_⟩))
          rw [e', e]
        · exact List.mem_cons_of_mem _ (List.mem_append_right _ (List.mem_append_left _ h6))
  · intro y z my mz _ hy
    exfalso
    unfold getLo at hy
    by_cases hxy : x = y
    · rw [if_pos hxy] at hy; cases hy
    · rw [if_neg hxy] at hy
      obtain ⟨q, e, _⟩ := pvOnly_get hy
      cases e
  · rw [hm]; exact List.nodup_cons.mpr ⟨f.away, I.nodup⟩
  · intro p hp
    rw [hm]
    exact fun h => by
      rcases List.mem_cons.mp h with h | h
      · exact f.fixd p hp h
      · exact I.off p hp h
  · intro a ha
    rw [hm] at ha
    exact hideAll_none _ ha
  · cases e : c.base.get? sysModules with
    | none => exact absurd e I.sys
    | some o =>
      rw [show (c.inner (hideAll s.heap (C :: muts c W.O)) W m cv scope cl C).base.get? sysModules = some o from hst _ _ e]
      exact fun e => nomatch e

/-- a turn is over -/
theorem St.outer (S0 : Inv c lo W m cv s.heap) (f : Free c W C) (hbs : c.base.StaysIn b) (hbn : ∀ a ∈ C :: muts c W.O, b.get? a = none) {lo' : Lo} {W' : Wd} {cv' : Addr → Option Value} {s' : Shared} (hs : Sub W.F W'.F) (S : St (c.inner b W m cv scope cl C) lo' W' mC cv' s') :
    St c lo ⟨W'.F, W.O⟩ m cv s' ∧ s'.heap.Ns C mC ∧ Free c ⟨W'.F, W.O⟩ C ∧ (∀ a o, b.get? a = some o → s'.heap.get? a = some o) ∧ ∀ a o, b.get? a = some o → Free c W a → Free c ⟨W'.F, W.O⟩ a := by
  have I := S.inv
  have hm := inner_muts (c := c) (W := W) (m := m) (cv := cv) b scope cl C W'.O
  have off : ∀ p ∈ W'.F, p.1 ≠ C ∧ p.1 ∉ muts c W.O := fun p hp => by
    have := I.off p hp
    rw [hm] at this
    simp only [List.mem_cons, List.mem_append, not_or] at this
    exact ⟨this.1, this.2.1⟩
  refine ⟨⟨S.gens, S.os, ?_⟩, I.ns, ⟨f.away, fun p hp => (off p hp).1, f.based⟩, I.keep, fun a o ha fa => ⟨fa.away, fun p hp e => ?_, fa.based⟩⟩
  · have ext : ∀ p ∈ (c.inner b W m cv scope cl C).X, ∃ o, s'.heap.get? p.1 = some o ∧ p.2 o := I.ext
    refine ⟨fun a o e => I.keep a o (hbs a o e), ?_, ?_, ?_, I.fix, ?_, ?_, S0.inj, S0.nodup, fun p hp => (off p hp).2, S0.new, S0.sys, I.mods, fun p hp => ?_, S0.pin⟩
    · obtain ⟨o, h1, h2⟩ := ext _ List.mem_cons_self
      exact ns_of h1 h2
    · intro p hp
      obtain ⟨o, h1, h2⟩ := ext (p.2, CellP (cv p.2)) (List.mem_cons_of_mem _ (List.mem_append_left _ (List.mem_map.mpr ⟨p, hp, rfl⟩)))
      exact ⟨o, h1, h2⟩
    · intro p hp
      exact ext p (List.mem_cons_of_mem _ (List.mem_append_right _ (List.mem_append_left _ hp)))
    · intro p hp
      exact ext (p.1, fun o => p.2.is c.prog c.w o) (List.mem_cons_of_mem _ (List.mem_append_right _ (List.mem_append_right _ (List.mem_map.mpr ⟨p, hp, rfl⟩))))
    · intro y v e
      obtain ⟨u, hu, r⟩ := S0.los y v e
      exact ⟨u, hu, LRep.mono (W := W) (W' := ⟨W'.F, W.O⟩) hs (fun _ h => h) r⟩
    · rcases I.fresh p hp with h | h
      · exact S0.fresh p h
      · refine .inr ?_
        cases e : c.base.get? p.1 with
        | none => rfl
        | some o => have := hbs _ _ e; rw [show b.get? p.1 = none from h] at this; cases this
  · rcases I.fresh p hp with h | h
    · exact fa.fixd p h e
    · rw [show (c.inner b W m cv scope cl C).base = b from rfl, e, ha] at h; cases h

/-- a raised thing leaves a block -/
theorem ArrH.out {e : Value} {s' : Shared} (h : ArrH (c.inner b W m cv scope cl C) e s') : ArrH c e s' ∧ ∃ mC, s'.heap.Ns C mC := by
  obtain ⟨g1, g2, g3, a, rfl, a0, L, hL, hh⟩ := h
  obtain ⟨o, h1, mC, h2⟩ := g3 (C, fun o => ∃ m, NsP m o) List.mem_cons_self
  exact ⟨⟨g1, g2, fun p hp => g3 p (List.mem_cons_of_mem _ hp), a, rfl, a0, L, hL, hh⟩, mC, ns_of h1 h2⟩

theorem ls_ne (Gd : Good tp c n) (f : Free c W C) : ∀ L ∈ c.x.ls, L ≠ C := fun L hL e => f.away (e ▸ ls_muts Gd hL W.O)

theorem funFrames_but {B h h' : Heap} {C : Addr} (hk : ∀ b o, b ≠ C → h.get? b = some o → h'.get? b = some o) : ∀ {l : List Env}, (∀ L ∈ l.filterMap (·.frame), L ≠ C) → h.FunFrames B l → h'.FunFrames B l
  | [], _, _ => trivial
  | env :: r, hn, ⟨k, ⟨L, o, hf, h1, h2, h3⟩, hr⟩ => by
    have hL : L ∈ (env :: r).filterMap (·.frame) := by rw [List.filterMap_cons, hf]; exact List.mem_cons_self
    refine ⟨k, ⟨L, o, hf, h1, hk _ _ (hn L hL) h2, h3⟩, funFrames_but hk (fun L' h' => hn L' ?_) hr⟩
    rw [List.filterMap_cons, hf]; exact List.mem_cons_of_mem _ h'

/-- the block's frame turns: the raised thing stays -/
theorem ArrH.but (Gd : Good tp c n) {F : Led} (f : Free c ⟨F, W.O⟩ C) {e : Value} {s' : Shared} (h : ArrH c e s') (hC : s'.heap.Ns C mC) {h' : Heap} (hs : Heap.SameBut C s'.heap h') : ArrH c e { s' with heap := h' } := by
  have hk : ∀ b o, b ≠ C → s'.heap.get? b = some o → h'.get? b = some o := fun b o hb e => hs.extBut b o hb e
  obtain ⟨g1, g2, g3, a, rfl, a0, L, hL, k1, k2, k3, oe, vs, T, oT, ts, he, hcls, hd, h1, hnT, hTe, hT, hdT, h3⟩ := h
  obtain ⟨oC, es, ep, hoC, hdC, _⟩ := hC
  have nf : ∀ {a : Addr} {o : Obj} {vs : Array Value}, s'.heap.get? a = some o → o.data = .fields vs → a ≠ C := fun h d e => by
    rw [e, hoC] at h; cases h; rw [hdC] at d; cases d
  refine ⟨g1, g2, fun p hp => ?_, a, rfl, a0, L, hL, fun b o hb => ?_, k2, funFrames_but hk (ls_ne Gd (W := ⟨F, W.O⟩) f) k3, oe, vs, T, oT, ts, hk _ _ (nf he hd) he, hcls, hd, h1, hnT, hTe, hk _ _ (nf hT hdT) hT, hdT, h3⟩
  · obtain ⟨o, q1, q2⟩ := g3 p hp
    exact ⟨o, hk _ _ (Gd_fp_ne Gd (W := ⟨F, W.O⟩) f p hp) q1, q2⟩
  · refine hk _ _ (fun q => ?_) (k1 b o hb)
    have := Gd.bst b o hb
    rw [q, f.based] at this; cases this

/-- it goes on past the block -/
theorem ArrH.passOn (Gd : Good tp c n) {M : Model} {A' : Around} {env : Env} {what : String} {α : Type} (hf : env.frame = c.x.fenv.frame) {e : Value} {s' : Shared} (h : ArrH c e s') {Q : α → Shared → Prop} : wpAny M A' (PySem.passOn what e env : Sem α) Q (Arr c) s' := by
  obtain ⟨g1, g2, g3, a, rfl, a0, L, hL, hh⟩ := h
  obtain ⟨f1, f2, f3, f4⟩ := id hh
  obtain ⟨oe, vs, T, oT, ts, he, hcls, hd, h1, hnT, hTe, hT, hdT, h3⟩ := id f4
  unfold PySem.passOn
  refine wpAny_bind (wpAny_field he hd h1 ?_)
  rw [if_neg (show ¬ ((Value.ref T == Value.none) = true) from by simp)]
  have key : wpAny M A' (setFlight (.ref a) env.frame >>= fun _ => (throw (.ref a) : Sem α)) Q (Arr c) s' := by
    rw [hf, hL]
    refine wpAny_bind (setFlight_some f1 f3 f4 fun h' k1 k2 k3 k4 => wpAny_throw ?_)
    exact ⟨g1, g2, FpOk.slots Gd g3 (fun b o hb hn => ⟨o.slots, k4 b o hb hn⟩), a, rfl, .inr (.inr ⟨a0, L, hL, k1, f2, k2, k3⟩)⟩
  first
    | exact key
    | exact wpAny_bind (wpAny_pure key)
end
end Mine
namespace Mine
open PySem PyProof.Rows PySem.W PySem.SeqAt

noncomputable def Res.map {α β : Type} (f : α → β) : Res α → Res β
  | .ok a lo => .ok (f a) lo
  | .exc => .exc
  | .fail => .fail

section
variable {tp : TopP} {c : Cx} {m : Str → Option Value} {cv : Addr → Option Value} {lo : Lo} {W : Wd} {s : Shared} {n : Nat} {r : Ev} {F0 F1 : Led} {scope : Scope} {cl : List (Str × Addr)} {C : Addr}

theorem tests_ok {tp : TopP} {c : Cx} {m : Str → Option Value} {cv : Addr → Option Value} {lo : Lo} {W : Wd} {s : Shared} (H : SoundE tp n r) (Gd : Good tp c n) (S : St c lo W m cv s) (ifs : List Expr) :
    At c m cv W.F (r.tests c.sc ifs lo) (Go c (forIn ifs true fun x b => if b = true then do let ok ← isTrue x c.env (eval x c.env); pure (ForInStep.yield ok) else pure (ForInStep.yield b))) s RelB := by
  match ifs with
  | [] => exact fun _ => wpAny_tests_nil ⟨W, Sub.refl _, S, rfl⟩
  | [e] => exact fun hne => wpAny_tests_one (H.b Gd S e hne)
  | _ :: _ :: _ => exact fun h => (h rfl).elim

/-- what a turn yields -/
inductive RelO : Option PV → Wd → Heap → Option Value → Prop
  | none {W h} : RelO none W h none
  | some {W h u p} : VRep W.F u p → RelO (some p) W h (some u)
inductive RelO2 : Option (PV × PV) → Wd → Heap → Option (Value × Value) → Prop
  | none {W h} : RelO2 none W h none
  | some {W h u v p q} : VRep W.F u p → VRep W.F v q → RelO2 (some (p, q)) W h (some (u, v))
/-- a tree's two ends, from what it says -/
theorem At.use {c : Cx} {m : Str → Option Value} {cv : Addr → Option Value} {F0 : Led} {s : Shared} {α β : Type} {r : Res α} {G : (β → Shared → Prop) → (Value → Shared → Prop) → Shared → Prop} {Rel : α → Wd → Heap → β → Prop} (h : At c m cv F0 r G s Rel) (hne : r = .fail → False) {Q : β → Shared → Prop} {E : Value → Shared → Prop}
    (mono : ∀ Q' E', (∀ b s', Q' b s' → Q b s') → (∀ e s', E' e s' → E e s') → G Q' E' s → G Q E s)
    (kok : ∀ a lo', r = .ok a lo' → ∀ b s', Post c lo' m cv F0 (Rel a) b s' → Q b s') (kexc : r = .exc → ∀ e s', c.E e s' → E e s') : G Q E s := by
  have h := h hne
  cases r with
  | ok a lo' => exact mono _ _ (kok a lo' rfl) (fun _ _ e => e.elim) h
  | exc => exact mono _ _ (fun _ _ e => e.elim) (kexc rfl) h
  | fail => exact (hne rfl).elim
/-- the tests of a block's clause, as the machine runs them -/
noncomputable abbrev testsT (ifs : List Expr) (env : Env) : Sem Bool := forIn ifs true fun x b => if b = true then do let ok ← isTrue x env (eval x env); pure (ForInStep.yield ok) else pure (ForInStep.yield b)
noncomputable def GoL (c : Cx) (ifs : List Expr) (elt : Expr) (Q : Option Value → Shared → Prop) (E : Value → Shared → Prop) (s : Shared) : Prop :=
  wpAny c.M c.A (testsT ifs c.env) (fun ok s₃ => if ok = true then wpAny c.M c.A (eval elt c.env) (fun v s₄ => Q (some v) s₄) E s₃ else Q none s₃) E s
noncomputable def GoD (c : Cx) (ifs : List Expr) (kx vx : Expr) (Q : Option (Value × Value) → Shared → Prop) (E : Value → Shared → Prop) (s : Shared) : Prop :=
  wpAny c.M c.A (testsT ifs c.env) (fun ok s₃ => if ok = true then wpAny c.M c.A (eval kx c.env) (fun u s₄ => wpAny c.M c.A (eval vx c.env) (fun v s₅ => Q (some (u, v)) s₅) E s₄) E s₃ else Q none s₃) E s
theorem GoL.mono {c : Cx} {ifs : List Expr} {elt : Expr} {s : Shared} {Q Q' : Option Value → Shared → Prop} {E E' : Value → Shared → Prop} (hq : ∀ b s', Q' b s' → Q b s') (he : ∀ e s', E' e s' → E e s') (h : GoL c ifs elt Q' E' s) : GoL c ifs elt Q E s := by
  refine wpAny_mono h (fun ok s₃ q => ?_) he
  cases ok with
  | true => exact wpAny_mono q (fun _ _ q => hq _ _ q) he
  | false => exact hq _ _ q
theorem GoD.mono {c : Cx} {ifs : List Expr} {kx vx : Expr} {s : Shared} {Q Q' : Option (Value × Value) → Shared → Prop} {E E' : Value → Shared → Prop} (hq : ∀ b s', Q' b s' → Q b s') (he : ∀ e s', E' e s' → E e s') (h : GoD c ifs kx vx Q' E' s) : GoD c ifs kx vx Q E s := by
  refine wpAny_mono h (fun ok s₃ q => ?_) he
  cases ok with
  | true => exact wpAny_mono q (fun _ _ q => wpAny_mono q (fun _ _ q => hq _ _ q) he) he
  | false => exact hq _ _ q
noncomputable def bodyL1 (r : Ev) (sc : Scope) (ifs : List Expr) (elt : Expr) : R (Option PV) := (r.tests sc ifs).bind fun t => if t then (r.pvE sc elt).bind fun y => .ret (some y) else .ret none
noncomputable def bodyD1 (r : Ev) (sc : Scope) (ifs : List Expr) (kx vx : Expr) : R (Option (PV × PV)) := (r.tests sc ifs).bind fun t => if t then (r.pvE sc kx).bind fun y => (r.pvE sc vx).bind fun z => .ret (some (y, z)) else .ret none
theorem elemL_ok {tp : TopP} {c : Cx} {m : Str → Option Value} {cv : Addr → Option Value} {lo : Lo} {W : Wd} {s : Shared} (H : SoundE tp n r) (Gd : Good tp c n) (S : St c lo W m cv s) (ifs : List Expr) (elt : Expr) : At c m cv W.F (bodyL1 r c.sc ifs elt lo) (GoL c ifs elt) s RelO := by
  refine (tests_ok H Gd S ifs).seq (G := fun ok Q E s₃ => if ok = true then wpAny c.M c.A (eval elt c.env) (fun v s₄ => Q (some v) s₄) E s₃ else Q none s₃) fun t lo₁ ok s₁ W₁ S₁ h₁ r₁ => ?_
  obtain rfl : ok = t := r₁
  cases ok with
  | true => exact (pvE_ok H Gd S₁ elt).seq (G := fun v Q _ s => Q (some v) s) fun y lo₂ v s₂ W₂ S₂ h₂ r₂ => At.pure S₂ (h₁.trans h₂) (.some r₂)
  | false => exact At.pure S₁ h₁ .none
theorem elemD_ok {tp : TopP} {c : Cx} {m : Str → Option Value} {cv : Addr → Option Value} {lo : Lo} {W : Wd} {s : Shared} (H : SoundE tp n r) (Gd : Good tp c n) (S : St c lo W m cv s) (ifs : List Expr) (kx vx : Expr) : At c m cv W.F (bodyD1 r c.sc ifs kx vx lo) (GoD c ifs kx vx) s RelO2 := by
  refine (tests_ok H Gd S ifs).seq (G := fun ok Q E s₃ => if ok = true then wpAny c.M c.A (eval kx c.env) (fun u s₄ => wpAny c.M c.A (eval vx c.env) (fun v s₅ => Q (some (u, v)) s₅) E s₄) E s₃ else Q none s₃) fun t lo₁ ok s₁ W₁ S₁ h₁ r₁ => ?_
  obtain rfl : ok = t := r₁
  cases ok with
  | true =>
    exact (pvE_ok H Gd S₁ kx).seq (G := fun u Q E s₄ => wpAny c.M c.A (eval vx c.env) (fun v s₅ => Q (some (u, v)) s₅) E s₄) fun y lo₂ u s₂ W₂ S₂ h₂ r₂ =>
      (pvE_ok H Gd S₂ vx).seq (G := fun v Q _ s => Q (some (u, v)) s) fun z lo₃ v s₃ W₃ S₃ h₃ r₃ => At.pure S₃ ((h₁.trans h₂).trans h₃) (.some (VRep.sub r₂ h₃) r₃)
  | false => exact At.pure S₁ h₁ .none

/-- a block's loop before its turn i -/
structure LoopI (c : Cx) (lo : Lo) (W : Wd) (m : Str → Option Value) (cv : Addr → Option Value) (SI : Nat → Heap → Prop) (I C D : Addr) (FD : Led → Obj → Prop) (i : Nat) (F' : Led) (mC : Str → Option Value) (s' : Shared) : Prop where
  sub : Sub W.F F'
  st : St c lo ⟨F', W.O⟩ m cv s'
  si : SI i s'.heap
  fI : Free c ⟨F', W.O⟩ I
  fC : Free c ⟨F', W.O⟩ C
  nC : s'.heap.Ns C mC
  fD : Free c ⟨F', W.O⟩ D
  nD : D ≠ C
  oD : ∃ o, s'.heap.get? D = some o ∧ FD F' o
structure Apart (fp : List Addr) (W : Wd) (c : Cx) (I C D : Addr) : Prop where
  ic : I ≠ C
  id : I ≠ D
  fps : ∀ b ∈ fp, b = I ∨ ∃ fo, (b, fo) ∈ W.F
  fC : Free c W C
  fD : Free c W D
  fI : Free c W I
  off : ∀ p ∈ W.F, p.1 ∉ muts c W.O
theorem Apart.fpC {fp : List Addr} {W : Wd} {c : Cx} {I C D : Addr} (P : Apart fp W c I C D) {b : Addr} (hb : b ∈ fp) : b ≠ C := fun e => by
  rcases P.fps b hb with h | ⟨fo, h⟩
  · exact P.ic (h ▸ e)
  · exact P.fC.fixd _ h e
theorem Apart.fpD {fp : List Addr} {W : Wd} {c : Cx} {I C D : Addr} (P : Apart fp W c I C D) {b : Addr} (hb : b ∈ fp) : b ≠ D := fun e => by
  rcases P.fps b hb with h | ⟨fo, h⟩
  · exact P.id (h ▸ e)
  · exact P.fD.fixd _ h e
theorem Apart.fpm {fp : List Addr} {W : Wd} {c : Cx} {I C D : Addr} (P : Apart fp W c I C D) {b : Addr} (hb : b ∈ fp) : b ∉ muts c W.O := by
  rcases P.fps b hb with h | ⟨fo, h⟩
  · exact h ▸ P.fI.away
  · exact P.off _ h
/-- the turn's item is stored; the block's frame stands -/
theorem turn_open (Gd : Good tp c n) {items : List PV} {P : Nat → Value → Prop} {SI : Nat → Heap → Prop} {fp : List Addr} {I D : Addr} (Wk : Walks c.prog c.w c.A I fp [I] items.length P SI) (Ap : Apart fp W c I C D) {x : Str} (Cp : CompAt tp c scope cl x) {px : Pos}
    {FD : Led → Obj → Prop} {i : Nat} {F' : Led} {mC : Str → Option Value} {s' : Shared} (L : LoopI c lo W m cv SI I C D FD i F' mC s') (hiI : ∀ h, SI (i + 1) h → ∃ o, h.get? I = some o) {v : Value} {p : PV} (rv : VRep W.F v p) {h' : Heap} {tk : Nat} (hSI' : SI (i + 1) h') (hk : ∀ b o, b ∉ [I] → s'.heap.get? b = some o → h'.get? b = some o)
    {Q : Unit → Shared → Prop} {E : Value → Shared → Prop}
    (K : ∀ b s₂, Good tp (c.inner b ⟨F', W.O⟩ m cv scope cl C) n → St (c.inner b ⟨F', W.O⟩ m cv scope cl C) ((x, some (.pv p)) :: Ev.pvOnly scope lo) ⟨F', []⟩ (fun y => if y = x then some v else mC y) (fun _ => none) s₂ →
      (∀ lo' W₄ s₄, Sub F' W₄.F → St (c.inner b ⟨F', W.O⟩ m cv scope cl C) lo' W₄ (fun y => if y = x then some v else mC y) (fun _ => none) s₄ → LoopI c lo W m cv SI I C D (fun _ => FD F') (i + 1) W₄.F (fun y => if y = x then some v else mC y) s₄) → Q () s₂) :
    wpAny c.M c.A (assign (.Name x px) (compEnvC scope cl C c.env) v) Q E { s' with heap := h', toks := tk } := by
  have S₁ := L.st.moved L.fI (tk := tk) hk
  obtain ⟨oI, hoI⟩ := hiI _ hSI'
  have hCI : C ∉ [I] := by simpa using Ne.symm Ap.ic
  have hDI : D ∉ [I] := by simpa using Ne.symm Ap.id
  have xk : (compEnvC scope cl C c.env).kindOf x = some .local := by
    have := Cp.x
    unfold isLocal at this
    simp only [Bool.and_eq_true] at this
    exact lookup_relabel_local (beq_iff_eq.mp this.1.1)
  refine wpAny_assign_Name (wpAny_storeName_local xk (L.nC.at' fun o e => hk _ o hCI e) (fun h₂ hn₂ hs₂ => ?_) (by show (scope.kind == .class || (scope.kind == .module && _)) = false; rw [Cp.kind]; rfl))
  have S₂ : St c lo ⟨F', W.O⟩ m cv { s' with heap := h₂, toks := tk + 1 } := ⟨S₁.gens, S₁.os, S₁.inv.but L.fC fun b o hb e => hs₂.extBut b o hb e⟩
  obtain ⟨oD, hD, hoD⟩ := L.oD
  have hD₂ : h₂.get? D = some oD := hs₂.extBut _ _ L.nD (hk _ _ hDI hD)
  have hI₂ : h₂.get? I = some oI := hs₂.extBut _ _ Ap.ic hoI
  obtain ⟨hst, S₃⟩ := S₂.inner Gd Cp L.fC (mC := fun y => if y = x then some v else mC y) hn₂ (u := v) (p := p) (if_pos rfl) (rv.mono L.sub)
  have hbs : ∀ a o, h₂.get? a = some o → a ≠ C → a ∉ muts c W.O → (hideAll h₂ (C :: muts c W.O)).get? a = some o := fun a o e h1 h2 =>
    hideAll_get _ e fun hm => by rcases List.mem_cons.mp hm with h | h; exact h1 h; exact h2 h
  refine K _ _ (Good.inner (C := C) (cl := cl) Gd S₂.inv Cp hst) S₃ fun lo' W₄ s₄ hs₄ S₄ => ?_
  obtain ⟨q1, q2, q3, q4, q5⟩ := S₄.outer S₂.inv L.fC hst (fun a ha => hideAll_none _ ha) hs₄
  exact ⟨L.sub.trans hs₄, q1, Wk.frame _ _ _ hSI' fun a ha o e => q4 a o (hbs a o (hs₂.extBut a o (Ap.fpC ha) e) (Ap.fpC ha) (Ap.fpm ha)), q5 I oI (hbs _ _ hI₂ Ap.ic L.fI.away) L.fI, q3, q2, q5 D _ (hbs _ _ hD₂ L.nD L.fD.away) L.fD, L.nD, oD, q4 D _ (hbs _ _ hD₂ L.nD L.fD.away), hoD⟩
/-- a raised thing leaves the block -/
theorem turn_exc (Gd : Good tp c n) {b : Heap} {F' : Led} (GdI : Good tp (c.inner b ⟨F', W.O⟩ m cv scope cl C) n) {R : Result → Shared → Prop} (hexc : ∀ e s', ArrH c e s' → (∃ mC, s'.heap.Ns C mC) → R (.error e) s') {e : Value} {s₁ : Shared} (h : (c.inner b ⟨F', W.O⟩ m cv scope cl C).E e s₁) :
    notedBy c.M c.A (compEnvC scope cl C c.env) (fun e s' => R (.error e) s') e s₁ := by
  rw [GdI.hE] at h
  unfold notedBy
  rw [noteFrame_env (env := compEnvC scope cl C c.env) (env' := (c.inner b ⟨F', W.O⟩ m cv scope cl C).x.fenv) Gd.same]
  refine wpAny_mono (Arr.note GdI GdI.frames h) (fun _ s'' q => ?_) fun _ _ e => e
  obtain ⟨h1, h2⟩ := q.out
  exact hexc _ _ h1 h2
/-- the filled object turned -/
theorem LoopI.turned {SI : Nat → Heap → Prop} {I C D : Addr} {FD FD' : Led → Obj → Prop} {i : Nat} {F' : Led} {mC : Str → Option Value} {s' : Shared} (L : LoopI c lo W m cv SI I C D FD i F' mC s') {items : List PV} {P : Nat → Value → Prop} {fp : List Addr} (Wk : Walks c.prog c.w c.A I fp [I] items.length P SI) (Ap : Apart fp W c I C D)
    {h' : Heap} {t : Nat} (hup : ∀ b o, b ≠ D → s'.heap.get? b = some o → h'.get? b = some o) (ho : ∃ o, h'.get? D = some o ∧ FD' F' o) : LoopI c lo W m cv SI I C D FD' i F' mC { s' with heap := h', toks := t } :=
  ⟨L.sub, ⟨L.st.gens, L.st.os, L.st.inv.but L.fD hup⟩, Wk.frame _ _ _ L.si fun a ha o e => hup a o (Ap.fpD ha) e, L.fI, L.fC, L.nC.at' fun o e => hup _ o (Ne.symm L.nD) e, L.fD, L.nD, ho⟩
theorem LoopI.done {SI : Nat → Heap → Prop} {I C D : Addr} {FD : Led → Obj → Prop} {i : Nat} {F' : Led} {mC : Str → Option Value} {s' : Shared} (L : LoopI c lo W m cv SI I C D FD i F' mC s') (hic : I ≠ C) (hid : I ≠ D) {h' : Heap} {tk : Nat} (hk : ∀ b o, b ∉ [I] → s'.heap.get? b = some o → h'.get? b = some o) :
    St c lo ⟨F', W.O⟩ m cv { s' with heap := h', toks := tk } ∧ h'.Ns C mC ∧ ∃ o, h'.get? D = some o ∧ FD F' o := by
  have hCI : C ∉ [I] := by simpa using Ne.symm hic
  have hDI : D ∉ [I] := by simpa using Ne.symm hid
  obtain ⟨o, h1, h2⟩ := L.oD
  exact ⟨L.st.moved L.fI hk, L.nC.at' fun o e => hk _ o hCI e, o, hk _ _ hDI h1, h2⟩
theorem IterAt.apart {items : List PV} {P : Nat → Value → Prop} {SI : Nat → Heap → Prop} {fp : List Addr} {I D : Addr} (It : IterAt c lo W m cv items P SI fp I s) (hic : I ≠ C) (hid : I ≠ D) (fC : Free c W C) (fD : Free c W D) : Apart fp W c I C D := ⟨hic, hid, It.fps, fC, fD, It.free, It.st.inv.off⟩
theorem drop_at {items : List PV} {i : Nat} {p : PV} (h : items[i]? = some p) : items.drop i = p :: items.drop (i + 1) := by
  obtain ⟨hlt, e⟩ := List.getElem?_eq_some_iff.mp h
  rw [← e]; exact List.drop_eq_getElem_cons hlt

noncomputable def Res.to {α : Type} (lo : Lo) : Res α → Res α
  | .ok a _ => .ok a lo
  | .exc => .exc
  | .fail => .fail
theorem onItem_eq {α : Type} {x : Str} {body : R α} {p : PV} {lo : Lo} : Ev.onItem scope x body p lo = (body ((x, some (.pv p)) :: Ev.pvOnly scope lo)).to lo := by
  unfold Ev.onItem Ev.inLo
  cases body ((x, some (.pv p)) :: Ev.pvOnly scope lo) <;> rfl
theorem compGo_cons {f : PV → R (Option PV)} {p : PV} {ps : List PV} {lo : Lo} : Ev.compGo f (p :: ps) lo = (match f p lo with
    | .ok o lo' => (Ev.compGo f ps lo').map (o.toList ++ ·)
    | .exc => .exc
    | .fail => .fail) := by
  show (f p).bind (fun o => (Ev.compGo f ps).bind fun l => R.ret (o.toList ++ l)) lo = _
  unfold R.bind
  cases f p lo with
  | ok o lo' => dsimp only; cases Ev.compGo f ps lo' <;> rfl
  | exc => rfl
  | fail => rfl
theorem Res.map_map {α β γ : Type} {f : α → β} {g : β → γ} {r : Res α} : (r.map f).map g = r.map fun a => g (f a) := by cases r <;> rfl

/-- the list that a block fills -/
structure Filling (c : Cx) (W : Wd) (D C : Addr) (l : List PV) (h : Heap) : Prop where
  free : Free c W D
  ne : D ≠ C
  obj : ∃ vs k, h.get? D = some { cls := .type "list", dict := none, data := .seq vs.toArray k, slots := #[] } ∧ VReps W.F vs l

noncomputable def FDL (c : Cx) (l : List PV) (F : Led) (o : Obj) : Prop := ∃ vs k, o = { cls := .type "list", dict := none, data := .seq vs.toArray k, slots := #[] } ∧ VReps F vs l
theorem append_turn {D : Addr} {SI : Nat → Heap → Prop} {I C : Addr} {l : List PV} {i : Nat} {F0 F' : Led} {mC : Str → Option Value} {s' : Shared} (L : LoopI c lo W m cv SI I C D (fun _ => FDL c l F0) i F' mC s') (hs : Sub F0 F') (hl : l.length < 2 ^ 20) {items : List PV} {P : Nat → Value → Prop} {fp : List Addr} (Wk : Walks c.prog c.w c.A I fp [I] items.length P SI) (Ap : Apart fp W c I C D)
    {v : Value} {p : PV} (rv : VRep F' v p) {Q : Value → Shared → Prop} {E : Value → Shared → Prop} (K : ∀ u s'', LoopI c lo W m cv SI I C D (FDL c (l ++ [p])) i F' mC s'' → Q u s'') :
    wpAny c.M c.A (call (.builtin "list.append") [.ref D, v]) Q E s' := by
  obtain ⟨_, q7, vs, kD, e, hvs⟩ := L.oD
  rw [e] at q7
  have hz : vs.toArray.size ≤ sizeLine := by rw [sizeLine_eq, List.size_toArray, hvs.length]; omega
  refine call_meets PySem.F.slot_list_append ⟨_, q7, rfl⟩ PySem.F.entry_list_append (PySem.F.args_list_append_2 _ _) (PySem.list_append D vs.toArray kD _ hz) ⟨q7, K _ _ ?_⟩
  refine L.turned (t := s'.toks) Wk Ap (fun b o hb ho => (Heap.get?_update_other _ _ (Ne.symm hb)).trans ho) ⟨_, Heap.get?_update_self _ q7 rfl, vs ++ [v], if (vs.toArray.push v).size == vs.toArray.size then kD else kD + 1, ?_, (hvs.mono hs).append (.one rv)⟩
  rw [← show vs.toArray.push v = (vs ++ [v]).toArray by simp]
  rfl

noncomputable def optQ {α : Type} (K0 : Shared → Prop) (K1 : α → Shared → Prop) : Option α → Shared → Prop
  | none => K0
  | some v => K1 v
/-- the loop of a list's block, k turns to go -/
noncomputable def InvL (c : Cx) (lo : Lo) (W : Wd) (m : Str → Option Value) (cv : Addr → Option Value) (SI : Nat → Heap → Prop) (I C D : Addr) (f : PV → R (Option PV)) (items : List PV) (k : Nat) (s' : Shared) : Prop :=
  ∃ i l F' mC, k = items.length + 1 - i ∧ i ≤ items.length ∧ LoopI c lo W m cv SI I C D (FDL c l) i F' mC s' ∧ l.length ≤ i ∧ (Ev.compGo f (items.drop i) lo).map (l ++ ·) = Ev.compGo f items lo
theorem InvL.next {SI : Nat → Heap → Prop} {I D : Addr} {f : PV → R (Option PV)} {items : List PV} {i : Nat} {l : List PV} {p : PV} (hp : items[i]? = some p) (hli : l.length ≤ i) (hR : (Ev.compGo f (items.drop i) lo).map (l ++ ·) = Ev.compGo f items lo)
    {o : Option PV} {F'' : Led} {mC' : Str → Option Value} {s₅ : Shared} (ho : f p lo = .ok o lo) (h : LoopI c lo W m cv SI I C D (FDL c (l ++ o.toList)) (i + 1) F'' mC' s₅) : ∃ k', k' < items.length + 1 - i ∧ InvL c lo W m cv SI I C D f items k' s₅ := by
  have hlt := (List.getElem?_eq_some_iff.mp hp).1
  refine ⟨items.length + 1 - (i + 1), by omega, i + 1, _, F'', mC', rfl, hlt, h, ?_, ?_⟩
  · rw [List.length_append]
    cases o <;> simp <;> omega
  · rw [← hR, drop_at hp, compGo_cons, ho]
    simp only
    rw [Res.map_map]
    congr 1
    funext a
    exact List.append_assoc ..

theorem listLoop_ok (H : SoundE tp n r) (Gd : Good tp c n) {items : List PV} {P : Nat → Value → Prop} {SI : Nat → Heap → Prop} {fp : List Addr} {I : Addr} (It : IterAt c lo W m cv items P SI fp I s) {x : Str} (Cp : CompAt tp c scope cl x) (px : Pos) {iter elt : Expr} {ifs : List Expr} {pos : Pos} {D : Addr} {m0 : Str → Option Value}
    (fC : Free c W C) (hC : s.heap.Ns C m0) (hF : Filling c W D C [] s.heap) (hIC : I ≠ C) (hID : I ≠ D) (hsz : items.length < 2 ^ 20) {Rr : Result → Shared → Prop}
    (hne : Ev.compGo (Ev.onItem scope x (bodyL1 r (Ev.marked scope) ifs elt)) items lo = .fail → False)
    (hok : ∀ l, Ev.compGo (Ev.onItem scope x (bodyL1 r (Ev.marked scope) ifs elt)) items lo = .ok l lo →
      ∀ F' s' mC, Sub W.F F' → St c lo ⟨F', W.O⟩ m cv s' → Free c ⟨F', W.O⟩ C → s'.heap.Ns C mC → Filling c ⟨F', W.O⟩ D C l s'.heap → Rr (.ok .next) s')
    (hexc : Ev.compGo (Ev.onItem scope x (bodyL1 r (Ev.marked scope) ifs elt)) items lo = .exc →
      ∀ e s', ArrH c e s' → (∃ mC, s'.heap.Ns C mC) → Rr (.error e) s') :
    codeAny c.M c.A (.compLoop (.ListComp elt [⟨.Name x px, iter, ifs, 0⟩] scope pos) 0 (.ref I) (.ref D) (compEnvC scope cl C c.env)) Rr s := by
  have Ap := It.apart hIC hID fC hF.free
  have Wk := It.walks
  generalize hf : Ev.onItem scope x (bodyL1 r (Ev.marked scope) ifs elt) = f at hne hok hexc
  refine codeAny_compLoop_tests (InvL c lo W m cv SI I C D f items) (fun k s' h => ?_) (items.length + 1) ?_
  rotate_left
  · obtain ⟨vs, k, h1, h2⟩ := hF.obj
    refine ⟨0, [], W.F, m0, rfl, Nat.zero_le _, ⟨Sub.refl _, It.st, It.at0, It.free, fC, hC, hF.free, hF.ne, _, h1, vs, k, rfl, h2⟩, Nat.le_refl _, ?_⟩
    rw [List.drop_zero]
    cases Ev.compGo f items lo <;> rfl
  obtain ⟨i, l, F', mC, hk, hi, L, hli, hR⟩ := h
  rw [hk]
  rcases Nat.lt_or_ge i items.length with hlt | hge
  · refine Wk.item i s' _ _ hlt L.si fun v h' tk hP hSI' hk => ?_
    obtain ⟨p, hp, rv⟩ := It.itm i v hlt hP
    refine turn_open Gd Wk Ap Cp L (fun h q => by obtain ⟨o, _, h1, _⟩ := It.obj _ _ q; exact ⟨o, h1⟩) rv hSI' hk fun b s₂ GdI S₃ back => ?_
    have hfp : f p lo = (bodyL1 r (Ev.marked scope) ifs elt ((x, some (.pv p)) :: Ev.pvOnly scope lo)).to lo := by rw [← hf]; exact onItem_eq
    have hbad : ∀ y : Res (List PV), f p lo = .exc ∧ y = .exc ∨ f p lo = .fail ∧ y = .fail → Ev.compGo f items lo = y := fun y h => by
      rw [← hR, drop_at hp, compGo_cons]
      rcases h with ⟨h, e⟩ | ⟨h, e⟩ <;> rw [h, e] <;> rfl
    refine At.use (elemL_ok H GdI S₃ ifs elt) (fun e => hne (hbad _ (.inr ⟨hfp.trans (congrArg (Res.to lo) e), rfl⟩)))
      (Q := optQ (fun s₄ => ∃ k', k' < items.length + 1 - i ∧ InvL c lo W m cv SI I C D f items k' s₄) fun v s₄ => wpAny c.M c.A (call (.builtin "list.append") [.ref D, v]) (fun _ s₅ => ∃ k', k' < items.length + 1 - i ∧ InvL c lo W m cv SI I C D f items k' s₅) (notedBy c.M c.A (compEnvC scope cl C c.env) fun e s' => Rr (.error e) s') s₄)
      (fun Q' E' => GoL.mono) (fun o lo' e v s₄ q => ?_) (fun e _ _ h => turn_exc Gd GdI (hexc (hbad _ (.inl ⟨hfp.trans (congrArg (Res.to lo) e), rfl⟩))) h)
    have hfp : f p lo = .ok o lo := hfp.trans (congrArg (Res.to lo) e)
    obtain ⟨W₄, hs₄, S₄, rr⟩ := q
    have B := back _ _ _ hs₄ S₄
    cases rr with
    | none =>
      obtain ⟨oD, h1, vs, kD, h2, h3⟩ := B.oD
      exact InvL.next (o := none) hp hli hR hfp { B with oD := ⟨oD, h1, vs, kD, h2, by rw [Option.toList_none, List.append_nil]; exact h3.mono hs₄⟩ }
    | some ry => exact append_turn B hs₄ (by omega) Wk Ap ry fun _ _ q => InvL.next hp hli hR hfp q
  · have hi' : i = items.length := by omega
    rw [hi'] at L hR
    refine Wk.done s' _ _ L.si fun h' tk hk => ?_
    rw [List.drop_length] at hR
    obtain ⟨h1, h2, oD, h3, vs, kD, h4, h5⟩ := L.done hIC hID (tk := tk) hk
    exact hok l (hR.symm.trans (by simp [Ev.compGo, R.ret, Res.map])) F' _ mC L.sub h1 L.fC h2 ⟨L.fD, L.nD, vs, kD, h4 ▸ h3, h5⟩
end
end Mine
namespace Mine
open PySem PyProof.Rows PySem.W PySem.SeqAt

section
variable {tp : TopP} {c : Cx} {m : Str → Option Value} {cv : Addr → Option Value} {lo : Lo} {W : Wd} {s : Shared} {n : Nat} {r : Ev} {F0 F1 : Led} {scope : Scope} {cl : List (Str × Addr)} {C : Addr}

theorem dcompGo_cons {f : PV → R (Option (PV × PV))} {p : PV} {ps : List PV} {mo : MO} {lo : Lo} : Ev.dcompGo f (p :: ps) mo lo = (match f p lo with
    | .ok none lo' => Ev.dcompGo f ps mo lo'
    | .ok (some kv) lo' => (match Ev.dsetS mo kv.1 kv.2 with
      | some mo' => Ev.dcompGo f ps mo' lo'
      | none => .fail)
    | .exc => .exc
    | .fail => .fail) := by
  show (f p).bind (fun o => match o with
    | none => Ev.dcompGo f ps mo
    | some kv => (R.lift (Ev.dsetS mo kv.1 kv.2)).bind fun m' => Ev.dcompGo f ps m') lo = _
  unfold R.bind
  cases f p lo with
  | ok o lo' =>
    cases o with
    | none => rfl
    | some kv => dsimp only; cases Ev.dsetS mo kv.1 kv.2 <;> rfl
  | exc => rfl
  | fail => rfl

theorem dsetS_some {l l' : MO} {y z : PV} (h : Ev.dsetS l y z = some l') : Ev.MO.size l < 2 ^ 20 ∧ dset l y z = some l' := by
  have e : Ev.dsetS l y z = if Ev.MO.size l < 2 ^ 20 then dset l y z else none := by cases l <;> rfl
  rw [e] at h
  exact ite_some h

/-- the table that a block fills -/
structure FillingD (c : Cx) (W : Wd) (D C : Addr) (mo : MO) (h : Heap) : Prop where
  free : Free c W D
  ne : D ≠ C
  obj : ∃ fo, (∃ o, h.get? D = some o ∧ fo.is c.prog c.w o) ∧ FORep W.F fo mo

noncomputable def FDD (c : Cx) (mo : MO) (F : Led) (o : Obj) : Prop := ∃ fo, fo.is c.prog c.w o ∧ FORep F fo mo
/-- the loop of a table's block, k turns to go -/
noncomputable def InvD (c : Cx) (lo : Lo) (W : Wd) (m : Str → Option Value) (cv : Addr → Option Value) (SI : Nat → Heap → Prop) (I C D : Addr) (f : PV → R (Option (PV × PV))) (items : List PV) (k : Nat) (s' : Shared) : Prop :=
  ∃ i l F' mC, k = items.length + 1 - i ∧ i ≤ items.length ∧ LoopI c lo W m cv SI I C D (FDD c l) i F' mC s' ∧ Ev.dcompGo f (items.drop i) l lo = Ev.dcompGo f items (.dcti [] []) lo
theorem InvD.next {SI : Nat → Heap → Prop} {I D : Addr} {f : PV → R (Option (PV × PV))} {items : List PV} {i : Nat} {l l' : MO} {p : PV} (hp : items[i]? = some p) (hR : Ev.dcompGo f (items.drop i) l lo = Ev.dcompGo f items (.dcti [] []) lo)
    {o : Option (PV × PV)} {F'' : Led} {mC' : Str → Option Value} {s₅ : Shared} (ho : f p lo = .ok o lo) (hl' : (match o with | none => some l | some kv => Ev.dsetS l kv.1 kv.2) = some l') (h : LoopI c lo W m cv SI I C D (FDD c l') (i + 1) F'' mC' s₅) : ∃ k', k' < items.length + 1 - i ∧ InvD c lo W m cv SI I C D f items k' s₅ := by
  have hlt := (List.getElem?_eq_some_iff.mp hp).1
  refine ⟨items.length + 1 - (i + 1), by omega, i + 1, l', F'', mC', rfl, hlt, h, ?_⟩
  rw [← hR, drop_at hp, dcompGo_cons, ho]
  cases o with
  | none => cases hl'; rfl
  | some kv => dsimp only at hl' ⊢; rw [hl']
theorem dset_turn (Gd : Good tp c n) {D : Addr} {SI : Nat → Heap → Prop} {I C : Addr} {l l' : MO} {i : Nat} {F0 F' : Led} {mC : Str → Option Value} {s' : Shared} (L : LoopI c lo W m cv SI I C D (fun _ => FDD c l F0) i F' mC s') (hs : Sub F0 F') {items : List PV} {P : Nat → Value → Prop} {fp : List Addr} (Wk : Walks c.prog c.w c.A I fp [I] items.length P SI) (Ap : Apart fp W c I C D)
    {u v : Value} {y z : PV} (ry : VRep F' u y) (rz : VRep F' v z) (hd : Ev.dsetS l y z = some l') {Q : Unit → Shared → Prop} {E : Value → Shared → Prop} (K : ∀ u s'', LoopI c lo W m cv SI I C D (FDD c l') i F' mC s'' → Q u s'') :
    wpAny c.M c.A (dictSet D u v) Q E s' := by
  obtain ⟨oD, q7, fo, hoD, hfo⟩ := L.oD
  have hds := dsetS_some hd
  refine wpAny_mono (dset_step (T := dictSet D u v) L.st.standsF ⟨?_, ?_⟩ ⟨oD, q7, hoD⟩ (hfo.mono hs) ry rz hds.1 hds.2) (fun _ s₇ q => ?_) fun _ _ e => e
  · intro K _ knd kvs kk hk hm hl Q hQ
    exact wpAny_dictSet_pairs hk hm hQ hl
  · intro xs kk b hb hk hm hl Q hQ
    subst hb
    exact wpAny_dictSet_heap (knd := tupleKind (intKind c.prog c.w)) (show c.A.units < cLine by have := Gd.units; omega) hk hm (fun h' h1 h2 => hQ h' _ h1 h2) hl
  · obtain ⟨h₇, t₇, fo', e, hsb, ⟨o', ho', hi'⟩, hr'⟩ := q
    rw [e]
    exact K _ _ (L.turned Wk Ap (fun b o hb ho => hsb.extBut b o hb ho) ⟨o', ho', fo', hi', hr'⟩)

theorem dictLoop_ok (H : SoundE tp n r) (Gd : Good tp c n) {items : List PV} {P : Nat → Value → Prop} {SI : Nat → Heap → Prop} {fp : List Addr} {I : Addr} (It : IterAt c lo W m cv items P SI fp I s) {x : Str} (Cp : CompAt tp c scope cl x) (px : Pos) {iter kx vx : Expr} {ifs : List Expr} {pos : Pos} {D : Addr} {m0 : Str → Option Value}
    (fC : Free c W C) (hC : s.heap.Ns C m0) (hF : FillingD c W D C (.dcti [] []) s.heap) (hIC : I ≠ C) (hID : I ≠ D) {Rr : Result → Shared → Prop}
    (hne : Ev.dcompGo (Ev.onItem scope x (bodyD1 r (Ev.marked scope) ifs kx vx)) items (.dcti [] []) lo = .fail → False)
    (hok : ∀ (l : MO), Ev.dcompGo (Ev.onItem scope x (bodyD1 r (Ev.marked scope) ifs kx vx)) items (.dcti [] []) lo = .ok l lo →
      ∀ F' s' mC, Sub W.F F' → St c lo ⟨F', W.O⟩ m cv s' → Free c ⟨F', W.O⟩ C → s'.heap.Ns C mC → FillingD c ⟨F', W.O⟩ D C l s'.heap → Rr (.ok .next) s')
    (hexc : Ev.dcompGo (Ev.onItem scope x (bodyD1 r (Ev.marked scope) ifs kx vx)) items (.dcti [] []) lo = .exc →
      ∀ e s', ArrH c e s' → (∃ mC, s'.heap.Ns C mC) → Rr (.error e) s') :
    codeAny c.M c.A (.compLoop (.DictComp kx vx [⟨.Name x px, iter, ifs, 0⟩] scope pos) 0 (.ref I) (.ref D) (compEnvC scope cl C c.env)) Rr s := by
  have Ap := It.apart hIC hID fC hF.free
  have Wk := It.walks
  generalize hf : Ev.onItem scope x (bodyD1 r (Ev.marked scope) ifs kx vx) = f at hne hok hexc
  refine codeAny_compLoop_testsD (InvD c lo W m cv SI I C D f items) (fun k s' h => ?_) (items.length + 1) ?_
  rotate_left
  · obtain ⟨fo, ⟨oD, h1, h2⟩, h3⟩ := hF.obj
    exact ⟨0, .dcti [] [], W.F, m0, rfl, Nat.zero_le _, ⟨Sub.refl _, It.st, It.at0, It.free, fC, hC, hF.free, hF.ne, oD, h1, fo, h2, h3⟩, by rw [List.drop_zero]⟩
  obtain ⟨i, l, F', mC, hk, hi, L, hR⟩ := h
  rw [hk]
  rcases Nat.lt_or_ge i items.length with hlt | hge
  · refine Wk.item i s' _ _ hlt L.si fun v h' tk hP hSI' hk => ?_
    obtain ⟨p, hp, rv⟩ := It.itm i v hlt hP
    refine turn_open Gd Wk Ap Cp L (fun h q => by obtain ⟨o, _, h1, _⟩ := It.obj _ _ q; exact ⟨o, h1⟩) rv hSI' hk fun b s₂ GdI S₃ back => ?_
    have hfp : f p lo = (bodyD1 r (Ev.marked scope) ifs kx vx ((x, some (.pv p)) :: Ev.pvOnly scope lo)).to lo := by rw [← hf]; exact onItem_eq
    have hbad : ∀ y : Res MO, f p lo = .exc ∧ y = .exc ∨ f p lo = .fail ∧ y = .fail → Ev.dcompGo f items (.dcti [] []) lo = y := fun y h => by
      rw [← hR, drop_at hp, dcompGo_cons]
      rcases h with ⟨h, e⟩ | ⟨h, e⟩ <;> rw [h, e]
    refine At.use (elemD_ok H GdI S₃ ifs kx vx) (fun e => hne (hbad _ (.inr ⟨hfp.trans (congrArg (Res.to lo) e), rfl⟩)))
      (Q := optQ (fun s₄ => ∃ k', k' < items.length + 1 - i ∧ InvD c lo W m cv SI I C D f items k' s₄) fun kv s₄ => wpAny c.M c.A (dictSet D kv.1 kv.2) (fun _ s₅ => ∃ k', k' < items.length + 1 - i ∧ InvD c lo W m cv SI I C D f items k' s₅) (notedBy c.M c.A (compEnvC scope cl C c.env) fun e s' => Rr (.error e) s') s₄)
      (fun Q' E' => GoD.mono) (fun o lo' e v s₄ q => ?_) (fun e _ _ h => turn_exc Gd GdI (hexc (hbad _ (.inl ⟨hfp.trans (congrArg (Res.to lo) e), rfl⟩))) h)
    have hfp : f p lo = .ok o lo := hfp.trans (congrArg (Res.to lo) e)
    obtain ⟨W₄, hs₄, S₄, rr⟩ := q
    have B := back _ _ _ hs₄ S₄
    cases rr with
    | none =>
      obtain ⟨oD, h1, fo, h2, h3⟩ := B.oD
      exact InvD.next (o := none) hp hR hfp rfl { B with oD := ⟨oD, h1, fo, h2, h3.mono hs₄⟩ }
    | @some _ _ _ _ y z ry rz =>
      cases hd : Ev.dsetS l y z with
      | none => exact (hne (by rw [← hR, drop_at hp, dcompGo_cons, hfp]; dsimp only; rw [hd])).elim
      | some l' => exact dset_turn Gd B hs₄ Wk Ap ry rz hd fun _ _ q => InvD.next hp hR hfp hd q
  · have hi' : i = items.length := by omega
    rw [hi'] at L hR
    refine Wk.done s' _ _ L.si fun h' tk hk => ?_
    rw [List.drop_length] at hR
    obtain ⟨h1, h2, oD, h3, fo, h4, h5⟩ := L.done hIC hID (tk := tk) hk
    exact hok l hR.symm F' _ mC L.sub h1 L.fC h2 ⟨L.fD, L.nD, fo, ⟨oD, h3, h4⟩, h5⟩
end
end Mine
namespace Mine
open PySem PyProof.Rows PySem.W PySem.SeqAt

section
variable {tp : TopP} {c : Cx} {m : Str → Option Value} {cv : Addr → Option Value} {lo : Lo} {W : Wd} {s : Shared} {n : Nat} {r : Ev} {F0 F1 : Led} {scope : Scope} {cl : List (Str × Addr)} {C : Addr}

theorem St.rebaseTo (S : St c lo W m cv s) {b : Heap} (hb : ∀ a o, b.get? a = some o → s.heap.get? a = some o) (hn : ∀ a ∈ muts c W.O, b.get? a = none) (hst : c.base.StaysIn b) : St (c.rebase b W.F) lo W m cv s := by
  have I := S.inv
  refine ⟨S.gens, S.os, ⟨hb, I.ns, I.cells, I.ext, I.fix, I.own, I.los, I.inj, I.nodup, I.off, hn, ?_, I.mods, fun p hp => .inl hp, I.pin⟩⟩
  cases e : c.base.get? sysModules with
  | none => exact absurd e I.sys
  | some o => rw [show (c.rebase b W.F).base.get? sysModules = some o from hst _ _ e]; exact fun e => nomatch e

theorem IterAt.keeps {items : List PV} {P : Nat → Value → Prop} {SI : Nat → Heap → Prop} {fp : List Addr} {I : Addr} (It : IterAt c lo W m cv items P SI fp I s) {h' : Heap} (hk : ∀ b o, s.heap.get? b = some o → h'.get? b = some o) (t : Nat) :
    IterAt c lo W m cv items P SI fp I { s with heap := h', toks := t } :=
  { It with st := ⟨It.st.gens, It.st.os, It.st.inv.keeps hk⟩, at0 := It.walks.frame _ _ _ It.at0 fun a _ o e => hk a o e }

/-- what stands behind a block of a list -/
noncomputable def ListDone (c : Cx) (lo : Lo) (W : Wd) (O : Led) (m : Str → Option Value) (cv : Addr → Option Value) (l : List PV) (D C : Addr) (s' : Shared) : Prop :=
  ∃ F' mC, Sub W.F F' ∧ St c lo ⟨F', O⟩ m cv s' ∧ Free c ⟨F', O⟩ C ∧ s'.heap.Ns C mC ∧ Filling c ⟨F', O⟩ D C l s'.heap
noncomputable def DictDone (c : Cx) (lo : Lo) (W : Wd) (O : Led) (m : Str → Option Value) (cv : Addr → Option Value) (mo : MO) (D C : Addr) (s' : Shared) : Prop :=
  ∃ F' mC, Sub W.F F' ∧ St c lo ⟨F', O⟩ m cv s' ∧ Free c ⟨F', O⟩ C ∧ s'.heap.Ns C mC ∧ FillingD c ⟨F', O⟩ D C mo s'.heap

/-- a raised thing behind a block -/
theorem comp_exc (Gd : Good tp c n) {F : Led} {O : Led} (f : Free c ⟨F, O⟩ C) {e : Value} {s' : Shared} (h : ArrH c e s') {mC : Str → Option Value} (hC : s'.heap.Ns C mC) {use : Option (Value → Sem Unit)} {Q : Value → Shared → Prop} {E : Value → Shared → Prop} (hE : ∀ e s', c.E e s' → E e s') {acc : Value} :
    compEnd c.M c.A E use Q acc (compEnvC scope cl C c.env) (.error e) s' := by
  have : ∃ m, s'.heap.Ns C m ∧ ∀ h', Heap.SameBut C s'.heap h' → wpAny c.M c.A (passOn "comprehension.variables-let-go" e (compEnvC scope cl C c.env) : Sem Value) (fun _ _ => False) E { s' with heap := h' } :=
    ⟨mC, hC, fun h' hs => wpAny_mono (ArrH.passOn Gd (env := compEnvC scope cl C c.env) Gd.same (ArrH.but Gd (W := ⟨F, O⟩) f h hC hs)) (fun _ _ q => q) fun e s' q => hE e s' (by rw [Gd.hE]; exact q)⟩
  cases use <;> exact this

theorem listComp_gen (H : SoundE tp n r) (Gd : Good tp c n) (S : St c lo W m cv s) (x : Str) (px : Pos) (elt it : Expr) (ifs : List Expr) (pos pos' : Pos) {use : Option (Value → Sem Unit)} {Q : Value → Shared → Prop} {E : Value → Shared → Prop}
    (hne : r.listCompE c.sc scope elt x it ifs lo = .fail → False) (hexc : r.listCompE c.sc scope elt x it ifs lo = .exc → ∀ e s', c.E e s' → E e s')
    (hok : ∀ l lo₁, r.listCompE c.sc scope elt x it ifs lo = .ok (.own (.lst l)) lo₁ → ∀ O D cl C s', ListDone c lo₁ W O m cv l D C s' → compEnd c.M c.A E use Q (.ref D) (compEnvC scope cl C c.env) (.ok .next) s') :
    wpAny c.M c.A (comprehension (.ListComp elt [⟨.Name x px, it, ifs, 0⟩] scope pos) scope c.env pos' (newList []) false (eval it c.env) use) Q E s := by
  unfold Ev.listCompE at hne hexc hok
  by_cases hco : Ev.compOk c.sc scope x it = true
  rotate_left
  · rw [if_neg hco] at hne; exact (hne rfl).elim
  rw [if_pos hco] at hne hexc hok
  obtain ⟨hit, cl, Cp⟩ := compOk_at Gd hco
  refine comp_run (g := ⟨.Name x px, it, ifs, 0⟩) (gs := []) rfl (folded_plain fun a b d => Cp.noset a b d it hit) Cp.clos Cp.cell Cp.kind (fun y hy e => Cp.loc y hy e) ?_
  have h0 := pvE_ok H Gd S it
  cases hp : r.pvE c.sc it lo with
  | fail => exact (hne (bind_fail hp)).elim
  | exc =>
    rw [hp] at h0
    exact wpAny_mono (h0 (fun e => by cases e)) (fun _ _ q => q.elim) fun e s' q => hexc (bind_exc hp) e s' q
  | ok p lo₁ =>
    rw [bind_ok hp] at hne hexc hok
    rw [hp] at h0
    refine wpAny_mono (h0 (fun e => by cases e)) (fun u s₁ q => ?_) fun _ _ q => q.elim
    obtain ⟨W₁, hs₁, S₁, r₁⟩ := q
    cases hi : (itemsOf p).bind small with
    | none => exact (hne (by rw [hi]; rfl)).elim
    | some items =>
      rw [hi] at hne hexc hok
      obtain ⟨l0, hl0, hsm⟩ := Option.bind_eq_some_iff.mp hi
      obtain ⟨rfl, hlen⟩ := small_some hsm
      refine wpAny_mono (iter_seq Gd S₁ r₁ hl0 hlen) (fun it' s₂ q => ?_) fun _ _ e => e.elim
      obtain ⟨I, fp, P, SI, rfl, It⟩ := q
      refine wpAny_newObj_type (fun h' hn hk => ?_)
      have hkD : ∀ b o, s₂.heap.get? b = some o → h'.get? b = some o := fun b o e => hk b o (Heap.get?_push_of_some _ e)
      have It' := It.keeps hkD (s₂.toks + 0)
      obtain ⟨oI, vsI, hoI, _⟩ := It.obj _ _ It.at0
      have hIlt := Heap.lt_size hoI
      dsimp only at hn hk ⊢
      rw [Heap.size_push] at hn ⊢
      have hD : h'.get? s₂.heap.objs.size = some { cls := .type "list", dict := none, data := .seq ([] : List Value).toArray } := hk _ _ (Heap.get?_push_size _ rfl)
      have fC : Free c W₁ (s₂.heap.objs.size + 1) := It.st.inv.free (Nat.le_succ _)
      have fD : Free c W₁ s₂.heap.objs.size := It.st.inv.free (Nat.le_refl _)
      have loop : codeAny c.M c.A (.compLoop (.ListComp elt [⟨.Name x px, it, ifs, 0⟩] scope pos) 0 (.ref I) (.ref s₂.heap.objs.size) (compEnvC scope cl (s₂.heap.objs.size + 1) c.env))
          (compEnd c.M c.A E use Q (.ref s₂.heap.objs.size) (compEnvC scope cl (s₂.heap.objs.size + 1) c.env)) { s₂ with heap := h', toks := s₂.toks + 0 } := by
        refine listLoop_ok H Gd It' Cp px fC hn ⟨fD, Nat.ne_of_lt (Nat.lt_succ_self _), [], 0, hD, .nil⟩ (Nat.ne_of_lt (Nat.lt_succ_of_lt hIlt)) (Nat.ne_of_lt hIlt) hlen (fun e => hne ((bind_ok (show R.lift (some items) lo₁ = .ok items lo₁ from rfl)).trans (bind_fail e))) (fun l e F' s' mC h1 h2 h3 h4 h5 => ?_) (fun e ex s' h1 h2 => ?_)
        · exact hok l lo₁ ((bind_ok (show R.lift (some items) lo₁ = .ok items lo₁ from rfl)).trans (bind_ok e)) _ _ _ _ _ ⟨F', mC, hs₁.trans h1, h2, h3, h4, h5⟩
        · obtain ⟨mC, h2⟩ := h2
          exact comp_exc Gd fC h1 h2 (hexc ((bind_ok (show R.lift (some items) lo₁ = .ok items lo₁ from rfl)).trans (bind_exc e)))
      exact codeAny_compStart_list loop (It'.walks.self 0 _ _ _ It'.at0 loop)

theorem dictComp_gen (H : SoundE tp n r) (Gd : Good tp c n) (S : St c lo W m cv s) (x : Str) (px : Pos) (kx vx it : Expr) (ifs : List Expr) (pos pos' : Pos) {use : Option (Value → Sem Unit)} {Q : Value → Shared → Prop} {E : Value → Shared → Prop}
    (hne : r.dictCompE c.sc scope kx vx x it ifs lo = .fail → False) (hexc : r.dictCompE c.sc scope kx vx x it ifs lo = .exc → ∀ e s', c.E e s' → E e s')
    (hok : ∀ l lo₁, r.dictCompE c.sc scope kx vx x it ifs lo = .ok (.own l) lo₁ → ∀ O D cl C s', DictDone c lo₁ W O m cv l D C s' → compEnd c.M c.A E use Q (.ref D) (compEnvC scope cl C c.env) (.ok .next) s') :
    wpAny c.M c.A (comprehension (.DictComp kx vx [⟨.Name x px, it, ifs, 0⟩] scope pos) scope c.env pos' newDict false (eval it c.env) use) Q E s := by
  unfold Ev.dictCompE at hne hexc hok
  by_cases hco : Ev.compOk c.sc scope x it = true
  rotate_left
  · rw [if_neg hco] at hne; exact (hne rfl).elim
  rw [if_pos hco] at hne hexc hok
  obtain ⟨hit, cl, Cp⟩ := compOk_at Gd hco
  refine comp_run (g := ⟨.Name x px, it, ifs, 0⟩) (gs := []) rfl (folded_plain fun a b d => Cp.noset a b d it hit) Cp.clos Cp.cell Cp.kind (fun y hy e => Cp.loc y hy e) ?_
  have h0 := pvE_ok H Gd S it
  cases hp : r.pvE c.sc it lo with
  | fail => exact (hne (bind_fail hp)).elim
  | exc =>
    rw [hp] at h0
    exact wpAny_mono (h0 (fun e => by cases e)) (fun _ _ q => q.elim) fun e s' q => hexc (bind_exc hp) e s' q
  | ok p lo₁ =>
    rw [bind_ok hp] at hne hexc hok
    rw [hp] at h0
    refine wpAny_mono (h0 (fun e => by cases e)) (fun u s₁ q => ?_) fun _ _ q => q.elim
    obtain ⟨W₁, hs₁, S₁, r₁⟩ := q
    cases hi : (keysOf p).bind small with
    | none => exact (hne (by rw [hi]; rfl)).elim
    | some items =>
      rw [hi] at hne hexc hok
      obtain ⟨l0, hl0, hsm⟩ := Option.bind_eq_some_iff.mp hi
      obtain ⟨rfl, hlen⟩ := small_some hsm
      refine wpAny_mono (iter_keys Gd S₁ r₁ hl0 hlen) (fun it' s₂ q => ?_) fun _ _ e => e.elim
      obtain ⟨I, fp, P, SI, rfl, It⟩ := q
      refine wpAny_newObj_type (fun h' hn hk => ?_)
      have hkD : ∀ b o, s₂.heap.get? b = some o → h'.get? b = some o := fun b o e => hk b o (Heap.get?_push_of_some _ e)
      have It' := It.keeps hkD (s₂.toks + 0)
      obtain ⟨oI, vsI, hoI, _⟩ := It.obj _ _ It.at0
      have hIlt := Heap.lt_size hoI
      dsimp only at hn hk ⊢
      rw [Heap.size_push] at hn ⊢
      have hD : ∃ o, h'.get? s₂.heap.objs.size = some o ∧ (FO.dcti []).is c.prog c.w o := by
        obtain ⟨o, h1, h2⟩ := FO.dcti_of (Heap.DictOf.new (knd := intKind c.prog c.w) s₂.heap)
        exact ⟨o, hk _ _ h1, h2⟩
      have fC : Free c W₁ (s₂.heap.objs.size + 1) := It.st.inv.free (Nat.le_succ _)
      have fD : Free c W₁ s₂.heap.objs.size := It.st.inv.free (Nat.le_refl _)
      have loop : codeAny c.M c.A (.compLoop (.DictComp kx vx [⟨.Name x px, it, ifs, 0⟩] scope pos) 0 (.ref I) (.ref s₂.heap.objs.size) (compEnvC scope cl (s₂.heap.objs.size + 1) c.env))
          (compEnd c.M c.A E use Q (.ref s₂.heap.objs.size) (compEnvC scope cl (s₂.heap.objs.size + 1) c.env)) { s₂ with heap := h', toks := s₂.toks + 0 } := by
        refine dictLoop_ok H Gd It' Cp px fC hn ⟨fD, Nat.ne_of_lt (Nat.lt_succ_self _), .dcti [], hD, .dcti (kvs := []) .nil⟩ (Nat.ne_of_lt (Nat.lt_succ_of_lt hIlt)) (Nat.ne_of_lt hIlt) (fun e => hne ((bind_ok (show R.lift (some items) lo₁ = .ok items lo₁ from rfl)).trans (bind_fail e))) (fun l e F' s' mC h1 h2 h3 h4 h5 => ?_) (fun e ex s' h1 h2 => ?_)
        · exact hok l lo₁ ((bind_ok (show R.lift (some items) lo₁ = .ok items lo₁ from rfl)).trans (bind_ok e)) _ _ _ _ _ ⟨F', mC, hs₁.trans h1, h2, h3, h4, h5⟩
        · obtain ⟨mC, h2⟩ := h2
          exact comp_exc Gd fC h1 h2 (hexc ((bind_ok (show R.lift (some items) lo₁ = .ok items lo₁ from rfl)).trans (bind_exc e)))
      exact codeAny_compStart_dict loop (It'.walks.self 0 _ _ _ It'.at0 loop)
end
end Mine
namespace Mine
open PySem PyProof.Rows PySem.W PySem.SeqAt

section
variable {tp : TopP} {c : Cx} {m : Str → Option Value} {cv : Addr → Option Value} {lo : Lo} {W : Wd} {s : Shared} {n : Nat} {r : Ev} {F0 F1 : Led} {scope : Scope} {cl : List (Str × Addr)} {C : Addr}

/-- what a block made, as a thing of one's own -/
inductive Made (c : Cx) (lo : Lo) (W : Wd) (m : Str → Option Value) (cv : Addr → Option Value) (mo : MO) (D C : Addr) (s' : Shared) : Prop
  | mk {F' O : Led} {mC : Str → Option Value} {fo : FO} : Sub W.F F' → St c lo ⟨F', O⟩ m cv s' → Free c ⟨F', O⟩ C → s'.heap.Ns C mC → Free c ⟨F', O⟩ D → D ≠ C → (∃ o, s'.heap.get? D = some o ∧ fo.is c.prog c.w o) → FORep F' fo mo → Made c lo W m cv mo D C s'
theorem ListDone.made {O : Led} {l : List PV} {D : Addr} {s' : Shared} (h : ListDone c lo W O m cv l D C s') : Made c lo W m cv (.lst l) D C s' := by
  obtain ⟨F', mC, h1, h2, h3, h4, h5⟩ := h
  obtain ⟨vs, k, h6, h7⟩ := h5.obj
  exact .mk (fo := .lst vs) h1 h2 h3 h4 h5.free h5.ne ⟨_, h6, k, rfl⟩ (.lst h7)
theorem DictDone.made {O : Led} {mo : MO} {D : Addr} {s' : Shared} (h : DictDone c lo W O m cv mo D C s') : Made c lo W m cv mo D C s' := by
  obtain ⟨F', mC, h1, h2, h3, h4, h5⟩ := h
  obtain ⟨fo, h6, h7⟩ := h5.obj
  exact .mk h1 h2 h3 h4 h5.free h5.ne h6 h7

/-- a block's value -/
theorem Made.value {lo₁ : Lo} {mo : MO} {D : Addr} {s' : Shared} {E : Value → Shared → Prop} {cl : List (Str × Addr)} {scope : Scope} (h : Made c lo₁ W m cv mo D C s') :
    compEnd c.M c.A E none (Post c lo₁ m cv W.F (RelL c (.own mo))) (.ref D) (compEnvC scope cl C c.env) (.ok .next) s' := by
  obtain ⟨h1, h2, h3, h4, h5, h6, h7, h8⟩ := h
  refine ⟨_, h4, fun h'' hs => ?_⟩
  have hk : ∀ b o, b ≠ C → s'.heap.get? b = some o → h''.get? b = some o := fun b o hb e => hs.extBut b o hb e
  obtain ⟨o, h7, h9⟩ := h7
  exact ⟨_, h1, ⟨h2.gens, h2.os, h2.inv.but h3 hk⟩, .own h8 h5 ⟨o, hk _ _ h6 h7, h9⟩⟩

/-- a block's value, stored -/
theorem Made.stored (Gd : Good tp c n) {lo₁ lo₂ : Lo} {mo : MO} {D : Addr} {s' : Shared} {E : Value → Shared → Prop} {cl : List (Str × Addr)} {scope : Scope} {y : Str} {py : Pos} (h : Made c lo₁ W m cv mo D C s') (hset : Ev.setVar c.sc y (.own mo) lo₁ = .ok () lo₂)
    {Q : Value → Shared → Prop} (hQ : ∀ W' m' cv' s'', Sub W.F W'.F → St c lo₂ W' m' cv' s'' → Q .none s'') :
    compEnd c.M c.A E (some (assign (.Name y py) c.env)) Q (.ref D) (compEnvC scope cl C c.env) (.ok .next) s' := by
  obtain ⟨h1, h2, h3, h4, h5, h6, h7, h8⟩ := h
  rename_i F' O mC fo
  obtain ⟨oC, es, ep, hoC, hC'⟩ := h4
  generalize hb : hideAll s'.heap (D :: muts c O) = b
  have hb1 : ∀ a o, b.get? a = some o → s'.heap.get? a = some o := fun a o e => of_hideAll (D :: muts c O) (by rw [hb]; exact e)
  have hb2 : ∀ a ∈ D :: muts c O, b.get? a = none := fun a ha => by rw [← hb]; exact hideAll_none _ ha
  have hbC : b.get? C = some oC := by
    rw [← hb]
    refine hideAll_get _ hoC fun hm => ?_
    rcases List.mem_cons.mp hm with e | e
    · exact h6 e.symm
    · exact h3.away e
  have hst : c.base.StaysIn b := fun a o e => by
    rw [← hb]
    refine hideAll_get _ (h2.inv.keep a o e) fun hm => ?_
    rcases List.mem_cons.mp hm with q | q
    · rw [q, h5.based] at e; cases e
    · rw [h2.inv.new a q] at e; cases e
  have S' := h2.rebaseTo hb1 (fun a ha => hb2 a (List.mem_cons_of_mem _ ha)) hst
  have Gd' : Good tp (c.rebase b F') n := Gd.rebase hst
  show wpAny c.M c.A (assign (.Name y py) c.env (.ref D)) (fun _ s'' => ∃ m, s''.heap.Ns C m ∧ ∀ h', Heap.SameBut C s''.heap h' → Q .none { s'' with heap := h' }) E s'
  refine wpAny_assign_Name (wpAny_mono (setVar_ok (c := c.rebase b F') (W := ⟨F', O⟩) (v := .own mo) Gd' S' (.own h8 ⟨h5.away, h5.fixd, hb2 D List.mem_cons_self⟩ h7) hset) (fun _ s'' q => ?_) fun _ _ e => e)
  obtain ⟨W', m', cv', q1, q2⟩ := q
  obtain ⟨q3, q4⟩ := q2.unbase hst h2.inv.sys h2.inv.fresh
  refine ⟨mC, ⟨oC, es, ep, q4 _ _ hbC, hC'⟩, fun h'' hs => ?_⟩
  have fC1 : C ∉ muts c W'.O := fun hm => by
    have h9 : b.get? C = none := q2.inv.new C hm
    rw [hbC] at h9; cases h9
  have fC2 : ∀ p ∈ W'.F, p.1 ≠ C := fun p hp e => by
    rcases q2.inv.fresh p hp with h | h
    · exact h3.fixd p h e
    · have h9 : b.get? p.1 = none := h
      rw [e, hbC] at h9; cases h9
  have fC : Free c W' C := ⟨fC1, fC2, h3.based⟩
  exact hQ W' m' cv' _ (h1.trans q1) ⟨q3.gens, q3.os, q3.inv.but fC fun b o hb e => hs.extBut b o hb e⟩

theorem exE_c {α : Type} {x : Res α} (h : x = .exc) : exE c x = c.E := by rw [h]; rfl

theorem ListComp_ok (H : SoundE tp n r) (Gd : Good tp c n) (S : St c lo W m cv s) (elt : Expr) (x : Str) (px : Pos) (it : Expr) (ifs : List Expr) (scope : Scope) (pos : Pos) :
    At c m cv W.F (r.listCompE c.sc scope elt x it ifs lo) (Go c (eval (.ListComp elt [⟨.Name x px, it, ifs, 0⟩] scope pos) c.env)) s (RelL c) := by
  intro hne
  show wpAny _ _ (eval _ _) _ _ _
  rw [eval_ListComp]
  refine listComp_gen (use := none) H Gd S x px elt it ifs pos _ hne (fun e ex s' h => by rw [exE_c e]; exact h) fun l lo₁ e O D cl C s' h => ?_
  rw [e]
  exact h.made.value
theorem DictComp_ok (H : SoundE tp n r) (Gd : Good tp c n) (S : St c lo W m cv s) (kx vx : Expr) (x : Str) (px : Pos) (it : Expr) (ifs : List Expr) (scope : Scope) (pos : Pos) :
    At c m cv W.F (r.dictCompE c.sc scope kx vx x it ifs lo) (Go c (eval (.DictComp kx vx [⟨.Name x px, it, ifs, 0⟩] scope pos) c.env)) s (RelL c) := by
  intro hne
  show wpAny _ _ (eval _ _) _ _ _
  rw [arm_eval_DictComp]
  refine dictComp_gen (use := none) H Gd S x px kx vx it ifs pos _ hne (fun e ex s' h => by rw [exE_c e]; exact h) fun l lo₁ e O D cl C s' h => ?_
  rw [e]
  exact h.made.value

theorem bind_ne {α β : Type} {x : R α} {f : α → R β} (h : x.bind f lo = .fail → False) : x lo = .fail → False := fun e => h (bind_fail e)

theorem ListCompUse_ok (H : SoundE tp n r) (Gd : Good tp c n) (S : St c lo W m cv s) (elt : Expr) (x : Str) (px : Pos) (it : Expr) (ifs : List Expr) (scope : Scope) (pos : Pos) (y : Str) (py : Pos) :
    AtS c W.F (((r.listCompE c.sc scope elt x it ifs).bind fun v => (Ev.setVar c.sc y v).bind fun _ => R.ret Fl.next) lo)
      (fun Q E s => wpAny c.M c.A (evalThenUse (.ListComp elt [⟨.Name x px, it, ifs, 0⟩] scope pos) c.env (assign (.Name y py) c.env)) (fun _ s' => Q .next s') E s) s := by
  intro hne
  show wpAny _ _ (evalThenUse _ _ _) _ _ _
  rw [arm_evalThenUse_ListComp]
  refine wpAny_bind (wpAny_mono (listComp_gen (use := some (assign (.Name y py) c.env)) (Q := fun _ s' => okS c W.F (((r.listCompE c.sc scope elt x it ifs).bind fun v => (Ev.setVar c.sc y v).bind fun _ => R.ret Fl.next) lo) .next s') H Gd S x px elt it ifs pos _ (bind_ne hne)
    (fun e ex s' h => by rw [exE_c (bind_exc e)]; exact h) fun l lo₁ e O D cl C s' h => ?_) (fun _ s' q => wpAny_pure q) fun _ _ e => e)
  rw [bind_ok e] at hne ⊢
  obtain ⟨lo₂, hset⟩ := setVar_no (lift_ok hne)
  rw [bind_ok hset]
  exact h.made.stored Gd hset fun W' m' cv' s'' h1 h2 => ⟨W', m', cv', h1, h2, .next⟩
theorem DictCompUse_ok (H : SoundE tp n r) (Gd : Good tp c n) (S : St c lo W m cv s) (kx vx : Expr) (x : Str) (px : Pos) (it : Expr) (ifs : List Expr) (scope : Scope) (pos : Pos) (y : Str) (py : Pos) :
    AtS c W.F (((r.dictCompE c.sc scope kx vx x it ifs).bind fun v => (Ev.setVar c.sc y v).bind fun _ => R.ret Fl.next) lo)
      (fun Q E s => wpAny c.M c.A (evalThenUse (.DictComp kx vx [⟨.Name x px, it, ifs, 0⟩] scope pos) c.env (assign (.Name y py) c.env)) (fun _ s' => Q .next s') E s) s := by
  intro hne
  show wpAny _ _ (evalThenUse _ _ _) _ _ _
  rw [arm_evalThenUse_DictComp]
  refine wpAny_bind (wpAny_mono (dictComp_gen (use := some (assign (.Name y py) c.env)) (Q := fun _ s' => okS c W.F (((r.dictCompE c.sc scope kx vx x it ifs).bind fun v => (Ev.setVar c.sc y v).bind fun _ => R.ret Fl.next) lo) .next s') H Gd S x px kx vx it ifs pos _ (bind_ne hne)
    (fun e ex s' h => by rw [exE_c (bind_exc e)]; exact h) fun l lo₁ e O D cl C s' h => ?_) (fun _ s' q => wpAny_pure q) fun _ _ e => e)
  rw [bind_ok e] at hne ⊢
  obtain ⟨lo₂, hset⟩ := setVar_no (lift_ok hne)
  rw [bind_ok hset]
  exact h.made.stored Gd hset fun W' m' cv' s'' h1 h2 => ⟨W', m', cv', h1, h2, .next⟩
end
end Mine
namespace Mine
open PySem PyProof.Rows PySem.W PySem.SeqAt

/-! ### a display of constant texts -/
/-- a tree that gives a text -/
noncomputable def StrTree (M : Model) (A : Around) (t : Sem Value) (x : Str) : Prop := ∀ (s : Shared) (Q : Value → Shared → Prop) (E : Value → Shared → Prop), (∀ tok t', Q (.str x tok) { s with toks := t' }) → wpAny M A t Q E s
inductive PairTrees (M : Model) (A : Around) : List (Sem Value × Sem Value) → List (Str × Str) → Prop
  | nil : PairTrees M A [] []
  | cons {k v x y r l} : StrTree M A k x → StrTree M A v y → PairTrees M A r l → PairTrees M A ((k, v) :: r) ((x, y) :: l)
inductive PairsOf : List (Str × Str) → List (Str × Value) → Prop
  | nil : PairsOf [] []
  | cons {k x t l r} : PairsOf l r → PairsOf ((k, x) :: l) ((k, .str x t) :: r)
theorem PairsOf.keys {l : List (Str × Str)} {r : List (Str × Value)} (h : PairsOf l r) : r.map (·.1) = l.map (·.1) := by
  induction h with
  | nil => rfl
  | cons _ ih => rw [List.map_cons, List.map_cons, ih]
theorem PairsOf.append {l l' : List (Str × Str)} {r r' : List (Str × Value)} (h : PairsOf l r) (k : PairsOf l' r') : PairsOf (l ++ l') (r ++ r') := by
  induction h with
  | nil => exact k
  | cons _ ih => exact .cons ih
theorem PairsOf.length {l : List (Str × Str)} {r : List (Str × Value)} (h : PairsOf l r) : r.length = l.length := by
  induction h with
  | nil => rfl
  | cons _ ih => rw [List.length_cons, List.length_cons, ih]
theorem PairsOf.reps {F : Led} {l : List (Str × Str)} {r : List (Str × Value)} (h : PairsOf l r) : VReps F (r.map (·.2)) (l.map fun p => .str p.2) := by
  induction h with
  | nil => exact .nil
  | cons _ ih => exact .cons (.str _ _) ih
theorem PairTrees.append {M : Model} {A : Around} {r r' : List (Sem Value × Sem Value)} {l l' : List (Str × Str)} (h : PairTrees M A r l) (k : PairTrees M A r' l') : PairTrees M A (r ++ r') (l ++ l') := by
  induction h with
  | nil => exact k
  | cons a b _ ih => exact .cons a b ih

theorem stored_new {K : Type} [DecidableEq K] {kvs : List (K × Value)} {k : K} {v : Value} (h : k ∉ kvs.map (·.1)) : stored kvs k v = kvs ++ [(k, v)] := by
  unfold stored
  rw [if_neg]
  rw [List.any_eq_true]
  rintro ⟨kv, hkv, e⟩
  exact h (List.mem_map.mpr ⟨kv, hkv, of_decide_eq_true e⟩)
theorem merged_new {K : Type} [DecidableEq K] {more : List (K × Value)} : ∀ {acc : List (K × Value)}, ((acc ++ more).map (·.1)).Nodup → merged acc more = acc ++ more := by
  induction more with
  | nil => intro acc _; simp [merged]
  | cons p r ih =>
    intro acc h
    have hp : p.1 ∉ acc.map (·.1) := fun hm => by
      rw [List.map_append, List.nodup_append] at h
      exact h.2.2 _ hm _ (by simp) rfl
    show merged (stored acc p.1 p.2) r = _
    rw [stored_new hp, ih (by simpa using h), List.append_assoc]; rfl

section
variable {prog : Program} {w : World} {A : Around} {s : Shared}

theorem evalPairs_str {run : List (Sem Value × Sem Value)} {l : List (Str × Str)} (hr : PairTrees (model prog w) A run l) {E : Value → Shared → Prop} : ∀ (s : Shared),
    wpAny (model prog w) A (evalPairs run) (fun vs s' => (∃ t, s' = { s with toks := t }) ∧ ∃ kvs, Carries (strKind prog w) vs kvs ∧ PairsOf l kvs) E s := by
  induction hr with
  | nil => exact fun s => evalPairs_nil ⟨⟨s.toks, rfl⟩, [], trivial, .nil⟩
  | @cons k v x y r l hk hv h ih =>
    intro s
    refine evalPairs_cons (hk s _ _ fun tok t' => hv _ _ _ fun tok' t'' => ?_)
    refine wpAny_mono (ih _) (fun vs s' q => ?_) fun _ _ e => e
    obtain ⟨⟨t, rfl⟩, kvs, h1, h2⟩ := q
    exact ⟨⟨t, rfl⟩, (x, .str y tok') :: kvs, ⟨strKind_is _ _ _ _, rfl, h1⟩, .cons h2⟩

/-- a chunk of a display -/
noncomputable def Chunk (prog : Program) (w : World) (s : Shared) (l : List (Str × Str)) (d : Addr) (s' : Shared) : Prop :=
  ∃ h' t kvs, s' = { s with heap := h', toks := t } ∧ d = s.heap.objs.size ∧ (∀ b o, s.heap.get? b = some o → h'.get? b = some o) ∧ h'.DictOf (strKind prog w) d kvs ∧ PairsOf l kvs

noncomputable def SubI (prog : Program) (w : World) (A : Around) (s : Shared) (l : List (Str × Str)) (rest : List (Sem Value × Sem Value)) (_ : PUnit) (s' : Shared) : Prop :=
  ∃ h' t done more kvs, l = done ++ more ∧ PairTrees (model prog w) A rest more ∧ PairsOf done kvs ∧ s' = { s with heap := h', toks := t } ∧ h'.DictOf (strKind prog w) s.heap.objs.size kvs ∧
      Heap.SameBut s.heap.objs.size (s.heap.push { cls := .type "dict", data := .dict #[] }) h'
theorem subDict_str {run : List (Sem Value × Sem Value)} {l : List (Str × Str)} (hr : PairTrees (model prog w) A run l) (hn : (l.map (·.1)).Nodup) (hl : l.length < 2 ^ 10) {E : Value → Shared → Prop} :
    wpAny (model prog w) A (subDict run) (Chunk prog w s l) E s := by
  have hD := Heap.DictOf.new (knd := strKind prog w) s.heap
  have hpk : ∀ b o, s.heap.get? b = some o → (s.heap.push { cls := .type "dict", data := .dict #[] }).get? b = some o := fun b o e => Heap.get?_push_of_some _ e
  have fin : ∀ {h' : Heap} {t : Nat} {kvs : List (Str × Value)}, h'.DictOf (strKind prog w) s.heap.objs.size kvs → PairsOf l kvs → Heap.SameBut s.heap.objs.size (s.heap.push { cls := .type "dict", data := .dict #[] }) h' →
      Chunk prog w s l s.heap.objs.size { s with heap := h', toks := t } := fun h1 h2 h3 => ⟨_, _, _, rfl, rfl, fun b o e => h3.extBut b o (Nat.ne_of_lt (Heap.lt_size e)) (hpk b o e), h1, h2⟩
  by_cases hlen : run.length ≤ 15
  · refine wpAny_subDict (knd := strKind prog w) hlen (wpAny_mono (evalPairs_str hr _) (fun vs s₁ q => ?_) fun _ _ e => e)
    obtain ⟨⟨t, rfl⟩, kvs, h1, h2⟩ := q
    have hm : merged [] kvs = kvs := by
      rw [merged_new (by simpa [h2.keys] using hn), List.nil_append]
    exact ⟨kvs, h1, hD, fun h' h3 h4 => fin (hm ▸ h3) h2 h4⟩
  · unfold subDict
    refine wpAny_bind (wpAny_alloc ?_)
    refine wpAny_bind (wpAny_holding ?_)
    rw [if_neg hlen]
    refine wpAny_bind (wpAny_rule ?_)
    refine wpAny_bind (Q := fun (_ : PUnit) s' => wpAny (model prog w) A (pure s.heap.objs.size : Sem Addr) (Chunk prog w s l) E s') ?_
    refine wpAny_forIn_list _ (SubI prog w A s l) _ ?_ ?_ _ _ ⟨_, s.toks, [], l, [], rfl, hr, .nil, rfl, hD, Heap.SameBut.refl _ _⟩
    · rintro ⟨k, v⟩ rest b s' ⟨h', t, done, more, kvs, hl', hm, hk, rfl, hd, hs⟩
      cases hm with
      | @cons _ _ x y _ more hx hy hm =>
      refine wpAny_bind (hx _ _ _ fun tok t' => wpAny_bind (wpAny_holding (hy _ _ _ fun tok' t'' => wpAny_bind (wpAny_holding ?_))))
      have hfresh : x ∉ kvs.map (·.1) := by
        rw [hk.keys]
        intro hm'
        rw [hl', List.map_append, List.nodup_append] at hn
        exact hn.2.2 _ hm' _ (by simp) rfl
      refine wpAny_dictSet_pairs (knd := strKind prog w) (strKind_is _ _ _ _) hd (fun h'' h1 h2 => wpAny_pure ?_) (by
        have := hk.length
        have h3 := congrArg List.length hl'
        rw [List.length_append] at h3
        rw [sizeLine_eq]; omega)
      rw [stored_new hfresh] at h1
      exact ⟨h'', _, done ++ [(x, y)], more, _, by rw [hl', List.append_assoc]; rfl, hm, hk.append (.cons .nil), rfl, h1, hs.trans h2⟩
    · rintro b s' ⟨h', t, done, more, kvs, hl', hm, hk, rfl, hd, hs⟩
      cases hm
      rw [List.append_nil] at hl'
      subst hl'
      exact wpAny_pure (wpAny_pure (fin hd hk hs))

/-- a pair is laid into a table that lacks its key -/
theorem dictPut_new {K : Type} [DecidableEq K] {knd : KeyKind prog w K} {d : Addr} {kvs : List (K × Value)} {k : K} {key v : Value} {Q : Unit → Shared → Prop} {E : Value → Shared → Prop} (hkey : knd.is k key = true) (hm : s.heap.DictOf knd d kvs) (hn' : k ∉ kvs.map (·.1))
    (hQ : ∀ h', h'.DictOf knd d (kvs ++ [(k, v)]) → Heap.SameBut d s.heap h' → Q () { s with heap := h' }) (hsz : kvs.length ≤ sizeLine) : wpAny (model prog w) A (dictPut d (knd.hash k) key v) Q E s := by
  obtain ⟨o, es, ep, ho, hc, hd, hk, hp, hn⟩ := hm
  have hes : es.size ≤ sizeLine := by
    have e1 := hp.length
    have e2 : es.toList.length = es.size := by simp
    omega
  unfold dictPut
  refine wpAny_bind (wpAny_dictFind_of hkey ho hd hk ?_)
  have hidx : (es.findIdx? fun e => knd.is k e.key) = kvs.findIdx? fun kv => decide (kv.1 = k) := by
    rw [← hp.findIdx k]; obtain ⟨l⟩ := es; simp
  have hnone : (es.findIdx? fun e => knd.is k e.key) = none := by
    rw [hidx, List.findIdx?_eq_none_iff]
    intro kv hkv
    exact decide_eq_false fun e => hn' (List.mem_map.mpr ⟨kv, hkv, e⟩)
  rw [hnone]
  refine wpAny_updateDictKeys (hz := hes) ho hd (hQ _ ⟨_, _, ep + 1, Heap.get?_update_self _ ho (Obj.isFreed_of_dict (Obj.data_mapDictKeys hd _)), hc.mapDictKeys _, Obj.data_mapDictKeys hd _, hk.push hkey _, ?_, ?_⟩ (Heap.SameBut.update ..))
  · have := hp.append hkey (knd.hash k) v
    obtain ⟨l⟩ := es
    simpa using this
  · rw [List.map_append, List.nodup_append]
    refine ⟨hn, by simp, ?_⟩
    intro a ha b hb
    simp only [List.map_cons, List.map_nil, List.mem_singleton] at hb
    subst hb
    exact fun e => hn' (e ▸ ha)

theorem ifp {M : Model} {A : Around} {α : Type} {c : Prop} [Decidable c] {a b : Sem α} {Q : α → Shared → Prop} {E : Value → Shared → Prop} {s : Shared} (h : c) (k : wpAny M A a Q E s) : wpAny M A (if c then a else b) Q E s := by rw [if_pos h]; exact k
theorem ifn {M : Model} {A : Around} {α : Type} {c : Prop} [Decidable c] {a b : Sem α} {Q : α → Shared → Prop} {E : Value → Shared → Prop} {s : Shared} (h : ¬ c) (k : wpAny M A b Q E s) : wpAny M A (if c then a else b) Q E s := by rw [if_neg h]; exact k
theorem range_step {i n : Nat} {x : Nat} {rest : List Nat} (hr : x :: rest = List.range' i (n - i)) : i < n ∧ x = i ∧ rest = List.range' (i + 1) (n - (i + 1)) := by
  rcases Nat.lt_or_ge i n with h | h
  · rw [show n - i = (n - (i + 1)) + 1 by omega, List.range'_succ] at hr
    injection hr with h1 h2
    exact ⟨h, h1, h2⟩
  · rw [Nat.sub_eq_zero_of_le h] at hr; cases hr
theorem range_done {i n : Nat} (hr : [] = List.range' i (n - i)) (hi : i ≤ n) : i = n := by
  rcases Nat.lt_or_ge i n with h | h
  · rw [show n - i = (n - (i + 1)) + 1 by omega, List.range'_succ] at hr; cases hr
  · exact Nat.le_antisymm hi h
/-- a merge, i pairs on -/
noncomputable def MergeI {K : Type} [DecidableEq K] (knd : KeyKind prog w K) (d o : Addr) (oo : Obj) (kvs more : List (K × Value)) (n : Nat) (s : Shared) (rest : List Nat) (_ : PUnit) (s' : Shared) : Prop :=
  ∃ h' i, s' = { s with heap := h' } ∧ rest = List.range' i (n - i) ∧ i ≤ n ∧ h'.DictOf knd d (kvs ++ more.take i) ∧ h'.get? o = some oo ∧ Heap.SameBut d s.heap h'
theorem merge_step {K : Type} [DecidableEq K] {knd : KeyKind prog w K} {d : Addr} {kvs more : List (K × Value)} {x : Nat} {k : K} {key v : Value} {h' : Heap} {Q : Unit → Shared → Prop} {E : Value → Shared → Prop} (hkv : more[x]? = some (k, v)) (hkey : knd.is k key = true) (hd' : h'.DictOf knd d (kvs ++ more.take x))
    (hnd : ((kvs ++ more).map (·.1)).Nodup) (hsz : kvs.length + more.length ≤ sizeLine) (hQ : ∀ h'', h''.DictOf knd d (kvs ++ more.take (x + 1)) → Heap.SameBut d h' h'' → Q () { s with heap := h'' }) : wpAny (model prog w) A (dictPut d (knd.hash k) key v) Q E { s with heap := h' } := by
  have htake : more.take (x + 1) = more.take x ++ [(k, v)] := by rw [List.take_add_one, hkv]; rfl
  have hfresh : k ∉ (kvs ++ more.take x).map (·.1) := fun hm => by
    have h1 : ((kvs ++ more.take x) ++ (k, v) :: more.drop (x + 1)) = kvs ++ more := by
      have h2 := List.take_append_drop (x + 1) more
      rw [htake] at h2
      rw [List.append_assoc, ← List.singleton_append, ← List.append_assoc (more.take x), h2]
    rw [← h1, List.map_append, List.nodup_append] at hnd
    exact hnd.2.2 _ hm _ (by simp) rfl
  refine dictPut_new hkey hd' hfresh (fun h'' hd'' hs'' => hQ h'' ?_ hs'') (by rw [List.length_append, List.length_take]; omega)
  rw [htake, ← List.append_assoc]; exact hd''
/-- a table takes another's pairs -/
theorem merge_new {K : Type} [DecidableEq K] {knd : KeyKind prog w K} {d o : Addr} {kvs more : List (K × Value)} {Q : Unit → Shared → Prop} {E : Value → Shared → Prop} (hdo : d ≠ o) (hoS : (o == sysModules) = false)
    (hd : s.heap.DictOf knd d kvs) (ho : s.heap.DictOf knd o more) (h0 : kvs ≠ []) (hnd : ((kvs ++ more).map (·.1)).Nodup) (hsz : kvs.length + more.length ≤ sizeLine)
    (hQ : ∀ h', h'.DictOf knd d (kvs ++ more) → Heap.SameBut d s.heap h' → Q () { s with heap := h' }) : wpAny (model prog w) A (mergeMapping d (.ref o) false) Q E s := by
  obtain ⟨od, esd, epd, hod, _, hdd, _, hpd, _⟩ := id hd
  obtain ⟨oo, eso, epo, hoo, _, hdo', hko, hpo, _⟩ := id ho
  have hlen : more.length = eso.size := by rw [← hpo.length]; simp
  unfold mergeMapping
  refine wpAny_bind (wpAny_isInstance ho.typeIs isSubtype_dict_dict (ifp rfl ?_))
  refine wpAny_bind (wpAny_specialOf ho.typeIs F.slot_dict_iter.lookup (wpAny_bind (wpAny_pure ?_)))
  refine ifn (by rw [hoS]; exact Bool.false_ne_true) ?_
  refine wpAny_bind (wpAny_dictEntries hod hdd ?_)
  have hne : esd.isEmpty = false := by
    cases e : esd.isEmpty with
    | false => rfl
    | true =>
      have h1 : esd = #[] := Array.isEmpty_iff.mp e
      have := hpd.length; rw [h1] at this
      exact absurd (List.length_eq_zero_iff.mp (by simpa using this.symm)) h0
  refine ifn (by rw [hne]; exact Bool.false_ne_true) ?_
  refine wpAny_bind (wpAny_dictEntries hoo hdo' (wpAny_bind (wpAny_dictEpoch hoo hdo' (wpAny_bind ?_))))
  refine wpAny_forIn_list _ (MergeI knd d o oo kvs more eso.size s) _ ?_ ?_ _ _ ⟨s.heap, 0, rfl, by simp [List.range_eq_range'], Nat.zero_le _, by simpa using hd, hoo, Heap.SameBut.refl _ _⟩
  · intro x rest b s' hI
    obtain ⟨h', i, es, hr, hi, hd', hoo', hs'⟩ := hI
    obtain ⟨hlt, hx, hrest⟩ := range_step hr
    rw [es, hx]
    refine wpAny_bind (wpAny_dictEntries hoo' hdo' ?_)
    rw [Array.getElem?_eq_getElem hlt]
    obtain ⟨⟨k, v⟩, hkv⟩ : ∃ kv, more[i]? = some kv := ⟨more[i]'(by rw [hlen]; exact hlt), List.getElem?_eq_getElem _⟩
    obtain ⟨hkey, hval⟩ := hpo.get? (e := eso[i]) (by simp [hlt]) hkv
    obtain ⟨k', hkey', hhash⟩ := hko eso[i] (Array.getElem_mem hlt)
    show wpAny _ _ (holding [eso[i].key, eso[i].val] (dictPut d eso[i].hash eso[i].key eso[i].val) >>= _) _ _ _
    rw [hhash, hval, knd.inj _ _ _ hkey' hkey]
    refine wpAny_bind (wpAny_holding (merge_step hkv hkey hd' hnd hsz fun h'' hd'' hs'' => ?_))
    have hoo'' : h''.get? o = some oo := (hs''.2 o (Ne.symm hdo)).trans hoo'
    refine wpAny_bind (wpAny_dictEpoch hoo'' hdo' ?_)
    rw [if_neg (by simp)]
    exact wpAny_pure ⟨h'', i + 1, rfl, hrest, hlt, hd'', hoo'', hs'.trans hs''⟩
  · intro b s' hI
    obtain ⟨h', i, es, hr, hi, hd', hoo', hs'⟩ := hI
    rw [es]
    refine wpAny_pure (hQ h' ?_ hs')
    rw [range_done hr hi, ← hlen, List.take_length] at hd'; exact hd'
end
end Mine
namespace Mine
open PySem PyProof.Rows PySem.W PySem.SeqAt

/-- a chunk goes to the display's table -/
noncomputable def flushD (run : List (Sem Value × Sem Value)) (main : Option Addr) : Sem (Option Addr) := do
  if run.isEmpty then return main
  match main with
  | none => return some (← subDict run)
  | some d =>
    let sub ← holding [.ref d] (subDict run)
    (holding [.ref d, .ref sub] (mergeMapping d (.ref sub) false)).onRaise fun x => do let _ ← holding [.ref d, x] (runValue (.builtin "proto.let_go" {}))
    return some d

section
variable {prog : Program} {w : World} {A : Around}

/-- the display so far -/
noncomputable def DState (prog : Program) (w : World) (s₀ : Shared) (done : List (Str × Str)) (main : Option Addr) (s' : Shared) : Prop :=
  (∃ h' t, s' = { s₀ with heap := h', toks := t } ∧ ∀ b o, s₀.heap.get? b = some o → h'.get? b = some o) ∧
    match main with
    | none => done = []
    | some d => done ≠ [] ∧ s₀.heap.get? d = none ∧ ∃ kvs, s'.heap.DictOf (strKind prog w) d kvs ∧ PairsOf done kvs

theorem flush_str {s₀ s' : Shared} {run : List (Sem Value × Sem Value)} {done lr : List (Str × Str)} {main : Option Addr} (hsys : s₀.heap.get? sysModules ≠ none) (D : DState prog w s₀ done main s') (hr : PairTrees (model prog w) A run lr)
    (hn : ((done ++ lr).map (·.1)).Nodup) (hl : (done ++ lr).length < 2 ^ 10) {E : Value → Shared → Prop} : wpAny (model prog w) A (flushD run main) (fun m' s'' => DState prog w s₀ (done ++ lr) m' s'') E s' := by
  have hn2 : (lr.map (·.1)).Nodup := by rw [List.map_append, List.nodup_append] at hn; exact hn.2.1
  have hl2 : lr.length < 2 ^ 10 := by rw [List.length_append] at hl; omega
  unfold flushD
  cases hr with
  | nil =>
    rw [if_pos (by rfl), List.append_nil]
    exact wpAny_pure D
  | @cons k v x y r lr hk hv hr =>
    have hr' : PairTrees (model prog w) A ((k, v) :: r) ((x, y) :: lr) := .cons hk hv hr
    rw [if_neg (by simp)]
    obtain ⟨⟨h', t, rfl, hkeep⟩, hm⟩ := D
    cases main with
    | none =>
      obtain rfl : done = [] := hm
      refine wpAny_bind (wpAny_mono (subDict_str hr' hn2 hl2) (fun d s'' q => wpAny_pure ?_) fun _ _ e => e)
      obtain ⟨h'', t', kvs, rfl, rfl, q1, q2, q3⟩ := q
      have hsz : s₀.heap.get? h'.objs.size = none := by
        cases e : s₀.heap.get? h'.objs.size with
        | none => rfl
        | some o => exact absurd (Heap.lt_size (hkeep _ _ e)) (Nat.lt_irrefl _)
      exact ⟨⟨h'', t', rfl, fun b o e => q1 b o (hkeep b o e)⟩, by simp, hsz, kvs, q2, q3⟩
    | some d =>
      obtain ⟨hne, hsz, kvs, hd, hp⟩ := hm
      refine wpAny_bind (wpAny_holding (wpAny_mono (subDict_str hr' hn2 hl2) (fun sub s'' q => ?_) fun _ _ e => e))
      obtain ⟨h'', t', more, rfl, rfl, q1, q2, q3⟩ := q
      obtain ⟨od, _, _, hod, _⟩ := id hd
      have hdlt : d < h'.objs.size := Heap.lt_size hod
      have hsub : (h'.objs.size == sysModules) = false := by
        refine beq_false_of_ne fun e => ?_
        cases e0 : s₀.heap.get? sysModules with
        | none => exact hsys e0
        | some o => exact absurd (Heap.lt_size (hkeep _ _ e0)) (by rw [← e]; exact Nat.lt_irrefl _)
      have hd' : h''.DictOf (strKind prog w) d kvs := by
        obtain ⟨o, es, ep, h1, r⟩ := hd
        exact ⟨o, es, ep, q1 _ _ h1, r⟩
      refine wpAny_bind (wpAny_onRaise (wpAny_holding (merge_new (Nat.ne_of_lt hdlt) hsub hd' q2 ?_ ?_ ?_ fun h₃ h4 h5 => ?_)))
      · intro e
        have := hp.length
        rw [e] at this
        exact hne (List.length_eq_zero_iff.mp this.symm)
      · rw [List.map_append, hp.keys, q3.keys, ← List.map_append]; exact hn
      · rw [hp.length, q3.length, sizeLine_eq]
        rw [List.length_append] at hl; omega
      · refine wpAny_pure ⟨⟨h₃, t', rfl, fun b o e => h5.extBut b o (fun q => ?_) (q1 b o (hkeep b o e))⟩, by simp, hsz, kvs ++ more, h4, hp.append q3⟩
        rw [q, hsz] at e; cases e

theorem display_go {s₀ : Shared} (hsys : s₀.heap.get? sysModules ≠ none) {l : List (Str × Str)} (hn : (l.map (·.1)).Nodup) (hl : l.length < 2 ^ 10) {E : Value → Shared → Prop}
    (f : (Option (Sem Value) × Sem Value) → (Option Addr × List (Sem Value × Sem Value)) → Sem (ForInStep (Option Addr × List (Sem Value × Sem Value))))
    (hf : ∀ (k v : Sem Value) (main : Option Addr) (run : List (Sem Value × Sem Value)), f (some k, v) (main, run) = (if (run ++ [(k, v)]).length == 17 then (do let m ← flushD (run ++ [(k, v)]) main; pure (.yield (m, []))) else pure (.yield (main, run ++ [(k, v)])))) :
    ∀ {its : List (Sem Value × Sem Value)} {more : List (Str × Str)}, PairTrees (model prog w) A its more → ∀ {done lr : List (Str × Str)} {main : Option Addr} {run : List (Sem Value × Sem Value)} {s' : Shared}, done ++ (lr ++ more) = l → DState prog w s₀ done main s' → PairTrees (model prog w) A run lr →
      ∀ {Q : Option Addr × List (Sem Value × Sem Value) → Shared → Prop}, (∀ done lr main run s', done ++ lr = l → DState prog w s₀ done main s' → PairTrees (model prog w) A run lr → Q (main, run) s') →
      wpAny (model prog w) A (forIn (its.map fun p => (some p.1, p.2)) (main, run) f) Q E s' := by
  intro its more hm
  induction hm with
  | nil =>
    intro done lr main run s' he D hr Q hQ
    rw [List.map_nil, List.forIn_nil]
    exact wpAny_pure (hQ done lr main run s' (by simpa using he) D hr)
  | @cons k v x y r more hk hv hm ih =>
    intro done lr main run s' he D hr Q hQ
    have hr' : PairTrees (model prog w) A (run ++ [(k, v)]) (lr ++ [(x, y)]) := hr.append (.cons hk hv .nil)
    have he' : done ++ ((lr ++ [(x, y)]) ++ more) = l := by rw [← he]; simp
    rw [List.map_cons, List.forIn_cons, hf]
    split
    · have hsplit : ((done ++ (lr ++ [(x, y)])) ++ more) = l := by rw [List.append_assoc]; exact he'
      refine wpAny_bind (wpAny_bind (wpAny_mono (flush_str hsys D hr' ?_ ?_) (fun m' s'' q => wpAny_pure ?_) fun _ _ e => e))
      · rw [← hsplit, List.map_append, List.nodup_append] at hn
        exact hn.1
      · rw [← hsplit, List.length_append] at hl; omega
      · exact ih (lr := []) (by rw [← he']; simp) q .nil hQ
    · exact wpAny_bind (wpAny_pure (ih he' D hr' hQ))

theorem dictDisplay_str {s : Shared} (hsys : s.heap.get? sysModules ≠ none) {its : List (Sem Value × Sem Value)} {l : List (Str × Str)} (ht : PairTrees (model prog w) A its l) (hn : (l.map (·.1)).Nodup) (hl : l.length < 2 ^ 10) {E : Value → Shared → Prop} {Q : Value → Shared → Prop}
    (h0 : l = [] → ∀ h' t, (∀ b o, s.heap.get? b = some o → h'.get? b = some o) → wpAny (model prog w) A newDict Q E { s with heap := h', toks := t }) (hQ : ∀ d s', DState prog w s l (some d) s' → Q (.ref d) s') :
    wpAny (model prog w) A (dictDisplay (its.map fun p => (some p.1, p.2))) Q E s := by
  unfold dictDisplay
  refine wpAny_bind (display_go (s₀ := s) hsys hn hl _ (fun k v main run => ?_) ht (done := []) (lr := []) (main := none) (run := []) (by simp) ⟨⟨s.heap, s.toks, rfl, fun _ _ e => e⟩, rfl⟩ .nil fun done lr main run s' he D hr => ?_)
  · rfl
  · have hfl := flush_str hsys D hr (by rw [he]; exact hn) (by rw [he]; exact hl) (E := E)
    refine wpAny_bind (wpAny_mono hfl (fun m' s'' q => ?_) fun _ _ e => e)
    rw [he] at q
    cases m' with
    | some d => exact wpAny_pure (hQ d s'' q)
    | none =>
      obtain ⟨⟨h', t, rfl, hk⟩, q⟩ := q
      exact h0 q h' t hk

theorem strE_eq {e : Expr} {x : Str} (h : Ev.strE e = some x) : ∃ p q, e = .Constant (.str x) p q := by
  obtain ⟨k, p, q, h1, h⟩ := xConstant_inv sn h
  obtain ⟨y, h2, h⟩ := cstr_inv sn h
  exact ⟨p, q, by rw [h1, h2, Option.some.inj h]⟩
theorem pairTrees_of {env : Env} {p : Pos} {ks : List (Option Expr)} : ∀ {vs : List Expr} {l : List (Str × Str)}, Ev.strPairs ks vs = some l →
    ∃ its, (evalEachOpt ks env).zip ((evalEach vs env).map fun v => do let x ← v; standAt p; pure x) = its.map (fun q => (some q.1, q.2)) ∧ PairTrees (model prog w) A its l := by
  induction ks with
  | nil =>
    intro vs l h
    cases vs with
    | nil => rw [← Option.some.inj (show some [] = some l from h)]; exact ⟨[], rfl, .nil⟩
    | cons => cases h
  | cons k kr ih =>
    intro vs l h
    cases vs with
    | nil => cases h
    | cons v vr =>
      obtain ⟨x, h1, h⟩ := ob h
      obtain ⟨y, h2, h⟩ := ob h
      obtain ⟨l', h3, h⟩ := Option.map_eq_some_iff.mp h
      obtain ⟨e, h4, h1⟩ := ob h1
      obtain ⟨p1, p2, h1⟩ := strE_eq h1
      obtain ⟨p3, p4, h2⟩ := strE_eq h2
      obtain ⟨its, h5, h6⟩ := ih h3
      rw [← h, h4, h1, h2]
      refine ⟨(eval (.Constant (.str x) p1 p2) env, do let x ← eval (.Constant (.str y) p3 p4) env; standAt p; pure x) :: its, ?_, .cons (fun s Q E hQ => wpAny_Constant_str (hQ _ _)) (fun s Q E hQ => ?_) h6⟩
      · rw [List.map_cons, ← h5]; rfl
      · exact wpAny_bind (wpAny_Constant_str (wpAny_bind (wpAny_standAt (wpAny_pure (hQ _ _)))))
end

section
variable {tp : TopP} {c : Cx} {m : Str → Option Value} {cv : Addr → Option Value} {lo : Lo} {W : Wd} {s : Shared} {n : Nat} {r : Ev}

theorem Inv.free' (I : Inv c lo W m cv s.heap) {a : Addr} (ha : s.heap.get? a = none) : Free c W a where
  away := fun hm => by obtain ⟨o, ho⟩ := muts_obj I hm; rw [ha] at ho; cases ho
  fixd := fun p hp e => by obtain ⟨o, ho, _⟩ := I.fix p hp; rw [e, ha] at ho; cases ho
  based := by
    cases hq : c.base.get? a with
    | none => rfl
    | some o => have := I.keep _ _ hq; rw [ha] at this; cases this

theorem Dict_ok (S : St c lo W m cv s) (ks : List (Option Expr)) (vs : List Expr) (pos : Pos) :
    At c m cv W.F (R.lift (Ev.dictE ks vs) lo) (Go c (eval (.Dict ks vs pos) c.env)) s (RelL c) := by
  refine At.lift fun v e => ?_
  rw [arm_eval_Dict]
  refine wpAny_bind (wpAny_standAt ?_)
  have hsys : s.heap.get? sysModules ≠ none := by
    cases e0 : c.base.get? sysModules with
    | none => exact absurd e0 S.inv.sys
    | some o => rw [S.inv.keep _ _ e0]; exact fun e => nomatch e
  unfold Ev.dictE at e
  cases hl : Ev.strPairs ks vs with
  | none => rw [hl] at e; cases e
  | some l =>
    obtain ⟨its, h1, h2⟩ := pairTrees_of (prog := c.prog) (w := c.w) (A := c.A) (env := c.env) (p := pos) hl
    rw [h1]
    rw [hl] at e
    cases l with
    | nil =>
      cases e
      refine dictDisplay_str hsys h2 (by simp) (by simp) (fun _ h' t hk => ?_) fun d s' q => absurd rfl q.2.1
      have S' : St c lo W m cv { s with heap := h', toks := t } := ⟨S.gens, S.os, S.inv.keeps hk⟩
      refine wpAny_newObj_type ?_
      obtain ⟨o, g1, g2⟩ := FO.dcti_of (Heap.DictOf.new (knd := intKind c.prog c.w) h')
      rw [Heap.get?_push_size _ rfl] at g1
      cases g1
      exact Post.own (fo := .dcti []) S' (Sub.refl _) (.dcti (kvs := []) .nil) g2 rfl t
    | cons p l =>
      dsimp only at e
      split at e
      · rename_i hc
        cases e
        refine dictDisplay_str hsys h2 hc.1 hc.2 (fun e => nomatch e) fun d s' q => ?_
        obtain ⟨⟨h', t, rfl, hk⟩, _, hd, kvs, q1, q2⟩ := q
        have hkeys := q2.keys
        refine ⟨W, Sub.refl _, ⟨S.gens, S.os, S.inv.keeps hk⟩, ?_⟩
        rw [← hkeys]
        exact .own (.dcts q2.reps) (S.inv.free' hd) (FO.dcts_of q1)
      · cases e
end
end Mine
namespace Mine
open PySem PyProof.Rows PySem.W PySem.SeqAt

section
variable {tp : TopP} {c : Cx} {m : Str → Option Value} {cv : Addr → Option Value} {lo : Lo} {W : Wd} {s : Shared} {n : Nat} {r : Ev} {F0 F1 : Led}

theorem Good.mono (Gd : Good tp c (n + 1)) : Good tp c n :=
  { Gd with units := by have := Gd.units; omega, depth := by have := Gd.depth; omega }

theorem noExc_ok {α β : Type} {x : R α} {t : Sem β} {Rel : α → Wd → Heap → β → Prop} (h : At c m cv F0 (x lo) (Go c t) s Rel) : At c m cv F0 (Ev.noExc x lo) (Go c t) s Rel := by
  intro hne
  unfold Ev.noExc at hne ⊢
  cases e : x lo with
  | ok a lo' => rw [e] at h; exact h fun q => by cases q
  | exc => simp only [e] at hne; exact (hne trivial).elim
  | fail => simp only [e] at hne; exact (hne trivial).elim
theorem noExc_exc {α : Type} {x : R α} : Ev.noExc x lo ≠ .exc := fun h => by
  unfold Ev.noExc at h
  cases e : x lo with
  | ok a lo' => simp only [e] at h; cases h
  | exc => simp only [e] at h; cases h
  | fail => simp only [e] at h; cases h
theorem noExc_fail {α β : Type} {x : R α} {f : α → R β} (hf : ∀ a lo, f a lo = .fail) : (Ev.noExc x).bind f lo = .fail := by
  cases e : Ev.noExc x lo with
  | ok a lo' => rw [bind_ok e]; exact hf _ _
  | exc => exact absurd e noExc_exc
  | fail => exact bind_fail e

theorem userE_fail {g : Str} {ps : List PV} (h : r.c g none ps = .fail) (lo : Lo) : r.userE g ps lo = .fail := by unfold Ev.userE; rw [h]
theorem lendE_fail {g x : Str} {ps : List PV} (h : ∀ mo, r.c g (some mo) ps = .fail) (lo : Lo) : r.lendE g x ps lo = .fail := by
  unfold Ev.lendE
  cases getLo lo x with
  | none => rfl
  | some v =>
    cases v with
    | pv p => rfl
    | own mo => simp only [h]

theorem plain_args (H : SoundE tp n r) (HC : SoundC tp n r) (Gd : Good tp c n) (S : St c lo W m cv s) {g : Str} {d : FnDef} (hd : tp.FD g = some d) (hg : isGlob c.sc g = true) (fp : Pos) (args : List Expr) (p : Pos) (hs : args.any Ev.isStar = false) :
    At c m cv W.F (((Ev.noExc (r.evs c.sc args)).bind fun ps => r.userE g ps) lo) (Go c (eval (.Call (.Name g fp) args [] p) c.env)) s (RelL c) := by
  obtain ⟨a, fd, Fn⟩ := Gd.tops.fn g d hd
  have hdb : (g == ("__debug__" : Str)) = false := beq_false_of_ne fun e => by rw [e, HC.dbg] at hd; cases hd
  obtain ⟨o, ho, hdat⟩ := Fn.obj
  refine At.map (G := fun Q E s => wpAny c.M c.A (spliced (backTo p (starEach args c.env))) (fun us s₁ => (s₁.heap.get? a = some o ∧ o.data = .func fd) ∧ wpAny c.M c.A (call (.ref a) us) Q E s₁) E s) ?_ fun Q E h => ?_
  rotate_left
  · refine call_name (glob_name Gd hg hdb (Calls.loadGlobal_global (mg := tp.mg) ?_ Fn.name ?_))
    · rw [Gd.gl]; exact Gd.tops.g.keeps S.inv.keep
    · exact Calls.callWith_function (o := o) (fd := fd) (first := []) (evalArgs_G hs h)
  refine (noExc_ok (evs_ok H Gd p args S)).seq (G := fun us Q E s₁ => (s₁.heap.get? a = some o ∧ o.data = .func fd) ∧ wpAny c.M c.A (call (.ref a) us) Q E s₁) fun ps lo₁ us s₁ W₁ S₁ h₁ r₁ => ?_
  intro hne
  exact ⟨⟨S₁.inv.keep _ _ ho, hdat⟩, ((HC.user Gd S₁ hd Fn r₁).sub h₁) hne⟩

theorem lend_args (H : SoundE tp n r) (HC : SoundC tp n r) (Gd : Good tp c n) (S : St c lo W m cv s) {g : Str} {d : FnDef} (hd : tp.FD g = some d) (hg : isGlob c.sc g = true) (fp : Pos) (x : Str) (px : Pos) (rest : List Expr) (p : Pos) (hs : rest.any Ev.isStar = false) (hx : isLocal c.sc x = true) :
    At c m cv W.F (Ev.ownAny x ((Ev.noExc (r.evs c.sc rest)).bind fun ps => r.lendE g x ps) lo) (Go c (eval (.Call (.Name g fp) (.Name x px :: rest) [] p) c.env)) s (RelL c) := by
  obtain ⟨a, fd, Fn⟩ := Gd.tops.fn g d hd
  have hdb : (g == ("__debug__" : Str)) = false := beq_false_of_ne fun e => by rw [e, HC.dbg] at hd; cases hd
  obtain ⟨o, ho, hdat⟩ := Fn.obj
  intro hne
  obtain ⟨mo, e₀, q⟩ := ownAny_own hne
  rw [q] at hne ⊢
  obtain ⟨u, hu, _⟩ := S.inv.los x _ e₀
  refine At.map (c := c) (m := m) (cv := cv) (F0 := W.F) (Rel := RelL c) (G := fun Q E s => wpAny c.M c.A (spliced (backTo p (starEach rest c.env))) (fun us s₁ => (s₁.heap.get? a = some o ∧ o.data = .func fd) ∧ wpAny c.M c.A (call (.ref a) (u :: us)) Q E s₁) E s) ?_ (fun Q E h => ?_) hne
  rotate_left
  · refine call_name (glob_name Gd hg hdb (Calls.loadGlobal_global (mg := tp.mg) ?_ Fn.name ?_))
    · rw [Gd.gl]; exact Gd.tops.g.keeps S.inv.keep
    · refine Calls.callWith_function (o := o) (fd := fd) (first := []) (evalArgs_G (by rw [List.any_cons, hs]; rfl) ?_)
      exact wpAny_items_cons (wpAny_Name (load_held Gd S hu (isLocal_ne hx).2 (wpAny_mono h (fun _ _ q => q) fun _ _ e => e)) (isLocal_ne hx).1) rfl
  refine (noExc_ok (evs_ok H Gd p rest S)).seq (G := fun us Q E s₁ => (s₁.heap.get? a = some o ∧ o.data = .func fd) ∧ wpAny c.M c.A (call (.ref a) (u :: us)) Q E s₁) fun ps lo₁ us s₁ W₁ S₁ h₁ r₁ => ?_
  intro hne
  exact ⟨⟨S₁.inv.keep _ _ ho, hdat⟩, ((HC.lend Gd S₁ hd Fn r₁ hu).sub h₁) hne⟩

theorem ownAny_fail {α : Type} {x : Str} {t : R α} (h : t lo = .fail) : Ev.ownAny x t lo = .fail := by
  unfold Ev.ownAny
  cases getLo lo x with
  | none => rfl
  | some v =>
    cases v with
    | pv q => rfl
    | own mo => exact h
theorem Args_ok (H : SoundE tp n r) (HC : SoundC tp n r) (Gd : Good tp c n) (S : St c lo W m cv s) {g : Str} (hg : isGlob c.sc g = true) (fp : Pos) (args : List Expr) (p : Pos) (hs : args.any Ev.isStar = false) :
    EOk c m cv lo W s (.Call (.Name g fp) args [] p) (r.argsE c.sc g args) := by
  cases hd : tp.FD g with
  | none =>
    have hu : r.argsG c.sc g args lo = .fail := noExc_fail fun ps lo => userE_fail (HC.none g none ps hd) lo
    exact fun hne => (hne (hd1_or (P := fun v : R LV => v lo = .fail) (fun a rest _ => xName_or (P := fun v : R LV => v lo = .fail) (fun x px _ => ite_or (P := fun v : R LV => v lo = .fail) (fun _ => ownAny_fail (noExc_fail fun ps lo => lendE_fail (fun mo => HC.none g (some mo) ps hd) lo)) fun _ => hu) fun _ => hu) hu)).elim
  | some d =>
    have pl : EOk c m cv lo W s (.Call (.Name g fp) args [] p) (r.argsG c.sc g args) := plain_args H HC Gd S hd hg fp args p hs
    refine hd1_or (P := EOk c m cv lo W s _) (fun a rest e1 => xName_or (P := EOk c m cv lo W s _) (fun x px e2 => ite_or (P := EOk c m cv lo W s _) (fun hx => ?_) fun _ => pl) fun _ => pl) pl
    rw [e2] at e1
    rw [e1] at hs ⊢
    rw [List.any_cons, Bool.or_eq_false_iff] at hs
    exact lend_args H HC Gd S hd hg fp x px rest p hs.2 hx.2
theorem CallG_ok (H : SoundE tp n r) (HC : SoundC tp n r) (Gd : Good tp c n) (S : St c lo W m cv s) (g : Str) (fp : Pos) (args : List Expr) (p : Pos) (hs : args.any Ev.isStar = false) :
    EOk c m cv lo W s (.Call (.Name g fp) args [] p) (r.callG c.sc g args) := by
  refine ite_or (P := EOk c m cv lo W s _) (fun hg => ite_or (P := EOk c m cv lo W s _) (fun e => ?_) fun _ => ite_or (P := EOk c m cv lo W s _) (fun hb => one_or (P := EOk c m cv lo W s _) (fun a e => ?_) EOk.bad) fun _ => Args_ok H HC Gd S hg fp args p hs) fun _ => EOk.bad
  · rw [e] at hg ⊢; exact Isi_ok H Gd S fp args p hg hs
  · rw [e] at hs ⊢; exact BCall_ok H Gd S fp a p hg hb hs
theorem CallJ_ok (H : SoundE tp n r) (Gd : Good tp c n) (S : St c lo W m cv s) (kk : Nat) (kp : Pos) (apos : Pos) (args : List Expr) (p : Pos) (hp : (apos.endLine == p.line) = true) :
    EOk c m cv lo W s (.Call (.Attribute (.Constant (.str "") kk kp) "join" apos) args [] p) (r.callJ c.sc args) := by
  refine one_or (P := EOk c m cv lo W s _) (fun y e1 => xCallN_or (P := EOk c m cv lo W s _) (fun g gp as cp e2 => one_or (P := EOk c m cv lo W s _) (fun a e3 => ite_or (P := EOk c m cv lo W s _) (fun h => ?_) fun _ => EOk.bad) EOk.bad) EOk.bad) EOk.bad
  rw [e1, e2, e3, h.1]
  exact Join_ok H Gd S _ _ gp a cp apos p hp (h.1 ▸ h.2.1) h.2.2
theorem Call_ok (H : SoundE tp n r) (HC : SoundC tp n r) (Gd : Good tp c n) (S : St c lo W m cv s) (f : Expr) (args : List Expr) (p : Pos) :
    EOk c m cv lo W s (.Call f args [] p) (r.callE c.sc f args p) := by
  refine ite_or (P := EOk c m cv lo W s _) (fun _ => EOk.bad) fun hst => ?_
  have hst : args.any Ev.isStar = false ∧ args.length < 10 := by
    simp only [Bool.or_eq_true, decide_eq_true_eq, not_or] at hst
    exact ⟨by simpa using hst.1, by omega⟩
  obtain ⟨hs, hl⟩ := hst
  refine xName_or (P := EOk c m cv lo W s _) (fun g fp e => by rw [e]; exact CallG_ok H HC Gd S g fp args p hs) fun _ => xAttribute_or (P := EOk c m cv lo W s _) (fun v mth apos e1 => ?_) fun _ => EOk.bad
  rw [e1]
  refine xConstant_or (P := EOk c m cv lo W s _) (fun k kk kp e2 => cstr_or (P := EOk c m cv lo W s _) (fun x e3 => ite_or (P := EOk c m cv lo W s _) (fun hm => ?_) fun _ => EOk.bad) EOk.bad) fun _ =>
    xName_or (P := EOk c m cv lo W s _) (fun x px e2 => ite_or (P := EOk c m cv lo W s _) (fun hp => ite_or (P := EOk c m cv lo W s _) (fun e => ?_) fun _ => ?_) fun _ => EOk.bad) fun _ => EOk.bad
  · rw [e2, e3, hm.1, hm.2.1]; exact CallJ_ok H Gd S kk kp apos args p hm.2.2
  · rw [e2, e]; exact Get_ok H Gd S x px apos args p hs hl hp
  · rw [e2]; exact Meth_ok H Gd S x px mth apos args p hs hl hp

theorem gen1_or {α : Type} {P : α → Prop} {d : α} {gs : List Comprehension} {f : Str → Pos → Expr → List Expr → α} (h1 : ∀ x px it ifs, gs = [⟨.Name x px, it, ifs, 0⟩] → P (f x px it ifs)) (h2 : P d) : P (Ev.gen1 d gs f) := by
  refine one_or (fun g e1 => xName_or (fun x px e2 => ite_or (fun h => h1 x px _ _ ?_) fun _ => h2) fun _ => h2) h2
  cases g with
  | mk t it ifs a => rw [e1, show t = _ from e2, show a = 0 from h]; rfl
theorem CmpE_ok (H : SoundE tp n r) (Gd : Good tp c n) (S : St c lo W m cv s) (l : Expr) (ops : List CmpOp) (rs : List Expr) (p : Pos) : EOk c m cv lo W s (.Compare l ops rs p) (r.cmpE c.sc l ops rs fun b => .pv (.bool b)) := by
  refine one_or (P := EOk c m cv lo W s _) (fun op e1 => one_or (P := EOk c m cv lo W s _) (fun rr e2 => ite_or (P := EOk c m cv lo W s _) (fun _ => EOk.bad) fun hb => ?_) EOk.bad) EOk.bad
  rw [e1, e2]; exact Compare_ok H Gd S l op rr p (Bool.not_eq_true _ ▸ hb)
theorem SubE_ok (H : SoundE tp n r) (Gd : Good tp c n) (S : St c lo W m cv s) (v i : Expr) (p : Pos) : EOk c m cv lo W s (.Subscript v i p) (r.subE c.sc v i) := by
  have g : EOk c m cv lo W s (.Subscript v i p) (r.subG c.sc v i) := Sub_ok H Gd S v i p
  refine xSlice_or (P := EOk c m cv lo W s _) (fun a b d q e => non_or (P := EOk c m cv lo W s _) (fun e1 => yes_or (P := EOk c m cv lo W s _) (fun u e2 => non_or (P := EOk c m cv lo W s _) (fun e3 => ?_) g) g) g) fun _ => g
  rw [e, e1, e2, e3]; exact Slice_ok H Gd S v u p q
theorem eStep_ok (H : SoundE tp n r) (HC : SoundC tp n r) (Gd : Good tp c n) (S : St c lo W m cv s) (x : Expr) : EOk c m cv lo W s x (r.eStep c.sc x) := by
  refine xName_or (P := EOk c m cv lo W s _) (fun y py e => e ▸ (name_ok Gd S y py).ofP) fun _ => ?_
  refine xConstant_or (P := EOk c m cv lo W s _) (fun k kk p e => e ▸ const_ok S k kk p) fun _ => ?_
  refine xCall_or (P := EOk c m cv lo W s _) (fun f as ks p e => nil1_or (P := EOk c m cv lo W s _) (fun e1 => by rw [e, e1]; exact Call_ok H HC Gd S f as p) EOk.bad) fun _ => ?_
  refine xBinOp_or (P := EOk c m cv lo W s _) (fun a op b p e => e ▸ BinOp_ok H Gd S a op b p) fun _ => ?_
  refine xCompare_or (P := EOk c m cv lo W s _) (fun l ops rs p e => e ▸ CmpE_ok H Gd S l ops rs p) fun _ => ?_
  refine xBoolOp_or (P := EOk c m cv lo W s _) (fun op es p e => e ▸ At.map (boolE_ok H Gd op p es S).ofP fun Q E h => by rw [arm_eval_BoolOp]; exact h) fun _ => ?_
  refine xUnaryOp_or (P := EOk c m cv lo W s _) (fun op y p e => ?_) fun _ => ?_
  · rw [e]
    cases op with
    | Not => exact Not_ok H Gd S y p
    | USub => exact Neg_ok H Gd S y p
    | Invert => exact EOk.bad
    | UAdd => exact EOk.bad
  refine xIfExp_or (P := EOk c m cv lo W s _) (fun t a b p e => e ▸ IfExp_ok H Gd S t a b p) fun _ => ?_
  refine xSubscript_or (P := EOk c m cv lo W s _) (fun v i p e => e ▸ SubE_ok H Gd S v i p) fun _ => ?_
  refine xTuple_or (P := EOk c m cv lo W s _) (fun es k p e => ite_or (P := EOk c m cv lo W s _) (fun _ => EOk.bad) fun h => e ▸ Tuple_ok H Gd S es k p (Nat.lt_of_not_le h)) fun _ => ?_
  refine xList_or (P := EOk c m cv lo W s _) (fun es p e => ite_or (P := EOk c m cv lo W s _) (fun _ => EOk.bad) fun h => e ▸ List_ok H Gd S es p (Nat.lt_of_not_le h)) fun _ => ?_
  refine xDict_or (P := EOk c m cv lo W s _) (fun ks vs p e => e ▸ Dict_ok S ks vs p) fun _ => ?_
  refine xListComp_or (P := EOk c m cv lo W s _) (fun elt gs scope p e => gen1_or (P := EOk c m cv lo W s _) (fun y py it ifs e1 => by rw [e, e1]; exact ListComp_ok H Gd S _ _ _ _ _ _ _) EOk.bad) fun _ => ?_
  exact xDictComp_or (P := EOk c m cv lo W s _) (fun a b gs scope p e => gen1_or (P := EOk c m cv lo W s _) (fun y py it ifs e1 => by rw [e, e1]; exact DictComp_ok H Gd S _ _ _ _ _ _ _ _) EOk.bad) fun _ => EOk.bad

/-- a block's result is stored -/
noncomputable def UOk (c : Cx) (lo : Lo) (W : Wd) (s : Shared) (y : Str) (py : Pos) (x : Expr) (v : R LV) : Prop :=
  AtS c W.F ((v.bind fun v => (Ev.setVar c.sc y v).bind fun _ => R.ret Fl.next) lo) (fun Q E s => wpAny c.M c.A (evalThenUse x c.env (assign (.Name y py) c.env)) (fun _ s' => Q .next s') E s) s
theorem UOk.bad {y : Str} {py : Pos} {x : Expr} : UOk c lo W s y py x .fail := fun h => (h rfl).elim
theorem uStep_ok (H : SoundE tp n r) (Gd : Good tp c n) (S : St c lo W m cv s) (x : Expr) (y : Str) (py : Pos) (hx : Ev.isComp x = true) :
    AtS c W.F (((r.eStep c.sc x).bind fun v => (Ev.setVar c.sc y v).bind fun _ => R.ret Fl.next) lo) (fun Q E s => wpAny c.M c.A (evalThenUse x c.env (assign (.Name y py) c.env)) (fun _ s' => Q .next s') E s) s := by
  rcases of_decide_eq_true hx with h | h | h
  · exact Expr.ListComp.elim (motive_1 := fun x => UOk c lo W s y py x (r.eStep c.sc x)) x h fun elt gs scope p => gen1_or (P := UOk c lo W s y py _) (fun z pz it ifs e1 => by rw [e1]; exact ListCompUse_ok H Gd S _ _ _ _ _ _ _ y py) UOk.bad
  · exact Expr.SetComp.elim (motive_1 := fun x => UOk c lo W s y py x (r.eStep c.sc x)) x h fun _ _ _ _ => UOk.bad
  · exact Expr.DictComp.elim (motive_1 := fun x => UOk c lo W s y py x (r.eStep c.sc x)) x h fun a b gs scope p => gen1_or (P := UOk c lo W s y py _) (fun z pz it ifs e1 => by rw [e1]; exact DictCompUse_ok H Gd S _ _ _ _ _ _ _ _ y py) UOk.bad

theorem CompareB_ok (H : SoundE tp n r) (Gd : Good tp c n) (S : St c lo W m cv s) (a : Expr) (op : CmpOp) (b : Expr) (p : Pos) (hb : behindInMarks op b = false) (whole : Sem Value) :
    At c m cv W.F (((r.rdE c.sc a).bind fun x => (r.rdE c.sc b).bind fun y => (Ev.val x).bind fun p => (Ev.val y).bind fun q => R.lift ((cmp op p q).map id)) lo) (Go c (isTrue (.Compare a [op] [b] p) c.env whole)) s RelB := by
  refine At.map ?_ fun Q E h => wpAny_isTrue_Compare1 h hb
  refine (rdE_ok H Gd S a).seq (G := fun u Q E s₁ => wpAny c.M c.A (eval b c.env) (fun u' s₂ => wpAny c.M c.A (compareOp op u u') (fun r s₃ => wpAny c.M c.A (truthy r) Q E s₃) E s₂) E s₁) fun x lo₁ u s₁ W₁ S₁ h₁ r₁ => ?_
  refine (rdE_ok H Gd S₁ b).seq (G := fun u' Q E s₂ => wpAny c.M c.A (compareOp op u u') (fun r s₃ => wpAny c.M c.A (truthy r) Q E s₃) E s₂) fun y lo₂ u' s₂ W₂ S₂ h₂ r₂ => ?_
  refine val_then S₂ (r₁.sub (h' := s₂.heap) h₂) fun p rp => val_then S₂ r₂ fun q rq => ?_
  intro hne
  cases e : cmp op p q with
  | none => rw [e] at hne; exact (hne rfl).elim
  | some t =>
    refine wpAny_mono (cmp_ok S₂.stands S₂.gmods (by have := Gd.units; omega) rp.g rq.g e) (fun v s' q => ?_) fun _ _ e => e.elim
    obtain ⟨rfl, t', rfl⟩ := q
    exact wpAny_truthy_bool ⟨W₂, h₁.trans h₂, S₂.tok t', rfl⟩

noncomputable def BOk (c : Cx) (m : Str → Option Value) (cv : Addr → Option Value) (lo : Lo) (W : Wd) (s : Shared) (x : Expr) (v : R Bool) : Prop := At c m cv W.F (v lo) (Go c (isTrue x c.env (eval x c.env))) s RelB
theorem BOk.bad {x : Expr} : BOk c m cv lo W s x .fail := fun h => (h rfl).elim
theorem isTrue_gen {x : Expr} {env : Env} {t : Sem Value} (h0 : x.ctorIdx ≠ 0) (h3 : (∃ y p, x = .UnaryOp .Not y p) → False) (h5 : x.ctorIdx ≠ 5) (h15 : x.ctorIdx ≠ 15) : isTrue x env t = (do let v ← t; standAt x.pos; holding [v] (truthy v)) := by
  cases x with
  | BoolOp => exact absurd rfl h0
  | IfExp => exact absurd rfl h5
  | Compare => exact absurd rfl h15
  | UnaryOp op y p =>
    cases op with
    | Not => exact (h3 ⟨y, p, rfl⟩).elim
    | _ => rfl
  | _ => rfl
theorem bG_ok (H : SoundE tp n r) (Gd : Good tp c n) (S : St c lo W m cv s) (x : Expr) (h0 : x.ctorIdx ≠ 0) (h3 : (∃ y p, x = .UnaryOp .Not y p) → False) (h5 : x.ctorIdx ≠ 5) (h15 : x.ctorIdx ≠ 15) : BOk c m cv lo W s x (r.bG c.sc x) := by
  refine At.map ?_ fun Q E h => wpAny_isTrue_value h (isTrue_gen h0 h3 h5 h15)
  refine (pvE_ok H Gd S x).seq (G := fun v Q E s₁ => wpAny c.M c.A (truthy v) Q E s₁) fun p lo₁ u s₁ W₁ S₁ h₁ r₁ => ?_
  intro hne
  cases e : truth p with
  | none => rw [e] at hne; exact (hne rfl).elim
  | some t =>
    rw [truth_rep e r₁]
    exact wpAny_truthy_bool ⟨W₁, h₁, S₁, rfl⟩
theorem bStep_ok (H : SoundE tp n r) (Gd : Good tp c n) (S : St c lo W m cv s) (x : Expr) : BOk c m cv lo W s x (r.bStep c.sc x) := by
  refine xCompare_or (P := BOk c m cv lo W s _) (fun l ops rs p e => ?_) fun h15 => ?_
  · rw [e]
    refine one_or (P := BOk c m cv lo W s _) (fun op e1 => one_or (P := BOk c m cv lo W s _) (fun rr e2 => ite_or (P := BOk c m cv lo W s _) (fun _ => BOk.bad) fun hb => ?_) BOk.bad) BOk.bad
    rw [e1, e2]; exact CompareB_ok H Gd S l op rr p (Bool.not_eq_true _ ▸ hb) _
  refine xBoolOp_or (P := BOk c m cv lo W s _) (fun op es p e => e ▸ At.map (boolB_ok H Gd op es S) fun Q E h => wpAny_isTrue_BoolOp h) fun h0 => ?_
  refine xUnaryOp_or (P := BOk c m cv lo W s _) (fun op y p e => ite_or (P := BOk c m cv lo W s _) (fun h => ?_) fun h => ?_) fun h3 => ?_
  · cases op with
    | Not =>
      rw [e]
      refine At.map ?_ fun Q E h => wpAny_isTrue_Not h
      refine (H.b Gd S y).seq (G := fun b Q _ s₁ => Q (!b) s₁) fun b lo₁ b' s₁ W₁ S₁ h₁ r₁ => ?_
      obtain rfl : b' = b := r₁
      exact At.pure S₁ h₁ rfl
    | _ => exact absurd h (by decide)
  · exact bG_ok H Gd S x h0 (fun ⟨z, q, e'⟩ => h (by rw [e] at e'; cases e'; rfl)) (by rw [e]; exact fun h => nomatch h) h15
  · exact xIfExp_or (P := BOk c m cv lo W s _) (fun _ _ _ _ _ => BOk.bad) fun h5 => bG_ok H Gd S x h0 (fun ⟨z, q, e'⟩ => h3 (by rw [e']; rfl)) h5 h15
end
end Mine
namespace Mine
open PySem PyProof.Rows PySem.W PySem.SeqAt
open Builtin Builtin.ObjectAttr

section
variable {M : Model} {A : Around} {E : Value → Shared → Prop} {h : Heap} {g : Array GenState} {d : Drawn} {t : Nat} {os : OsState} {C : Addr} {D : LfD}

theorem LfCls.tail (X : LfCls h C D) : OwnTail h bmE (.ref D.A :: bmE) := .own X.par X.pns X.pinit .base

/-- a name that neither own class lays down -/
theorem lookup_own (X : LfCls h C D) {name : Str} {y : Option Value} {Q : Option Value → Shared → Prop} (h1 : D.mN name = none) (h2 : D.mA name = none) (hB : typeLookup (.type "Exception") name = pure y) (hq : Q y ⟨h, g, d, t, os⟩) :
    wpAny M A (typeLookup (.ref C) name) Q E ⟨h, g, d, t, os⟩ := by
  have hrest : lookupAlong bmE name = pure y := by rw [typeLookup_eq, PySem.F.excBase_Exception.mroIs] at hB; exact hB
  rw [typeLookup_eq]
  refine wpAny_bind (wpAny_mroOf_exc X.cls ?_)
  rw [lookupAlong_cons]
  refine wpAny_bind (wpAny_classOwn_exc X.cls X.ns ?_)
  rw [h1]
  show wpAny M A (lookupAlong (.ref D.A :: bmE) name) Q E _
  rw [lookupAlong_cons]
  refine wpAny_bind (wpAny_classOwn_cls X.par X.pns ?_)
  rw [h2]
  show wpAny M A (lookupAlong bmE name) Q E _
  rw [hrest]; exact wpAny_pure hq
end

section
variable {prog : Program} {w : World} {A : Around} {E : Value → Shared → Prop} {h : Heap} {g : Array GenState} {d : Drawn} {t : Nat} {os : OsState} {C x : Addr} {D : LfD} {v : Value}

theorem what_none : typeLookup (.type "Exception") "what" = pure none := by rw [typeLookup_type, builtinLookup_eq_fast]; kernel_rfl

/-- what the thing holds after self.what = what -/
noncomputable def Whatted (h : Heap) (x : Addr) (o : Obj) (h' : Heap) : Prop :=
  (∀ b ob, b ≠ x → h.get? b = some ob → h'.get? b = some ob) ∧ ∃ dx, h'.get? x = some { cls := o.cls, dict := dx, data := o.data, slots := o.slots }

theorem what_entry {tk : Tok} {Q : Fin → Shared → Prop} (X : LfCls h C D) {o : Obj} (hx : h.get? x = some o) (hc : o.cls = .ref C) {vs : Array Value} (hd : o.data = .fields vs) (hdn : o.dict = none)
    (hq : ∀ h' tk', Whatted h x o h' → Q (.done (.ret .none)) ⟨h', g, d, tk', os⟩) :
    wpAny (model prog w) A (Builtin.«object.__setattr__» ⟨[.ref x, .str "what" tk, v], []⟩) Q E ⟨h, g, d, t, os⟩ := by
  have hpass := PySem.F.store_Exception.passes (.ref x)
  have hC := X.cls
  unfold Builtin.«object.__setattr__»
  repeat (first | rw [refuse_eq] | (rw [refuseLoop_ref, refuseLoop_ref, hpass]) | (with_reducible refine wpAny_loadPart_at hx ?_; rw [hc]) | with_reducible refine wpAny_mroOf_exc X.cls ?_ | with_reducible refine lookup_own X X.what X.pwhat what_none ?_ | wp_step)
  rw [hdn, if_neg (by simp [typeHasDict])]
  split
  · rename_i hcd; cases hcd
  split
  · rename_i c hcd; rw [hd] at hcd; cases hcd
  · have hx₁ : (h.push { cls := .type "dict", data := .dict #[] }).get? x = some o := Heap.get?_push_of_some _ hx
    have hxs : x ≠ h.objs.size := Nat.ne_of_lt (Heap.lt_size hx)
    refine wpAny_bind (wpAny_alloc' ?_)
    refine wpAny_bind (wpAny_update' hx₁ ?_)
    refine wpAny_pure ?_
    have hgd : ((h.push { cls := .type "dict", data := .dict #[] }).update x fun o => { cls := o.cls, dict := some h.objs.size, data := o.data, slots := o.slots }).get? h.objs.size
        = some { cls := .type "dict", data := .dict #[] } :=
      (Heap.get?_update_ne _ _ _ _ hxs.symm).trans (Heap.get?_push_at rfl rfl)
    have hnd : ((h.push { cls := .type "dict", data := .dict #[] }).update x fun o => { cls := o.cls, dict := some h.objs.size, data := o.data, slots := o.slots }).Ns h.objs.size (fun _ => none) :=
      ⟨_, #[], _, hgd, rfl, fun e he => absurd he (by simp), fun _ => rfl⟩
    show wpAny _ _ (storeInDict h.objs.size (.str "what" tk) "what" v) _ _ _
    unfold storeInDict newKeyGuard
    refine wpAny_bind (wpAny_pure (wpAny_bind (wpAny_nsSet1 (Heap.Ns1.of_empty hnd) fun h' hn' hs => ?_)))
    obtain ⟨oD, esD, epD, hoD, hdD, hcD⟩ := hn'.count (Within.cons "what" v Within.nil)
    refine wpAny_bind (wpAny_lookBehind hoD (by rw [hdD]; exact pastItsLine_dict (Nat.le_trans hcD (by rw [List.length_cons, List.length_nil, sizeLine_eq]; omega))) ?_)
    wp_walk
    refine hq h' _ ⟨fun b ob hbx hb => ?_, some h.objs.size, ?_⟩
    · exact (hs.2 b (Nat.ne_of_lt (Heap.lt_size hb))).trans ((Heap.get?_update_ne _ _ _ _ hbx).trans (Heap.get?_push_of_some _ hb))
    · refine (hs.2 x hxs).trans (Heap.get?_update_self _ hx₁ ?_)
      have hfr := (Heap.get?_some_iff.mp hx).2
      obtain ⟨oc, od, odt, osl⟩ := o
      cases odt <;> first | rfl | exact hfr

theorem what_check {M : Model} {nameV : Value} {Q : Unit → Shared → Prop} (X : LfCls h C D) {o : Obj} (hx : h.get? x = some o) (hc : o.cls = .ref C) (hq : Q () ⟨h, g, d, t, os⟩) :
    wpAny M A (checkBuiltinCall "object.__setattr__" ⟨[.ref x, nameV, v], []⟩) Q E ⟨h, g, d, t, os⟩ := by
  have hcB : (Value.ref C :: .ref D.A :: bmE).contains (.type "object") = true := by simp [List.contains_cons]
  have ha := PySem.F.store_Exception.args (.ref x) nameV v
  have hC := X.cls
  simp only [checkBuiltinCall, PySem.F.store_Exception.kind, PySem.F.store_Exception.split]
  refine wpAny_bind ?_
  · unfold isInstance
    repeat (first | (with_reducible refine wpAny_loadPart_at hx ?_; rw [hc]) | (with_reducible refine wpAny_isSubtype_exc hC ?_; rw [hcB]) | wp_step)
    exact hq

/-- self.what = what -/
theorem what_set {Q : Unit → Shared → Prop} (X : LfCls h C D) {o : Obj} (hx : h.get? x = some o) (hc : o.cls = .ref C) {vs : Array Value} (hd : o.data = .fields vs) (hdn : o.dict = none)
    (hq : ∀ h' tk', Whatted h x o h' → Q () ⟨h', g, d, tk', os⟩) : wpAny (model prog w) A (setAttr (.ref x) "what" v) Q E ⟨h, g, d, t, os⟩ := by
  have f3 := PySem.F.store_Exception.slot.bind (.ref x)
  unfold setAttr callSpecial? specialOf
  repeat (any_goals (first | assumption | (with_reducible refine wpAny_loadPart_at hx ?_; rw [hc]) | with_reducible refine lookup_own X X.sa X.psa PySem.F.store_Exception.slot.lookup ?_ | wp_step))
  refine codeAny_call_builtin PySem.F.store_Exception.slot.plain PySem.F.store_Exception.entry (what_check X hx hc (what_entry X hx hc hd hdn fun h' tk' hw => ?_))
  repeat (any_goals (first | assumption | wp_step))
  exact hq h' tk' hw
end
end Mine
namespace Mine
open PySem PyProof.Rows PySem.W PySem.SeqAt

section
variable {prog : Program} {w : World} {A : Around} {E : Value → Shared → Prop} {C : Addr} {D : LfD} {v : Value}

/-- the class's own __init__ -/
theorem lf_init {s : Shared} (X : LfCls s.heap C D) (hroom : A.depth < recursionLimit) (hlim : s.heap.NoLimit) {e : Addr} {vs : Array Value} (he : s.heap.get? e = some { cls := .ref C, data := .fields vs }) :
    wpAny (model prog w) A (call (.ref D.fI) [.ref e, v]) (fun r s' => r = .none ∧ ∃ h' t', s' = { s with heap := h', toks := t' } ∧ Whatted s.heap e { cls := .ref C, data := .fields vs } h') E s := by
  obtain ⟨o, ho, hdat⟩ := X.fn.obj
  have hfs := X.fn.scope
  have hbind := X.fn.binds s [.ref e, v] [.ref e, v] (fun _ _ e => e) (.inl ⟨X.len, rfl⟩)
  rw [X.pars] at hbind
  refine wpAny_call (call_cellsB (binds := [(("self" : Str), Value.ref e), (("what" : Str), v)]) (body := D.d.body) hroom ho hdat hlim X.fn.code X.fn.body hbind X.fn.closure ?_ ?_ (by rw [hfs]; exact X.fn.co) (by rw [hfs]; exact X.fn.gen) (by rw [hfs]; exact X.fn.kind))
  · intro x hx
    rw [hfs]
    simp only [List.mem_cons, List.not_mem_nil, or_false] at hx
    rcases hx with rfl | rfl
    · exact .inl X.self
    · exact .inl X.whatl
  · intro s₁ hI
    generalize henv : callEnvC D.fd s.heap.objs.size D.fI = env at hI
    have e1 : env.scope = D.d.scope := by rw [← henv]; exact hfs
    have hk : env.scope.kind = .function := by rw [e1]; exact X.fn.kind
    have ks : env.kindOf "self" = some .local := by unfold Env.kindOf; rw [e1]; exact X.self
    have kw : env.kindOf "what" = some .local := by unfold Env.kindOf; rw [e1]; exact X.whatl
    obtain ⟨⟨⟨h₁, tk, rfl⟩, hns, hkeep, _⟩, _⟩ := hI
    have ms := bindL_mem (x := "self") (u := .ref e) (m := fun _ => none) ks (binds := [(("self" : Str), Value.ref e), (("what" : Str), v)]) (show ([("self" : Str), ("what" : Str)] : List Str).Nodup by decide) List.mem_cons_self
    have mw := bindL_mem (x := "what") (u := v) (m := fun _ => none) kw (binds := [(("self" : Str), Value.ref e), (("what" : Str), v)]) (show ([("self" : Str), ("what" : Str)] : List Str).Nodup by decide) (List.mem_cons_of_mem _ List.mem_cons_self)
    have X₁ := X.keeps hkeep
    rw [X.body]
    refine wpAny_execs_cons (plainObj_wpAny_Assign_Attribute (wpAny_Name (wpAny_loadName_local hk kw hns mw (wpAny_Name (wpAny_loadName_local hk ks hns ms ?_) (by decide))) (by decide)) rfl)
    refine what_set X₁ (hkeep _ _ he) rfl rfl rfl fun h' tk' hw => wpAny_execs_nil ⟨rfl, h', tk', rfl, fun b ob hb hbo => hw.1 b ob hb (hkeep _ _ hbo), hw.2⟩

variable {h : Heap} {g : Array GenState} {d : Drawn} {t : Nat} {os : OsState}

theorem lf_type_call {Q : Fin → Shared → Prop} (X : LfCls h C D)
    (hq : ∀ h' e, Heap.MadeExcOf h h' e (.ref C) [v] → wpAny (model prog w) A (call (.ref D.fI) [.ref e, v]) (fun r s' => r = .none ∧ Q (.done (.ret (.ref e))) s') E ⟨h', g, d, t, os⟩) :
    wpAny (model prog w) A (Builtin.«type.__call__» ⟨[.ref C, v], []⟩) Q E ⟨h, g, d, t, os⟩ := by
  have hC := X.cls
  have hn := X.ns
  have T := X.tail
  obtain ⟨oI, hfI, hfc⟩ := X.fcls
  have F := PySem.F.excBase_Exception
  have hrest : [v].length ≤ sizeLine := by rw [sizeLine_eq]; simp
  show wpAny (model prog w) A (Builtin.«type.__call__» ⟨.ref C :: [v], []⟩) Q E _
  repeat (first | with_reducible refine wpAny_loadPart_at hC ?_ | with_reducible refine wpAny_madeBy_exc hC ?_ | wp_step)
  refine codeAny_call_builtin_code (Code.quiet_builtin _ F.quiet) (wpAny_check_new_subT F T hC ?_)
  refine codeAny_exc_new_subT F T hC ?_ hrest
  show wpAny _ _ _ _ _ _
  have k2 : ∀ b o, h.get? b = some o → ((h.push { cls := .type "tuple", data := .seq [v].toArray }).push { cls := .ref C, data := .fields #[.ref h.objs.size, .none, .none, .none, .bool false, .none] }).get? b = some o :=
    fun b o e => Heap.get?_push_of_some _ (Heap.get?_push_of_some _ e)
  have hC₁ := k2 _ _ hC
  have hfI₁ := k2 _ _ hfI
  have hn₁ := hn.keeps k2
  have T₁ := T.keeps k2
  have hget : ((h.push { cls := .type "tuple", data := .seq [v].toArray }).push
      { cls := .ref C, data := .fields #[.ref h.objs.size, .none, .none, .none, .bool false, .none] }).get? (h.objs.size + 1) = some
      { cls := .ref C, data := .fields #[.ref h.objs.size, .none, .none, .none, .bool false, .none] } := by heap_get
  have hcC : (Value.ref C :: .ref D.A :: bmE).contains (.ref C) = true := by simp
  unfold isInstance
  repeat (first | with_reducible refine wpAny_loadPart_at hget ?_ | (with_reducible refine wpAny_isSubtype_exc hC₁ ?_; rw [hcC]) | wp_step)
  show wpAny _ _ (typeLookup (.ref C) _) _ _ _
  refine wpAny_typeLookup_tail hC₁ hn₁ T₁ F.mroIs F.init.lookup ?_
  rw [X.init]
  refine wpAny_holding (wpAny_bind ?_)
  unfold bindSpecial
  refine wpAny_bind (wpAny_typeOf (T := "function") ⟨_, hfI₁, hfc⟩ ?_)
  rw [if_pos (by decide)]
  refine wpAny_pure (wpAny_bind (wpAny_mono (hq _ (h.objs.size + 1) ⟨k2, Heap.get?_none_of_le (Nat.le_succ _), h.objs.size, hget, Heap.get?_none_of_le (Nat.le_refl _), ?_⟩) (fun r s' hr => ?_) fun _ _ x => x))
  · exact Heap.get?_push_of_some _ (Heap.get?_push_at rfl rfl)
  · obtain ⟨rfl, hQ⟩ := hr
    wp_walk
    exact hQ

/-- the class is called with a text -/
theorem lf_call {Q : Value → Shared → Prop} (X : LfCls h C D) (hroom : A.depth + 1 < recursionLimit) (hlim : h.NoLimit)
    (hq : ∀ h' t' e tu dx, (∀ b o, h.get? b = some o → h'.get? b = some o) → h.get? e = none → h'.get? e = some { cls := .ref C, dict := dx, data := .fields #[.ref tu, .none, .none, .none, .bool false, .none] } → Q (.ref e) ⟨h', g, d, t', os⟩) :
    wpAny (model prog w) A (call (.ref C) [v]) Q E ⟨h, g, d, t, os⟩ := by
  have hC := X.cls
  have f1 := tc_lookup
  have f2 := tc_bind (.ref C)
  have hT : (⟨h, g, d, t, os⟩ : Shared).TypeIs (.ref C) "type" := ⟨_, hC, rfl⟩
  refine wpAny_call (codeAny_of_tree ?_)
  show wpAny _ _ (callAny (.ref C) _) _ _ _
  repeat (any_goals (first | assumption | with_reducible refine wpAny_loadPart_at hC ?_ | wp_step))
  refine ⟨rfl, ?_⟩
  refine codeAny_call_builtin_at (Code.quiet_builtin _ (by decide +kernel)) entry_typeCall (wpAny_check_type_call_sub hC (lf_type_call X fun h' e hm => ?_))
  obtain ⟨tu, he, _, _⟩ := hm.there
  refine wpAny_mono (lf_init (s := ⟨h', g, d, t, os⟩) (X.keeps hm.keeps) hroom (hlim.keeps hm.keeps) he) (fun r s' q => ?_) fun _ _ x => x
  obtain ⟨rfl, h'', t', rfl, hw1, dx, hw2⟩ := q
  exact ⟨rfl, hq h'' t' e tu dx (fun b o hb => hw1 b o (fun q => by rw [q, hm.new] at hb; cases hb) (hm.keeps _ _ hb)) hm.new hw2⟩

/-- raise LinkFault(text) -/
theorem lf_raiseStmt {s : Shared} {x : Sem Value} {env : Env} {Q : Flow → Shared → Prop} (hh : A.handled = none)
    (h : wpAny (model prog w) A x (fun v s₁ => ∃ e tu dx, v = .ref e ∧ LfCls s₁.heap C D ∧ s₁.heap.get? e = some { cls := .ref C, dict := dx, data := .fields #[.ref tu, .none, .none, .none, .bool false, .none] } ∧ E (.ref e) s₁) E s) :
    wpAny (model prog w) A (raiseStmt env (some x) none) Q E s := by
  have hcB : (Value.ref C :: .ref D.A :: bmE).contains (.type "BaseException") = true := by simp
  unfold raiseStmt
  refine wpAny_bind (wpAny_mono h (fun v s₁ h₁ => ?_) fun _ _ x => x)
  obtain ⟨e, tu, dx, rfl, X, he, hE⟩ := h₁
  have hC := X.cls
  obtain ⟨hp, g, d, tk, os⟩ := s₁
  repeat (first | with_reducible refine wpAny_loadPart_at he ?_ | with_reducible refine wpAny_loadPart_at hC ?_ | (with_reducible refine wpAny_isSubtype_exc hC ?_; rw [hcB]) | wp_step)
  exact wpAny_raiseNew_none hh hE
end
end Mine
namespace Mine
open PySem PyProof.Rows PySem.W PySem.SeqAt

section
variable {tp : TopP} {c : Cx} {m : Str → Option Value} {cv : Addr → Option Value} {lo : Lo} {W : Wd} {s : Shared} {n : Nat} {r : Ev} {F0 F1 : Led}

theorem fp_ok (Gd : Good tp c n) {h : Heap} (I : Inv c lo W m cv h) : FpOk c h := fun p hp => by
  rcases Gd.fpk p hp with ⟨P, h1, h2⟩ | ⟨h1, h2⟩ | ⟨h1, h2⟩ | ⟨o, h1, h2⟩
  · obtain ⟨o, h3, h4⟩ := I.ext _ h1; exact ⟨o, h3, h2 o h4⟩
  · obtain ⟨o, h3, h4⟩ := ns_obj I.ns; exact ⟨o, h1 ▸ h3, h2 m o h4⟩
  · obtain ⟨q, hq, e⟩ := List.mem_map.mp h1
    obtain ⟨o, h3, h4⟩ := I.cells q hq
    exact ⟨o, e ▸ h3, h2 _ o h4⟩
  · exact ⟨o, I.keep _ _ h1, h2⟩

theorem frames_ok (Gd : Good tp c n) (I : Inv c lo W m cv s.heap) : s.heap.FunFrames c.x.B c.x.frs := by
  have key : ∀ l : List Env, (∀ e ∈ l, e ∈ c.x.frs) → s.heap.FunFrames c.x.B l := by
    intro l
    induction l with
    | nil => exact fun _ => trivial
    | cons e r ih =>
      intro hl
      obtain ⟨h1, L, h2, _⟩ := Gd.frk e (hl e List.mem_cons_self)
      have hL : L ∈ c.x.ls := List.mem_filterMap.mpr ⟨e, hl e List.mem_cons_self, h2⟩
      obtain ⟨o, h3, h4⟩ := ls_obj Gd I hL
      refine ⟨h1, ⟨L, o, h2, ?_, h3, h4⟩, ih fun e' he' => hl e' (List.mem_cons_of_mem _ he')⟩
      cases e0 : c.x.B.get? L with
      | none => rfl
      | some o' =>
        have := Gd.bst _ _ e0
        rw [I.new L (ls_muts Gd hL _)] at this; cases this
  exact key _ fun _ h => h

theorem loadName_globA (Gd : Good tp c n) {A' : Around} {x : Str} (h : isGlob c.sc x = true) {Q : Value → Shared → Prop} {E : Value → Shared → Prop} (hQ : wpAny c.M A' (loadGlobal c.env x) Q E s) : wpAny c.M A' (loadName c.env x) Q E s := by
  unfold loadName
  simp only [Env.blockKind, Gd.fnk, isGlob_kind Gd h, ScopeKind.isAnnotationScope, Bool.false_and, Bool.false_eq_true, if_false]
  exact hQ

/-- the class is loaded -/
theorem lf_name (Gd : Good tp c n) (hk : ∀ b o, c.base.get? b = some o → s.heap.get? b = some o) {A' : Around} {fp : Pos} (hg : isGlob c.sc "LinkFault" = true) {Q : Value → Shared → Prop} {E : Value → Shared → Prop} (hQ : Q (.ref tp.cls) s) : wpAny c.M A' (eval (.Name "LinkFault" fp) c.env) Q E s := by
  refine wpAny_Name (loadName_globA Gd hg (Calls.loadGlobal_global (mg := tp.mg) ?_ Gd.tops.lfn hQ)) (by decide)
  rw [Gd.gl]; exact Gd.tops.g.keeps hk

theorem Raise_ok (H : SoundE tp n r) (Gd : Good tp c (n + 1)) (S : St c lo W m cv s) (fp cp pos : Pos) (a : Expr) (hg : isGlob c.sc "LinkFault" = true) (hs : Ev.isStar a = false) :
    AtS c W.F (((r.pvE c.sc a).bind fun p => match strLen p with | some _ => excR | none => R.fail) lo) (fun Q E s => wpAny c.M c.A (exec (.Raise (some (.Call (.Name "LinkFault" fp) [a] [] cp)) none pos) c.env) Q E s) s := by
  have Gn := Gd.mono
  obtain ⟨D, X⟩ := Gd.tops.lf
  intro hne
  have h0 := pvE_ok H Gn S a
  refine (show wpAny c.M c.A (exec (.Raise (some (.Call (.Name "LinkFault" fp) [a] [] cp)) none pos) c.env) _ _ s from ?_)
  rw [arm_exec_Raise]
  refine wpAny_bind (wpAny_standAt (lf_raiseStmt (C := tp.cls) (D := D) Gd.handled (wpAny_bind (wpAny_mono (wpAny_Call_ofName (lf_name Gd S.inv.keep hg ?_)) (fun v s₃ h₃ => wpAny_bind (wpAny_standAt (wpAny_pure h₃))) fun _ _ x => x))))
  -- the call
  have hplain := trees_plain (env := c.env) (p := cp) (es := [a]) (by rw [List.any_cons, hs]; rfl)
  show wpAny c.M c.A (callWith cp (.ref tp.cls) [] (backTo cp (starEach [a] c.env)) []) _ _ s
  unfold callWith
  cases hp : r.pvE c.sc a lo with
  | fail => exact (hne (bind_fail hp)).elim
  | exc =>
    rw [hp] at h0
    rw [bind_exc hp]
    refine wpAny_bind (wpAny_holding (evalArgs_G (by rw [List.any_cons, hs]; rfl) (one_items hs ?_)))
    exact wpAny_mono (h0 (fun e => by cases e)) (fun _ _ q => q.elim) fun _ _ e => e
  | ok p lo₁ =>
    rw [bind_ok hp] at hne ⊢
    rw [hp] at h0
    cases hl : strLen p with
    | none => rw [hl] at hne; exact (hne rfl).elim
    | some k =>
      refine wpAny_bind (wpAny_holding (evalArgs_G (by rw [List.any_cons, hs]; rfl) (one_items hs (wpAny_mono (h0 (fun e => by cases e)) (fun u s₁ q => ?_) fun _ _ q => q.elim))))
      obtain ⟨W₁, hs₁, S₁, r₁⟩ := q
      refine wpAny_bind (wpAny_standAt ?_)
      have X₁ := X.keeps S₁.inv.keep
      have I₁ := S₁.inv
      have hg₁ := S₁.gens
      have ho₁ := S₁.os
      have hlim := Gd.tops.nolimit.keeps S₁.inv.keep
      have hfr := frames_ok Gd I₁
      simp only [hplain]
      obtain ⟨h₁, g₁, d₁, t₁, os₁⟩ := s₁
      refine wpAny_bind (wpAny_keeperOf_exc X₁.cls ?_)
      refine wpAny_bind (lf_call X₁ (by have := Gd.depth; omega) hlim fun h' t' e tu dx hk hn he => wpAny_bind (wpAny_holding (wpAny_point (wpAny_pure ⟨e, tu, dx, rfl, X₁.keeps hk, he, ?_⟩))))
      have hbase : c.base.get? e = none := by
        cases e0 : c.base.get? e with
        | none => rfl
        | some o => have := I₁.keep _ _ e0; rw [hn] at this; cases this
      have hB : c.x.B.get? e = none := by
        cases e0 : c.x.B.get? e with
        | none => rfl
        | some o => have := Gd.bst _ _ e0; rw [hbase] at this; cases this
      show c.E (.ref e) _
      rw [Gd.hE]
      refine ⟨hg₁, ho₁, fun p hp => ?_, e, rfl, .inl ⟨_, _, .ref tu, he, Gd.xcls.symm, rfl, rfl, rfl, hB, fun b o hb => hk b o (I₁.keep b o (Gd.bst b o hb)), hfr.of_keeps fun b o hb _ => ⟨o, hk b o hb, rfl⟩⟩⟩
      obtain ⟨o, h3, h4⟩ := fp_ok Gd I₁ p hp
      exact ⟨o, hk _ _ h3, h4⟩
end
end Mine
namespace Mine
open PySem PyProof.Rows PySem.W PySem.SeqAt

/-- the frame while it tries -/
noncomputable def Cx.tryN (c : Cx) (h : Heap) (W : Wd) : Cx :=
  { c with base := hideAll h (muts c W.O), Fs := W.F, E := No,
           x := { c.x with B := hideAll h (muts c W.O), Fp := (c.env.locals, fun o => ∃ m, NsP m o) :: (c.cl.map (fun p => (p.2, fun o => ∃ v, CellP v o)) ++ c.X) } }
noncomputable def Cx.trying (c : Cx) (h : Heap) (W : Wd) : Cx := { c.tryN h W with E := Arr (c.tryN h W) }

section
variable {tp : TopP} {c : Cx} {m : Str → Option Value} {cv : Addr → Option Value} {lo : Lo} {W : Wd} {s : Shared} {n : Nat} {r : Ev} {F0 F1 : Led}

theorem Good.trying (Gd : Good tp c n) (I : Inv c lo W m cv s.heap) (ht : c.sc.isCoroutine = false) : Good tp (c.trying s.heap W) n where
  tops := Gd.tops.keeps (hide_stays I.keep I.new)
  kind := Gd.kind
  fnk := Gd.fnk
  gl := Gd.gl
  bl := Gd.bl
  units := Gd.units
  depth := Gd.depth
  handled := Gd.handled
  frames := Gd.frames
  same := Gd.same
  frk := Gd.frk
  frn := Gd.frn
  fps := fun p hp => by
    rcases List.mem_cons.mp hp with rfl | hp
    · exact ⟨fun o sl ⟨m, h⟩ => ⟨m, (NsP.stab m).up o sl h⟩, fun o vs ⟨m, h⟩ => (NsP.stab m).nf o vs h⟩
    · rcases List.mem_append.mp hp with hp | hp
      · obtain ⟨q, _, rfl⟩ := List.mem_map.mp hp
        exact ⟨fun o sl ⟨v, h⟩ => ⟨v, (CellP.stab v).up o sl h⟩, fun o vs ⟨v, h⟩ => (CellP.stab v).nf o vs h⟩
      · exact Gd.tr ht p hp
  fpk := fun p hp => by
    rcases List.mem_cons.mp hp with rfl | hp
    · exact .inr (.inl ⟨rfl, fun m o h => ⟨m, h⟩⟩)
    · rcases List.mem_append.mp hp with hp | hp
      · obtain ⟨q, hq, rfl⟩ := List.mem_map.mp hp
        exact .inr (.inr (.inl ⟨List.mem_map_of_mem hq, fun v o h => ⟨v, h⟩⟩))
      · exact .inl ⟨p.2, hp, fun o h => h⟩
  bst := fun _ _ e => e
  cells := Gd.cells
  pinned := Gd.pinned
  tr := Gd.tr
  xcls := Gd.xcls
  hE := rfl

theorem St.trying (S : St c lo W m cv s) : St (c.trying s.heap W) lo W m cv s := by
  have I := S.rebase.inv
  exact ⟨S.gens, S.os, ⟨I.keep, I.ns, I.cells, I.ext, I.fix, I.own, I.los, I.inj, I.nodup, I.off, I.new, I.sys, I.mods, I.fresh, I.pin⟩⟩

theorem St.untry (S0 : St c lo W m cv s) {lo' : Lo} {W' : Wd} {m' : Str → Option Value} {cv' : Addr → Option Value} {s' : Shared} (S : St (c.trying s.heap W) lo' W' m' cv' s') : St c lo' W' m' cv' s' := by
  have I := S.inv
  have S₁ : St (c.rebase (hideAll s.heap (muts c W.O)) W.F) lo' W' m' cv' s' := ⟨S.gens, S.os, ⟨I.keep, I.ns, I.cells, I.ext, I.fix, I.own, I.los, I.inj, I.nodup, I.off, I.new, I.sys, I.mods, I.fresh, I.pin⟩⟩
  exact (S₁.unbase (hide_stays S0.inv.keep S0.inv.new) S0.inv.sys S0.inv.fresh).1

/-- the frame behind a caught thing: nothing is known of its names -/
theorem St.caught (Gd : Good tp c n) (ht : c.sc.isCoroutine = false) (S : St c lo W m cv s) {h' : Heap} {s' : Shared} (hs : s'.heap = h') (hg : s'.gens = #[]) (ho : s'.os = c.os) (hB : (hideAll s.heap (muts c W.O)).StaysIn h') (hF : FpOk (c.trying s.heap W) h') :
    ∃ m' cv', St c [] ⟨W.F, []⟩ m' cv' s' := by
  subst hs
  have I := S.inv
  obtain ⟨oL, hL, mL, hmL⟩ := hF (c.env.locals, fun o => ∃ m, NsP m o) List.mem_cons_self
  have sub : ∀ a ∈ muts c ([] : Led), a ∈ muts c W.O := fun a ha => mem_of_sub (List.nil_sublist _) ha
  refine ⟨mL, fun a => match s'.heap.get? a with | some o => (match o.data with | .cell v => v | _ => none) | none => none, hg, ho, ?_⟩
  refine ⟨fun b o e => hB b o (hide_stays I.keep I.new b o e), ns_of hL hmL, fun p hp => ?_, fun p hp => ?_, fun p hp => ?_, (fun p hp => nomatch hp), (fun x v e => nomatch e), (fun x y mx my a e => nomatch e), nodup_of_sub (List.nil_sublist _) I.nodup, fun p hp hm => I.off p hp (sub _ hm), fun a ha => I.new a (sub a ha), I.sys, I.mods, I.fresh, fun a ha => ?_⟩
  · obtain ⟨o, h1, v, h2⟩ := hF (p.2, fun o => ∃ v, CellP v o) (List.mem_cons_of_mem _ (List.mem_append_left _ (List.mem_map.mpr ⟨p, hp, rfl⟩)))
    have h2 : o.data = .cell v := h2
    refine ⟨o, h1, ?_⟩
    simp only [h1, h2]
  · exact hF p (List.mem_cons_of_mem _ (List.mem_append_right _ hp))
  · obtain ⟨o, h1, h2⟩ := I.fix p hp
    exact ⟨o, hB _ _ (hideAll_get _ h1 fun hm => I.off p hp hm), h2⟩
  · have := Gd.pinned (by rw [ha]; exact fun e => nomatch e)
    rw [ht] at this; cases this

theorem Try_ok (HS : SoundS tp n r) (Gd : Good tp c n) (S : St c lo W m cv s) (body : List Stmt) (fp kp rp hpos pos : Pos) (kk : Nat) (hg : isGlob c.sc "LinkFault" = true) (ht : c.sc.isCoroutine = false) :
    AtS c W.F (tryR (r.ss c.sc body) lo) (fun Q E s => wpAny c.M c.A (exec (.Try body [.ExceptHandler (some (.Name "LinkFault" fp)) none [.Return (some (.Constant .none kk kp)) rp] hpos] [] [] pos) c.env) Q E s) s := by
  obtain ⟨D, X⟩ := Gd.tops.lf
  intro hne
  have Gt := Gd.trying (s := s) S.inv ht
  have hb := ss_ok HS Gt body S.trying
  rw [show (c.trying s.heap W).sc = c.sc from rfl] at hb
  refine wpAny_Try_except ?_
  unfold tryR at hne ⊢
  cases hr : r.ss c.sc body lo with
  | fail => simp only [hr] at hne; exact (hne trivial).elim
  | ok fl lo' =>
    rw [hr] at hb
    refine wpAny_mono (hb (fun e => by cases e)) (fun f s' q => ?_) fun _ _ e => e.elim
    obtain ⟨W', m', cv', h1, h2, h3⟩ := q
    have S' := S.untry h2
    cases h3 with
    | next => exact wpAny_execs_nil ⟨W', m', cv', h1, S', .next⟩
    | brk => exact ⟨W', m', cv', h1, S', .brk⟩
    | cont => exact ⟨W', m', cv', h1, S', .cont⟩
    | ret h => exact ⟨W', m', cv', h1, S', .ret h⟩
  | exc =>
    rw [hr] at hb
    simp only
    refine wpAny_mono (hb (fun e => by cases e)) (fun f s' q => q.elim) fun e s₁ q => ?_
    have q : Arr (c.trying s.heap W) e s₁ := q
    rw [noteFrame_env (env := c.env) (env' := (c.trying s.heap W).x.fenv) Gd.same]
    refine wpAny_mono (Arr.note Gt (A' := c.A) Gd.frames q) (fun _ s₂ q => ?_) fun _ _ e => e
    refine wpAny_mono (q.landed Gt) (fun _ s₃ q => ?_) fun _ _ e => e
    obtain ⟨g1, g2, g3, a, a0, rfl, k1, k2, k3, k4⟩ := q
    have hk : ∀ b o, c.base.get? b = some o → s₃.heap.get? b = some o := fun b o e => k1 b o (hide_stays S.inv.keep S.inv.new b o e)
    have X₃ := X.keeps hk
    obtain ⟨oe, he, hce⟩ := k4.at.there
    rw [show (c.trying s.heap W).x.cls = c.x.cls from rfl, Gd.xcls] at hce
    refine wpAny_handleBy_cons (codeAny_handlers_test (lf_name Gd hk hg ?_)) (fun e => nomatch e)
    obtain ⟨h₃, gg, dd, tt, oo⟩ := s₃
    refine wpAny_excMatches_sub_self X₃.cls he hce (by simp) ?_
    show codeAny c.M (c.A.mark (some (.ref a))) (.handlers (.ref a) [.ExceptHandler none none [.Return (some (.Constant .none kk kp)) rp] hpos] c.env) _ _
    refine codeAny_handlers_suite (wpAny_setFlight_noneW (base := (c.trying s.heap W).x.B) (l := (c.trying s.heap W).x.frs) k1 k3 k4.at fun h' j1 j2 j3 j4 => ?_)
    refine wpAny_execs_cons (wpAny_Return_some (wpAny_Constant_none ?_))
    obtain ⟨m', cv', S'⟩ := S.caught Gd ht (h' := h') (s' := ⟨h', gg, dd, tt, oo⟩) rfl g1 g2 j1 (FpOk.slots Gt g3 fun b o hb hn => ⟨o.slots, j4 b o hb hn⟩)
    exact ⟨⟨W.F, []⟩, m', cv', Sub.refl _, S', .ret (.pv .none)⟩
end
end Mine
namespace Mine
open PySem PyProof.Rows PySem.W PySem.SeqAt

section
variable {tp : TopP} {c : Cx} {m : Str → Option Value} {cv : Addr → Option Value} {lo : Lo} {W : Wd} {s : Shared} {n : Nat} {r : Ev} {F0 F1 : Led}

/-- a statement is served -/
noncomputable def SOk (c : Cx) (lo : Lo) (W : Wd) (s : Shared) (x : Stmt) (v : R Fl) : Prop := AtS c W.F (v lo) (fun Q E s => wpAny c.M c.A (exec x c.env) Q E s) s
theorem SOk.bad {x : Stmt} : SOk c lo W s x .fail := fun h => (h rfl).elim
noncomputable def FOk (c : Cx) (r : Ev) (lo : Lo) (W : Wd) (s : Shared) (x : Str) (px : Pos) (body : List Stmt) (p : Pos) (it : Expr) (v : R (List PV)) : Prop :=
  AtS c W.F ((v.bind fun items => Ev.forGo x c.sc (r.ss c.sc body) items) lo) (fun Q E s => wpAny c.M c.A (exec (.For (.Name x px) it body [] p) c.env) Q E s) s
theorem For_ok (H : SoundE tp n r) (HS : SoundS tp n r) (Gd : Good tp c n) (S : St c lo W m cv s) (x : Str) (px : Pos) (it : Expr) (body : List Stmt) (p : Pos) : FOk c r lo W s x px body p it (r.iterE c.sc it) := by
  refine ite_or (P := FOk c r lo W s x px body p it) (fun _ h => (h (bind_fail rfl)).elim) fun h7 => ?_
  have g : FOk c r lo W s x px body p it (r.iterG c.sc it) := ForSeq_ok H HS Gd S x px it body p fun _ _ _ e => h7 (by rw [e]; rfl)
  refine xCallN_or (P := FOk c r lo W s x px body p it) (fun f gp as cp e1 => one_or (P := FOk c r lo W s x px body p it) (fun a e2 => ite_or (P := FOk c r lo W s x px body p it) (fun h => ?_) fun _ => g) g) g
  rw [e1, e2, h.1]; exact ForRange_ok H HS Gd S x px gp a cp body p (h.1 ▸ h.2.1) h.2.2

theorem Break_ok (S : St c lo W m cv s) (p : Pos) : AtS c W.F ((R.ret Fl.brk : R Fl) lo) (fun Q E s => wpAny c.M c.A (exec (.Break p) c.env) Q E s) s := fun _ => by
  show wpAny c.M c.A (exec (.Break p) c.env) _ _ s
  have e : exec (.Break p) c.env = (do standAt p; pure .brk) := rfl
  rw [e]
  exact wpAny_bind (wpAny_standAt (wpAny_pure ⟨W, m, cv, Sub.refl _, S, .brk⟩))

theorem RaiseS_ok (H : SoundE tp n r) (Gd : Good tp c (n + 1)) (S : St c lo W m cv s) (e : Expr) (p : Pos) : SOk c lo W s (.Raise (some e) none p) (r.raiseE c.sc e) := by
  refine xCallN_or (P := SOk c lo W s _) (fun f fp as cp e1 => one_or (P := SOk c lo W s _) (fun a e2 => ite_or (P := SOk c lo W s _) (fun h => ?_) fun _ => SOk.bad) SOk.bad) SOk.bad
  rw [e1, e2, h.1]; exact Raise_ok H Gd S fp cp p a (h.1 ▸ h.2.1) h.2.2
theorem ehX_inv {h : ExceptHandler} {x : Str} (e : Ev.ehX h = some x) : ∃ q k q2 q3 q4, h = .ExceptHandler (some (.Name x q)) none [.Return (some (.Constant .none k q2)) q3] q4 := by
  obtain ⟨h1, e⟩ := non_inv sn e
  obtain ⟨s, h2, e⟩ := one_inv sn e
  obtain ⟨v, q3, h3, e⟩ := sReturn_inv sn e
  obtain ⟨v', h4, e⟩ := yes_inv sn e
  obtain ⟨c, k, q2, h5, e⟩ := xConstant_inv sn e
  obtain ⟨h6, e⟩ := cnone_inv sn e
  obtain ⟨t, h7, e⟩ := yes_inv sn e
  obtain ⟨y, q, h8, e⟩ := xName_inv sn e
  cases e
  cases h with
  | ExceptHandler t' n' b' q4 => exact ⟨q, k, q2, q3, q4, by rw [show n' = none from h1, show b' = [s] from h2, show t' = some t from h7, h3, h4, h5, h6, h8]⟩
theorem TryS_ok (HS : SoundS tp n r) (Gd : Good tp c n) (S : St c lo W m cv s) (body : List Stmt) (hs : List ExceptHandler) (p : Pos) : SOk c lo W s (.Try body hs [] [] p) (r.tryE c.sc body hs) := by
  refine one_or (P := SOk c lo W s _) (fun h e1 => yes_or (P := SOk c lo W s _) (fun f e2 => ite_or (P := SOk c lo W s _) (fun hc => ?_) fun _ => SOk.bad) SOk.bad) SOk.bad
  obtain ⟨q, k, q2, q3, q4, e3⟩ := ehX_inv e2
  rw [e1, e3, hc.1]; exact Try_ok HS Gd S body _ _ _ _ _ _ (hc.1 ▸ hc.2.1) hc.2.2
theorem AsgS_ok (H : SoundE tp n r) (Gd : Good tp c n) (S : St c lo W m cv s) (t e : Expr) (p : Pos) : SOk c lo W s (.Assign [t] e p) (r.asgE c.sc t e) := by
  refine xName_or (P := SOk c lo W s _) (fun x px e1 => ?_) fun _ => xSubscript_or (P := SOk c lo W s _) (fun v k q e1 => xName_or (P := SOk c lo W s _) (fun x px e2 => ?_) fun _ => SOk.bad) fun _ => SOk.bad
  · rw [e1]; exact Assign_ok H Gd S _ _ _ _
  · rw [e1, e2]; exact StoreItem_ok H Gd S _ _ _ _ _ _
theorem RetS_ok (H : SoundE tp n r) (Gd : Good tp c n) (S : St c lo W m cv s) (e : Expr) (p : Pos) : SOk c lo W s (.Return (some e) p) (r.retE c.sc e) := by
  have g : SOk c lo W s (.Return (some e) p) (r.retG c.sc e) := Return_ok H Gd S e p
  refine xName_or (P := SOk c lo W s _) (fun x px e1 => ite_or (P := SOk c lo W s _) (fun h => ?_) fun _ => g) fun _ => g
  rw [e1]; exact RetOwn_ok Gd S x px p h.2

theorem sStep_ok (H : SoundE tp n r) (HS : SoundS tp n r) (Gd : Good tp c (n + 1)) (S : St c lo W m cv s) (st : Stmt) : SOk c lo W s st (r.sStep c.sc st) := by
  have Gn := Gd.mono
  refine sAssign_or (P := SOk c lo W s _) (fun ts e p e1 => one_or (P := SOk c lo W s _) (fun t e2 => by rw [e1, e2]; exact AsgS_ok H Gn S t e p) SOk.bad) fun _ => ?_
  refine sAugAssign_or (P := SOk c lo W s _) (fun t op e p e1 => xName_or (P := SOk c lo W s _) (fun x px e2 => ite_or (P := SOk c lo W s _) (fun h => ?_) fun _ => SOk.bad) fun _ => SOk.bad) fun _ => ?_
  · cases op with
    | Add => rw [e1, e2]; exact Aug_ok H Gn S _ _ _ _
    | _ => exact absurd h (by decide)
  refine sIf_or (P := SOk c lo W s _) (fun t b o p e => e ▸ If_ok H HS Gn S t b o p) fun _ => ?_
  refine sFor_or (P := SOk c lo W s _) (fun t it b o p e => nil1_or (P := SOk c lo W s _) (fun e1 => xName_or (P := SOk c lo W s _) (fun x px e2 => by rw [e, e1, e2]; exact For_ok H HS Gn S x px it b p) fun _ => SOk.bad) SOk.bad) fun _ => ?_
  refine sWhile_or (P := SOk c lo W s _) (fun t b o p e => nil1_or (P := SOk c lo W s _) (fun e1 => by rw [e, e1]; exact While_ok H Gn S t b p) SOk.bad) fun _ => ?_
  refine sReturn_or (P := SOk c lo W s _) (fun v p e => yes_or (P := SOk c lo W s _) (fun v' e1 => by rw [e, e1]; exact RetS_ok H Gn S v' p) SOk.bad) fun _ => ?_
  refine sRaise_or (P := SOk c lo W s _) (fun v o p e => non_or (P := SOk c lo W s _) (fun e1 => yes_or (P := SOk c lo W s _) (fun v' e2 => by rw [e, e1, e2]; exact RaiseS_ok H Gd S v' p) SOk.bad) SOk.bad) fun _ => ?_
  refine sTry_or (P := SOk c lo W s _) (fun b hs o f p e => nil1_or (P := SOk c lo W s _) (fun e1 => nil1_or (P := SOk c lo W s _) (fun e2 => by rw [e, e1, e2]; exact TryS_ok HS Gn S b hs p) SOk.bad) SOk.bad) fun _ => ?_
  refine sExpr_or (P := SOk c lo W s _) (fun e p e1 => ite_or (P := SOk c lo W s _) (fun _ => SOk.bad) fun h => by rw [e1]; exact Expr_ok H Gn S e p (Bool.not_eq_true _ ▸ h)) fun _ => ?_
  exact sBreak_or (P := SOk c lo W s _) (fun p e => e ▸ Break_ok S p) fun _ => SOk.bad

/-- the evaluator is sound -/
theorem sound_all {body : List Stmt} (hFD : ∀ g, tp.FD g = findFn g body) (hdbg : tp.FD "__debug__" = none) : ∀ n, SoundE tp n (evN body n) ∧ SoundS tp n (evN body n) ∧ SoundC tp n (evN body n)
  | 0 => ⟨⟨fun _ _ _ h => (h rfl).elim, fun _ _ _ h => (h rfl).elim, fun _ _ _ _ _ _ h => (h (bind_fail rfl)).elim⟩, fun _ _ _ h => (h rfl).elim,
      ⟨hdbg, fun _ _ _ _ => rfl, fun _ _ _ _ _ _ _ _ _ _ _ h => (h (userE_fail rfl _)).elim, fun _ _ _ _ _ _ _ _ _ _ _ _ _ _ h => (h (lendE_fail (fun _ => rfl) _)).elim⟩⟩
  | n + 1 => by
    obtain ⟨H, HS, HC⟩ := sound_all hFD hdbg n
    refine ⟨⟨fun Gd S x => eStep_ok H HC Gd.mono S x, fun Gd S x => bStep_ok H Gd.mono S x, fun Gd S x y py hx => uStep_ok H Gd.mono S x y py hx⟩, fun Gd S st => sStep_ok H HS Gd S st,
      ⟨hdbg, fun g mo ps h => cStep_none (by rw [← hFD]; exact h), fun Gd S _ _ _ _ _ _ hd Fn hr => user_ok HS hFD Gd S hd Fn hr, fun Gd S _ _ _ _ _ _ _ _ hd Fn hr hu => lend_ok HS hFD Gd S hd Fn hr hu⟩⟩
end
end Mine
namespace Mine
open PySem PyProof.Rows PySem.W PySem.SeqAt

/-! ### what it says -/
theorem fnSeen_of {h : Heap} {a : Addr} {c : Value} {fd : FuncData} (e : fnSeen h a = some (c, fd)) : ∃ o, h.get? a = some o ∧ o.cls = c ∧ o.data = .func fd := by
  unfold fnSeen at e
  obtain ⟨o, h1, h2⟩ := Option.bind_eq_some_iff.mp e
  split at h2
  · rename_i q; cases h2; exact ⟨o, h1, rfl, q⟩
  · cases h2
theorem seqSeen_of {h : Heap} {a : Addr} {xs : Array Value} (e : seqSeen h a = some xs) : ∃ o n, h.get? a = some o ∧ o.data = .seq xs n := by
  unfold seqSeen at e
  obtain ⟨o, h1, h2⟩ := Option.bind_eq_some_iff.mp e
  split at h2
  · rename_i q; cases h2; exact ⟨o, _, h1, q⟩
  · cases h2
theorem codeSeen_of {h : Heap} {a : Addr} {q : Str} {t : Tok} (e : codeSeen h a = some (.str q t)) : h.CodeRec (.ref a) q := by
  unfold codeSeen at e
  obtain ⟨o, h1, h2⟩ := Option.bind_eq_some_iff.mp e
  split at h2
  · rename_i d; exact ⟨a, o, _, t, rfl, h1, d, h2⟩
  · cases h2

theorem one_val {vals : List Value} (h : 1 = vals.length) : ∃ a, vals = [a] := List.length_eq_one_iff.mp h.symm
theorem two_vals {vals : List Value} (h : 2 = vals.length) : ∃ a b, vals = [a, b] := by
  cases vals with
  | nil => cases h
  | cons a l =>
    obtain ⟨b, e⟩ := one_val (Nat.succ.inj h)
    exact ⟨a, b, by rw [e]⟩
theorem three_vals {vals : List Value} (h : 3 = vals.length) : ∃ a b c, vals = [a, b, c] := by
  cases vals with
  | nil => cases h
  | cons a l =>
    obtain ⟨b, c, e⟩ := two_vals (Nat.succ.inj h)
    exact ⟨a, b, c, by rw [e]⟩

noncomputable def noneDef (l : List Expr) : Bool := one false l fun e => xConstant false e fun k _ _ => cnone false k true
theorem init_fn {h : Heap} {o : Obj} {ot : Obj} {n : Nat} (ho : h.get? 42 = some o) (hd : o.data = .func fd42) (ht : h.get? 35 = some ot) (hs : ot.data = .seq #[.str "" 221] n) (hc : h.CodeRec (.ref 41) "LinkFault.__init__") :
    FnAt (fun _ => some (.ref 42)) h "__init__" initD 42 fd42 where
  name := rfl
  obj := ⟨o, ho, hd⟩
  scope := rfl
  body := rfl
  closure := rfl
  gl := rfl
  bl := rfl
  code := hc
  co := by kernel_rfl
  gen := by kernel_rfl
  kind := by kernel_rfl
  binds := fun s vals us hk hv => by
    have h2 : initD.params.args.length = 2 := by kernel_rfl
    have hdf : noneDef initD.params.defaults = false := by kernel_rfl
    rcases hv with ⟨e, rfl⟩ | ⟨_, ⟨k, p, q, e, _⟩, _⟩
    · rw [h2] at e
      obtain ⟨a, b, rfl⟩ := two_vals e
      exact BindsTo.of_defaults rfl (hk _ _ ht) hs rfl rfl
    · rw [e] at hdf; cases hdf
  names := by decide +kernel
  args := by decide +kernel

theorem asm_fn {mg : Str → Option Value} {h : Heap} {o : Obj} {ot : Obj} {n : Nat} (hm : mg "assemble" = some (.ref 172)) (ho : h.get? 172 = some o) (hd : o.data = .func fd172) (ht : h.get? 167 = some ot) (hs : ot.data = .seq #[.none] n) (hc : h.CodeRec (.ref 171) "assemble") :
    FnAt mg h "assemble" asmD 172 fd172 where
  name := hm
  obj := ⟨o, ho, hd⟩
  scope := rfl
  body := rfl
  closure := rfl
  gl := rfl
  bl := rfl
  code := hc
  co := by kernel_rfl
  gen := by kernel_rfl
  kind := by kernel_rfl
  binds := fun s vals us hk hv => by
    have h3 : asmD.params.args.length = 3 := by kernel_rfl
    rw [h3] at hv
    rcases hv with ⟨e, rfl⟩ | ⟨e, _, rfl⟩
    · obtain ⟨a, b, c, rfl⟩ := three_vals e
      exact BindsTo.of_defaults rfl (hk _ _ ht) hs rfl rfl
    · obtain ⟨a, b, rfl⟩ := two_vals (Nat.succ.inj e)
      exact BindsTo.of_defaults rfl (hk _ _ ht) hs rfl rfl
  names := by decide +kernel
  args := by decide +kernel

/-- the shape of LinkFault -/
noncomputable def lfD (h : Heap) : LfD :=
  { nm := "LinkFault", q := "LinkFault", N := 44, bs := [.ref 24], A := 24, sn := [], sub := [], ab := false, col := none, dd := none, k0 := some (.ref 28), k1 := none, k2 := some (.str "LinkFault" 209), k3 := some (.str "LinkFault" 217), k5 := some (.bool true),
    mN := h.nsMap 44, c0 := .type "type", dd' := none, cd := cd24, sl := sl24, mA := h.nsMap 23, fI := 42, fd := fd42, d := initD, ps := initPs }
/-- what the run says -/
noncomputable def saysL (h : Heap) : Prop := (∃ D, LfCls h 45 D) ∧ (∀ mg, mg "assemble" = some (.ref 172) → ∃ fd, FnAt mg h "assemble" asmD 172 fd) ∧ ∃ mg, h.Ns mainGlobals mg ∧ mg "LinkFault" = some (.ref 45) ∧ mg "assemble" = some (.ref 172) ∧ ∃ mm, h.Ns sysModules mm
end Mine
namespace Mine
open PySem PyProof.Rows PySem.W PySem.SeqAt

theorem two_of {α : Type} {a b c d : α} (h : [a, b] = [c, d]) : a = c ∧ b = d := by
  injection h with h1 h2; injection h2 with h2 _; exact ⟨h1, h2⟩

theorem says_of {s : Shared} (e : obsL s = valL) : saysL s.heap := by
  have e1 : [s.heap.get? 45, s.heap.get? 24] = [some cls45, some cls24] := congrArg (fun x : SeenL => x.1) e
  have e2 : [fnSeen s.heap 42, fnSeen s.heap 172] = [some (.type "function", fd42), some (.type "function", fd172)] := congrArg (fun x : SeenL => x.2.1) e
  have e3 : [seqSeen s.heap 35, seqSeen s.heap 167] = [some #[.str "" 221], some #[.none]] := congrArg (fun x : SeenL => x.2.2.1) e
  have e4 : [s.heap.isNs 44, s.heap.isNs 23, s.heap.isNs mainGlobals, s.heap.isNs sysModules] = [true, true, true, true] := congrArg (fun x : SeenL => x.2.2.2.1) e
  have e5 : [codeSeen s.heap 41, codeSeen s.heap 171, s.heap.nsMap 44 "__init__", s.heap.nsMap 44 "__setattr__", s.heap.nsMap 44 "what", s.heap.nsMap 23 "__init__", s.heap.nsMap 23 "__setattr__", s.heap.nsMap 23 "what", s.heap.nsMap mainGlobals "LinkFault", s.heap.nsMap mainGlobals "assemble"] =
    [some (.str "LinkFault.__init__" 223), some (.str "assemble" 398), some (.ref 42), none, none, none, none, none, some (.ref 45), some (.ref 172)] := congrArg (fun x : SeenL => x.2.2.2.2) e
  clear e
  obtain ⟨a1, a2⟩ := two_of e1
  obtain ⟨b1, b2⟩ := two_of e2
  obtain ⟨c1, c2⟩ := two_of e3
  injection e4 with d1 e4
  injection e4 with d2 e4
  injection e4 with d3 e4
  injection e4 with d4 _
  injection e5 with f1 e5
  injection e5 with f2 e5
  injection e5 with f3 e5
  injection e5 with f4 e5
  injection e5 with f5 e5
  injection e5 with f6 e5
  injection e5 with f7 e5
  injection e5 with f8 e5
  injection e5 with f9 e5
  injection e5 with f10 _
  obtain ⟨o42, g1, g2, g3⟩ := fnSeen_of b1
  obtain ⟨o172, g4, g5, g6⟩ := fnSeen_of b2
  obtain ⟨o35, n35, g7, g8⟩ := seqSeen_of c1
  obtain ⟨o167, n167, g9, g10⟩ := seqSeen_of c2
  refine ⟨⟨lfD s.heap, ?_⟩, fun mg hm => ⟨fd172, asm_fn hm g4 g6 g9 g10 (codeSeen_of f2)⟩, s.heap.nsMap mainGlobals, .of_isNs d3, f9, f10, _, .of_isNs d4⟩
  exact { cls := a1, ns := .of_isNs d1, init := f3, sa := f4, what := f5, par := a2, pns := .of_isNs d2, pinit := f6, psa := f7, pwhat := f8, fn := init_fn g1 g3 g7 g8 (codeSeen_of f1), fcls := ⟨o42, g1, g2⟩,
          body := by kernel_rfl, pars := by kernel_rfl, len := by kernel_rfl, self := by kernel_rfl, whatl := by kernel_rfl }
theorem says_keeps {h h' : Heap} (x : saysL h) (k : ∀ b o, h.get? b = some o → h'.get? b = some o) : saysL h' :=
  let ⟨⟨D, X⟩, A, mg, h1, h2, h3, mm, h4⟩ := x
  ⟨⟨D, X.keeps k⟩, fun mg hm => let ⟨fd, F⟩ := A mg hm; ⟨fd, F.keeps k⟩, mg, h1.keeps k, h2, h3, mm, h4.keeps k⟩
theorem ns_fn {h : Heap} {a : Addr} {m m' : Str → Option Value} (x : h.Ns a m) (y : h.Ns a m') (n : Str) : m n = m' n := by
  obtain ⟨o, es, ep, h1, h2, _, h3⟩ := x
  obtain ⟨o', es', ep', g1, g2, _, g3⟩ := y
  rw [h1] at g1; cases g1
  rw [h2] at g2; cases g2
  rw [← h3 n, ← g3 n]
end Mine
namespace Mine
open PySem PyProof.Rows PySem.W PySem.SeqAt

theorem zip_lookup {n : Str} {v : Value} : ∀ {ns : List Str} {vs : List Value}, ns.length = vs.length → ns.Nodup → (n, v) ∈ ns.zip vs → (ns.zip vs).lookup n = some v := fun {ns vs} hl h hm =>
  lookup_of_mem (by rw [List.map_fst_zip (by omega)]; exact h) hm
theorem zip_some {n : Str} {ns : List Str} : ∀ {vs : List Value}, ns.length = vs.length → n ∈ ns → ∃ v, (n, v) ∈ ns.zip vs := by
  induction ns with
  | nil => intro vs _ hm; cases hm
  | cons a ns ih =>
    intro vs h hm
    cases vs with
    | nil => cases h
    | cons v vs =>
      rw [List.zip_cons_cons]
      rcases List.mem_cons.mp hm with e | hm
      · exact ⟨v, by rw [e]; exact List.mem_cons_self⟩
      · obtain ⟨v', h'⟩ := ih (vs := vs) (Nat.succ.inj h) hm
        exact ⟨v', List.mem_cons_of_mem _ h'⟩
theorem zip_pick (f : Str → Option Value) {ns : List Str} : ∀ {vs : List Value}, ns.length = vs.length → (∀ p ∈ ns.zip vs, f p.1 = some p.2) → (ns.filterMap fun n => (f n).map (n, ·)) = ns.zip vs := by
  induction ns with
  | nil => intro vs _ _; rfl
  | cons a ns ih =>
    intro vs h hf
    cases vs with
    | nil => cases h
    | cons v vs =>
      rw [List.zip_cons_cons] at hf ⊢
      rw [List.filterMap_cons, hf (a, v) List.mem_cons_self]
      show (a, v) :: _ = _
      rw [ih (vs := vs) (Nat.succ.inj h) fun p hp => hf p (List.mem_cons_of_mem _ hp)]

theorem bind_doc {nm : Str} {ar : List Arg} {kd : List (Option Expr)} {df : List Expr} {body : List Stmt} {sc : Scope} {pm code doc : Value} {vals : List Value}
  (hg : ¬ vals.length > (ar.map (fun x : Arg => x.arg)).length) (hm : (ar.map (fun x : Arg => x.arg)).filter (fun n => (((ar.map (fun x : Arg => x.arg)).zip vals).lookup n).isNone) = []) :
  bindArgs (PySem.Calls.docDef nm ⟨[], ar, none, [], kd, none, df⟩ body sc pm code doc) ⟨vals, []⟩ = pure (((ar.map (fun x : Arg => x.arg)) ++ []).filterMap fun n => (((ar.map (fun x : Arg => x.arg)).zip vals).lookup n).map (n, ·)) := by
  refine Eq.trans (b := if (decide (vals.length > (ar.map (fun x : Arg => x.arg)).length) && (none : Option Arg).isNone) = true then _ else _) rfl ((if_neg (fun h => hg (of_decide_eq_true (Bool.and_eq_true_iff.mp h).1))).trans ?_)
  refine (if_neg ?_).trans ?_
  · show ¬ (!(List.filter _ (List.take ((ar.map (fun x : Arg => x.arg)).length - (List.drop (0 - (ar.map (fun x : Arg => x.arg)).length) ([] : List Value)).length) (ar.map (fun x : Arg => x.arg)))).isEmpty) = true
    rw [List.drop_nil, show (ar.map (fun x : Arg => x.arg)).length - ([] : List Value).length = (ar.map (fun x : Arg => x.arg)).length from rfl, List.take_length]
    intro h
    have h : (!((ar.map (fun x : Arg => x.arg)).filter (fun n => (((ar.map (fun x : Arg => x.arg)).zip vals).lookup n).isNone)).isEmpty) = true := h
    rw [hm] at h
    cases h
  · show Sem.bind (forIn (List.zip (List.drop ((ar.map (fun x : Arg => x.arg)).length - (List.drop (0 - (ar.map (fun x : Arg => x.arg)).length) ([] : List Value)).length) (ar.map (fun x : Arg => x.arg))) (List.drop (0 - (ar.map (fun x : Arg => x.arg)).length) ([] : List Value))) _ _) _ = _
    rw [List.drop_nil, List.zip_nil_right]
    rfl
/-- a def of plain names -/
theorem bind_plain {nm : Str} {p : Arguments} {body : List Stmt} {sc : Scope} {pm code doc : Value} {vals : List Value} (h1 : p.posonlyargs = []) (h2 : p.vararg = none) (h3 : p.kwonlyargs = []) (h4 : p.kwarg = none)
    (hn : (Ev.argNames p).Nodup) (hl : p.args.length = vals.length) : bindArgs (PySem.Calls.docDef nm p body sc pm code doc) ⟨vals, []⟩ = pure ((Ev.argNames p).zip vals) := by
  have hlen : (Ev.argNames p).length = vals.length := by unfold Ev.argNames; rw [List.length_map]; exact hl
  have hmiss : (Ev.argNames p).filter (fun n => (((Ev.argNames p).zip vals).lookup n).isNone) = [] := by
    rw [List.filter_eq_nil_iff]
    intro n hm
    obtain ⟨v, hv⟩ := zip_some hlen hm
    rw [zip_lookup hlen hn hv]; simp
  have hpick := zip_pick (fun n => ((Ev.argNames p).zip vals).lookup n) hlen fun p hp => zip_lookup hlen hn (v := p.2) hp
  obtain ⟨po, ar, va, ko, kd, kw, df⟩ := p
  cases h1; cases h2; cases h3; cases h4
  rw [bind_doc (by rw [← hlen]; exact Nat.lt_irrefl _) hmiss, List.append_nil]
  exact congrArg _ hpick

/-- what is asked of a def -/
noncomputable def okDef (d : FnDef) : Bool :=
  d.params.posonlyargs.isEmpty && d.params.vararg.isNone && d.params.kwonlyargs.isEmpty && d.params.kwarg.isNone && d.params.defaults.isEmpty && !d.scope.isCoroutine && !d.scope.isGenerator && decide (d.scope.kind = .function) &&
    decide (d.scope.names.map (·.1)).Nodup && decide (Ev.argNames d.params).Nodup && (Ev.argNames d.params).all fun x => decide (d.scope.names.lookup x = some .local ∨ d.scope.names.lookup x = some .cell)
noncomputable def ofRec (r : DefRec) : FnDef := ⟨r.name, r.params, r.body, r.scope⟩

theorem doc_fn {mg : Str → Option Value} {h : Heap} {d : FnDef} {a : Addr} {o : Obj} {pm code doc : Value} (hok : okDef d = true) (hm : mg d.name = some (.ref a)) (ho : h.get? a = some o) (hd : o.data = .func (PySem.Calls.docDef d.name d.params d.body d.scope pm code doc)) (hc : h.CodeRec code d.name) :
    FnAt mg h d.name d a (PySem.Calls.docDef d.name d.params d.body d.scope pm code doc) := by
  unfold okDef at hok
  simp only [Bool.and_eq_true, List.isEmpty_iff, Option.isNone_iff_eq_none, Bool.not_eq_true', decide_eq_true_eq, List.all_eq_true] at hok
  obtain ⟨⟨⟨⟨⟨⟨⟨⟨⟨⟨k1, k2⟩, k3⟩, k4⟩, k5⟩, k6⟩, k7⟩, k8⟩, k9⟩, k10⟩, k11⟩ := hok
  exact { name := hm, obj := ⟨o, ho, hd⟩, scope := rfl, body := rfl, closure := rfl, gl := rfl, bl := rfl, code := hc, co := k6, gen := k7, kind := k8, names := k9, args := ⟨k10, k11⟩,
          binds := fun s vals us hk hv => by
            rcases hv with ⟨e, rfl⟩ | ⟨_, ⟨k, p, q, e, _⟩, _⟩
            · exact BindsTo.of_eq (bind_plain k1 k2 k3 k4 k10 e)
            · rw [k5] at e; cases e }

theorem findFn_mem {g : Str} {d : FnDef} {l : List Stmt} : findFn g l = some d → d ∈ l.filterMap fnOfStmt ∧ d.name = g := by
  induction l with
  | nil => exact fun h => nomatch h
  | cons st r ih =>
    intro h
    unfold findFn at h
    rw [List.filterMap_cons]
    cases e : fnOfStmt st with
    | none => rw [e] at h; exact ih h
    | some d' =>
      rw [e] at h
      dsimp only at h ⊢
      by_cases hn : d'.name = g
      · rw [if_pos hn] at h; rw [← Option.some.inj h]; exact ⟨List.mem_cons_self, hn⟩
      · rw [if_neg hn] at h; obtain ⟨h1, h2⟩ := ih h; exact ⟨List.mem_cons_of_mem _ h1, h2⟩

theorem defs_eq : (bodyL.filterMap fnOfStmt).filter (fun d => d.name != ("assemble" : Str)) = (recsOf viewL).map ofRec := by kernel_rfl
theorem defs_asm : (bodyL.filterMap fnOfStmt).filter (fun d => d.name == ("assemble" : Str)) = [asmD] := by kernel_rfl
theorem defs_ok : ((recsOf viewL).map ofRec).all okDef = true := by kernel_rfl

noncomputable def tpL (mg mb : Str → Option Value) : TopP := ⟨mg, mb, fun g => findFn g bodyL, 45⟩

theorem tops_of {mean : ExcName → Option Value} {mg mb : Str → Option Value} {h : Heap} (T : Top viewL (looseW viewL looseL) mean mg mb h) (X : saysL h) : Tops (tpL mg mb) h := by
  obtain ⟨XD, XA, mg', hns, n1, n2, _⟩ := X
  have hg : ∀ n, mg n = mg' n := fun n => ns_fn T.g hns n
  refine ⟨T.g, T.b, T.nolimit, fun x hx => ⟨T.free x ?_ ?_ ?_ ?_ ?_, T.builtins x ?_⟩, fun x p e => ?_, fun g d e => ?_, (hg _).trans n1, XD⟩
  · revert x; decide +kernel
  · revert x; decide +kernel
  · revert x; decide +kernel
  · revert x; decide +kernel
  · revert x; decide +kernel
  · revert x; decide +kernel
  · have key : ∀ (y : Str) (k : Int), valOf viewL y = some (.int k) → ∃ i t, mg y = some (.int i t) ∧ PV.int k = .int i := fun y k hv => by
      obtain ⟨v, h1, h2⟩ := T.const y _ hv
      have h2 := h2 h
      cases h2 with
      | int i t => exact ⟨_, t, h1, rfl⟩
    unfold gconst at e
    split at e
    · rename_i hx; subst hx; cases e; exact key _ 4 (by kernel_rfl)
    · split at e
      · rename_i hx; subst hx; cases e; exact key _ 5 (by kernel_rfl)
      · split at e
        · rename_i hx; subst hx; cases e; exact key _ 2 (by kernel_rfl)
        · cases e
  · obtain ⟨hm, rfl⟩ := findFn_mem (l := bodyL) e
    by_cases ha : d.name = "assemble"
    · have : d ∈ (bodyL.filterMap fnOfStmt).filter (fun d => d.name == ("assemble" : Str)) := List.mem_filter.mpr ⟨hm, by simpa using ha⟩
      rw [defs_asm, List.mem_singleton] at this
      subst this
      obtain ⟨fd, F⟩ := XA mg ((hg _).trans n2)
      exact ⟨172, fd, by rw [ha]; exact F⟩
    · have : d ∈ (bodyL.filterMap fnOfStmt).filter (fun d => d.name != ("assemble" : Str)) := List.mem_filter.mpr ⟨hm, by simpa using ha⟩
      rw [defs_eq] at this
      have hok := List.all_eq_true.mp defs_ok d this
      obtain ⟨r, hr, rfl⟩ := List.mem_map.mp this
      obtain ⟨a, o, pm, code, doc, h1, h2, h3, h4⟩ := T.fn r hr
      exact ⟨a, _, doc_fn (d := ofRec r) hok h1 h2 h3 h4⟩
end Mine
namespace Mine
open PySem PyProof.Rows PySem.W PySem.SeqAt

noncomputable def lawD : FnDef := (findFn "law" bodyL).getD default
noncomputable def lawLo (ns : List Int) : Lo := setLo (Ev.lo0 lawD.scope.names) "script" (.pv (.lst (ns.map .int)))
/-- the law's frame -/
noncomputable def lawN (w : World) (s : Shared) (env : Env) (F : Led) : Cx :=
  { prog := pwL, w, base := s.heap, os := s.os, sc := lawD.scope, env, cl := [], X := [], A := callerA.deeper env, E := No, x := { B := s.heap, Fp := [], cls := .ref 45, fenv := env, outer := [] }, Fs := F, la := none }
noncomputable def lawC (w : World) (s : Shared) (env : Env) (F : Led) : Cx := { lawN w s env F with E := Arr (lawN w s env F) }

theorem ints_rep : ∀ {ns : List Int} {vs : List Value} {P : Params} {h : Heap} {F : Led}, WellAll P h vs (ns.map fun i => WData.int i) → VReps F vs (ns.map .int)
  | [], _, _, _, _, .nil => .nil
  | i :: ns, _, _, _, _, .cons h r => by
    cases h
    exact .cons (.int _ _) (ints_rep r)

theorem law_good {w : World} {s₁ : Shared} {mean : ExcName → Option Value} {mg mb : Str → Option Value} (T : Top viewL (looseW viewL looseL) mean mg mb s₁.heap) (X : saysL s₁.heap) {name : Str} {L a : Addr} {cd : Value} {F : Led} :
    Good (tpL mg mb) (lawC w s₁ (envOf name lawD.scope L a cd) F) 300 where
  tops := tops_of T X
  kind := fun x => .inl rfl
  fnk := by show lawD.scope.kind = .function; kernel_rfl
  gl := rfl
  bl := rfl
  units := by show callerA.units + 3 + 4 * 300 + 200 < cLine; decide +kernel
  depth := by show callerA.depth + 1 + 300 < recursionLimit; decide +kernel
  handled := rfl
  frames := rfl
  same := rfl
  frk := fun e he => by
    obtain rfl : e = envOf name lawD.scope L a cd := by
      have he : e ∈ [envOf name lawD.scope L a cd] := he
      simpa using he
    refine ⟨?_, L, rfl, .inl rfl⟩
    show lawD.scope.kind ≠ .module
    rw [show lawD.scope.kind = .function by kernel_rfl]; decide
  frn := by
    show [L].Nodup
    exact List.nodup_cons.mpr ⟨List.not_mem_nil, List.nodup_nil⟩
  fps := fun p hp => nomatch hp
  fpk := fun p hp => nomatch hp
  bst := fun _ _ e => e
  cells := fun x hx => by
    have key : lawD.scope.names.all (fun p => decide (p.2 ≠ .cell)) = true := by kernel_rfl
    have := List.all_eq_true.mp key _ (mem_of_lookup (show lawD.scope.names.lookup x = some .cell from hx))
    simp at this
  hE := rfl
  pinned := fun h => absurd rfl h
  tr := fun _ p hp => nomatch hp
  xcls := rfl

theorem law_st {w : World} {s₁ s : Shared} {mean : ExcName → Option Value} {mg mb : Str → Option Value} (T : Top viewL (looseW viewL looseL) mean mg mb s₁.heap) {l : Addr} {vs : List Value} {ns : List Int}
    (hl : s₁.heap.get? l = some { cls := .type "list", data := .seq vs.toArray }) (hv : VReps [(l, FO.lst vs)] vs (ns.map .int)) {name : Str} {L a : Addr} {cd : Value} {m : Str → Option Value}
    (Fr : Fr s₁.heap L s.heap m) (hm : m "script" = some (.ref l)) (hsys : s₁.heap.get? sysModules ≠ none) (hne : l ≠ sysModules) (hg : s.gens = #[]) (ho : s.os = s₁.os) :
    St (lawC w s₁ (envOf name lawD.scope L a cd) [(l, .lst vs)]) (lawLo ns) ⟨[(l, .lst vs)], []⟩ m (fun _ => none) s := by
  have hLn : s₁.heap.get? L = none := by
    cases e : s₁.heap.get? L with
    | none => rfl
    | some o => exact absurd (Heap.lt_size e) (Nat.not_lt.mpr Fr.above)
  have hlL : l ≠ L := fun e => by rw [e, hLn] at hl; cases hl
  refine ⟨hg, ho, fun b o e => Fr.keep b o e, Fr.ns, (fun p hp => nomatch hp), (fun p hp => nomatch hp), fun p hp => ?_, (fun p hp => nomatch hp), fun x v e => ?_, fun x y mx my _ e => ?_, ?_, fun p hp => ?_, fun b hb => ?_, hsys, fun p hp => ?_, fun p hp => .inl hp, (fun a ha => nomatch ha)⟩
  · rw [List.mem_singleton.mp hp]
    exact ⟨_, Fr.keep _ _ hl, 0, rfl⟩
  · rcases getLo_set_cases e with ⟨rfl, rfl⟩ | ⟨_, h⟩
    · refine ⟨.ref l, .inl ⟨?_, hm⟩, .pv (.lst (vs := vs) List.mem_cons_self hv)⟩
      show lawD.scope.names.lookup ("script" : Str) = some NameKind.local
      kernel_rfl
    · rw [lo0_none] at h; cases h
  · rcases getLo_set_cases e with ⟨_, h⟩ | ⟨_, h⟩
    · cases h
    · rw [lo0_none] at h; cases h
  · show [L].Nodup
    exact List.nodup_cons.mpr ⟨List.not_mem_nil, List.nodup_nil⟩
  · rw [List.mem_singleton.mp hp]
    show l ∉ [L]
    simpa using hlL
  · have hb : b ∈ [L] := hb
    rw [List.mem_singleton.mp hb]; exact hLn
  · rw [List.mem_singleton.mp hp]; exact hne

theorem fd_dbg {mg mb : Str → Option Value} : (tpL mg mb).FD "__debug__" = none := by
  show findFn "__debug__" bodyL = none
  kernel_rfl

theorem of_ints (ns : List Int) : ofPy (PyData.list (ns.map PyData.int)) = .list (ns.map fun i => WData.int i) := by
  show WData.list (ofPys (ns.map PyData.int)) = _
  rw [ofPys_eq, List.map_map]
  rfl
/-- the law's run, by the evaluator -/
theorem law_entry {w : World} {s₁ s : Shared} {mean : ExcName → Option Value} {mg mb : Str → Option Value} (T : Top viewL (looseW viewL looseL) mean mg mb s₁.heap) (X : saysL s₁.heap) {l : Addr} {ns : List Int} {P : Params}
    (hw : Well P s₁.heap (.ref l) (ofPy (PyData.list (ns.map PyData.int)))) {name : Str} {L a : Addr} {cd : Value} {m : Str → Option Value}
    (F : Fr s₁.heap L s.heap m) (hm : m "script" = some (.ref l)) (hg : s.gens = #[]) (ho : s.os = s₁.os) {lo' : Lo}
    (hrun : (evN bodyL 300).ss lawD.scope lawD.body (lawLo ns) = .ok (.ret (.pv (.bool true))) lo') {Q : Flow → Shared → Prop} {E : Value → Shared → Prop}
    (hQ : ∀ s' m', Fr s₁.heap L s'.heap m' → s'.gens = #[] → s'.os = s₁.os → Q (.ret (.bool true)) s') :
    wpAny (model pwL w) (callerA.deeper (envOf name lawD.scope L a cd)) (execs lawD.body (envOf name lawD.scope L a cd)) Q E s := by
  rw [of_ints] at hw
  cases hw with
  | @list _ vs _ hl hv =>
    obtain ⟨_, _, _, _, _, _, mm, om, esm, epm, hom, hdm, _⟩ := id X
    have hsys : s₁.heap.get? sysModules ≠ none := by rw [hom]; exact fun e => nomatch e
    have hne : l ≠ sysModules := fun e => by rw [e, hom] at hl; cases hl; cases hdm
    obtain ⟨H, HS, HC⟩ := sound_all (tp := tpL mg mb) (body := bodyL) (fun g => rfl) fd_dbg 300
    have Gd := law_good (w := w) (name := name) (L := L) (a := a) (cd := cd) (F := [(l, .lst vs)]) T X
    have S := law_st (w := w) (name := name) (a := a) (cd := cd) T hl (ints_rep hv) F hm hsys hne hg ho
    have := ss_ok HS Gd lawD.body S (fun e => by rw [show (lawC w s₁ (envOf name lawD.scope L a cd) [(l, .lst vs)]).sc = lawD.scope from rfl, hrun] at e; cases e)
    rw [show (lawC w s₁ (envOf name lawD.scope L a cd) [(l, .lst vs)]).sc = lawD.scope from rfl, hrun] at this
    refine wpAny_mono this (fun f s' q => ?_) fun _ _ e => e.elim
    obtain ⟨W', m', cv', _, S', rf⟩ := q
    cases rf with
    | ret h =>
      cases h with
      | pv h =>
        cases h
        exact hQ s' m' ⟨S'.inv.ns, S'.inv.keep, F.above⟩ S'.gens S'.os
end Mine
namespace Mine
open PySem

/-! ### accessors -/
noncomputable def nth (l : List Stmt) (i : Nat) : Stmt := l.getD i (.Pass default)
noncomputable def eth (l : List Expr) (i : Nat) : Expr := l.getD i (.Tuple [] 0 default)
noncomputable def testOf (s : Stmt) : Expr := sIf dE s fun t _ _ _ => t
noncomputable def thenOf (s : Stmt) : List Stmt := sIf [] s fun _ b _ _ => b
noncomputable def elseOf (s : Stmt) : List Stmt := sIf [] s fun _ _ b _ => b
noncomputable def isIf (s : Stmt) : Bool := sIf false s fun _ _ _ _ => true
theorem isIf_inv {s : Stmt} (h : isIf s = true) : ∃ t b o p, s = .If t b o p ∧ true = true := sIf_inv tf h
noncomputable def notName (e : Expr) : Bool := xName true e fun _ _ => false
noncomputable def valOf (s : Stmt) : Expr := sAssign (sReturn (sExpr dE s fun e _ => e) s fun v _ => v.getD dE) s fun _ e _ => e
noncomputable def asgX (s : Stmt) : Option Str := sAssign none s fun ts _ _ => one none ts fun t => xName none t fun x _ => some x
theorem asgX_inv {s : Stmt} {x : Str} (h : asgX s = some x) : ∃ px e p, s = .Assign [.Name x px] e p := by
  obtain ⟨ts, e, p, h1, h⟩ := sAssign_inv sn h
  obtain ⟨t, h2, h⟩ := one_inv sn h
  obtain ⟨y, px, h3, h⟩ := xName_inv sn h
  cases h
  exact ⟨px, e, p, by rw [h1, h2, h3]⟩
noncomputable def subX (s : Stmt) : Option Str := sAssign none s fun ts _ _ => one none ts fun t => xSubscript none t fun v _ _ => xName none v fun x _ => some x
noncomputable def subK (s : Stmt) : Expr := sAssign dE s fun ts _ _ => one dE ts fun t => xSubscript dE t fun _ k _ => k
theorem subX_inv {s : Stmt} {x : Str} (h : subX s = some x) : ∃ px k q e p, s = .Assign [.Subscript (.Name x px) k q] e p := by
  obtain ⟨ts, e, p, h1, h⟩ := sAssign_inv sn h
  obtain ⟨t, h2, h⟩ := one_inv sn h
  obtain ⟨v, k, q, h3, h⟩ := xSubscript_inv sn h
  obtain ⟨y, px, h4, h⟩ := xName_inv sn h
  cases h
  exact ⟨px, k, q, e, p, by rw [h1, h2, h3, h4]⟩
noncomputable def isRet (s : Stmt) : Bool := sReturn false s fun v _ => yes false v notName
theorem isRet_inv {s : Stmt} (h : isRet s = true) : ∃ e p, notName e = true ∧ s = .Return (some e) p := by
  obtain ⟨v, p, h1, h⟩ := sReturn_inv tf h
  obtain ⟨e, h2, h⟩ := yes_inv tf h
  exact ⟨e, p, h, by rw [h1, h2]⟩
noncomputable def isEx (s : Stmt) : Bool := sExpr false s fun e _ => !Ev.isComp e
theorem isEx_inv {s : Stmt} (h : isEx s = true) : ∃ e p, Ev.isComp e = false ∧ s = .Expr e p := by
  obtain ⟨e, p, h1, h⟩ := sExpr_inv tf h
  exact ⟨e, p, Bool.not_eq_true' _ ▸ h, h1⟩
noncomputable def forX (s : Stmt) : Option Str := sFor none s fun t _ _ o _ => xName none t fun x _ => nil1 none o (some x)
theorem forX_inv {s : Stmt} {x : Str} (h : forX s = some x) : ∃ px it b p, s = .For (.Name x px) it b [] p := by
  obtain ⟨t, it, b, o, p, h1, h⟩ := sFor_inv sn h
  obtain ⟨y, px, h2, h⟩ := xName_inv sn h
  obtain ⟨h3, h⟩ := nil1_inv sn h
  cases h
  exact ⟨px, it, b, p, by rw [h1, h2, h3]⟩
noncomputable def iterOf (s : Stmt) : Expr := sFor dE s fun _ it _ _ _ => it
noncomputable def bodyOf (s : Stmt) : List Stmt := sFor (sTry [] s fun b _ _ _ _ => b) s fun _ _ b _ _ => b
noncomputable def setOk (sc : Scope) (x : Str) : Bool := decide ((isLocal sc x ∨ sc.names.lookup x = some .cell) ∧ ¬ (x = figs ∧ sc.isCoroutine = true))

/-! ### what a run ends in -/
noncomputable def Wm {α : Type} (x : Res α) (Q : α → Lo → Prop) (X : Prop) : Prop := match x with
  | .ok a lo => Q a lo
  | .exc => X
  | .fail => False
structure W {α : Type} (x : Res α) (Q : α → Lo → Prop) (X : Prop) : Prop where
  go : Wm x Q X
noncomputable abbrev T := evN bodyL
noncomputable def te (k : Nat) : Scope → Expr → R LV := (T k).e
noncomputable def tb (k : Nat) : Scope → Expr → R Bool := (T k).b
noncomputable def ts (k : Nat) : Scope → Stmt → R Fl := (T k).s
noncomputable def tc (k : Nat) : Str → Option MO → List PV → CRes := (T k).c
variable {α β : Type} {x y : Res α} {Q Q' : α → Lo → Prop} {X : Prop} {lo lo' : Lo} {a : α}
theorem W.ok (h : x = .ok a lo) (q : Q a lo) : W x Q X := by rw [h]; exact ⟨q⟩
theorem W.raise (h : x = .exc) (q : X) : W x Q X := by rw [h]; exact ⟨q⟩
theorem W.to (h : x = y) (q : W y Q X) : W x Q X := by rw [h]; exact q
theorem W.imp {X' : Prop} (h : W x Q X) (f : ∀ a lo, Q a lo → Q' a lo) (g : X → X') : W x Q' X' := by
  cases x with
  | ok a lo => exact ⟨f _ _ h.1⟩
  | exc => exact ⟨g h.1⟩
  | fail => exact h.1.elim
theorem W.mono (h : W x Q X) (f : ∀ a lo, Q a lo → Q' a lo) : W x Q' X := h.imp f id
theorem W.bind {m : R α} {f : α → R β} {Q : β → Lo → Prop} (h : W (m lo) (fun v lo' => W (f v lo') Q X) X) : W (R.bind m f lo) Q X := by
  unfold R.bind
  cases e : m lo with
  | ok a l => rw [e] at h; exact h.1
  | exc => rw [e] at h; exact ⟨h.1⟩
  | fail => rw [e] at h; exact ⟨h.1⟩
theorem W.get (h : W x (fun v l => v = a ∧ l = lo) False) : x = .ok a lo := by
  cases x with
  | ok b l => obtain ⟨rfl, rfl⟩ := h.1; rfl
  | exc => exact h.1.elim
  | fail => exact h.1.elim
theorem W.exc (h : W x (fun _ _ => False) True) : x = .exc := by
  cases x with
  | ok b l => exact h.1.elim
  | exc => rfl
  | fail => exact h.1.elim

/-! ### statements -/
noncomputable def K (k : Nat) (sc : Scope) (rest : List Stmt) (Q : Fl → Lo → Prop) (X : Prop) : Fl → Lo → Prop
  | .next, lo => W ((T k).ss sc rest lo) Q X
  | f, lo => Q f lo
theorem K.next {k : Nat} {sc : Scope} {rest : List Stmt} {Q : Fl → Lo → Prop} {X : Prop} {lo : Lo} (h : W ((T k).ss sc rest lo) Q X) : K k sc rest Q X .next lo := h
section
variable {k : Nat} {sc : Scope} {l : List Stmt} {Q : Fl → Lo → Prop} {i : Nat}
theorem W.at (hi : decide (i < l.length) = true) (h : W (ts k sc (nth l i) lo) (K k sc (l.drop (i + 1)) Q X) X) : W ((T k).ss sc (l.drop i) lo) Q X := by
  have hi := of_decide_eq_true hi
  have e : l.drop i = nth l i :: l.drop (i + 1) := by
    rw [List.drop_eq_getElem_cons hi]
    simp [nth, List.getD, hi]
  rw [e]
  refine W.bind (W.mono h fun f lo' q => ?_)
  cases f <;> first | exact q | exact ⟨q⟩
theorem nth_len (P : Stmt → Bool) (h0 : P (.Pass default) = false) (h : P (nth l i) = true) : decide (i < l.length) = true := by
  by_cases e : i < l.length
  · exact decide_eq_true e
  · rw [nth, List.getD_eq_getElem?_getD, List.getElem?_eq_none (Nat.le_of_not_lt e)] at h; rw [show (none : Option Stmt).getD (.Pass default) = .Pass default from rfl, h0] at h; cases h
theorem W.fix {lo' : Lo} (h : lo = lo') (q : W ((T k).ss sc l lo') Q X) : W ((T k).ss sc l lo) Q X := by rw [h]; exact q
theorem W.pur {lo' : Lo} (hi : decide (i < l.length) = true) (h : ts k sc (nth l i) lo = .ok .next lo') (q : W ((T k).ss sc (l.drop (i + 1)) lo') Q X) : W ((T k).ss sc (l.drop i) lo) Q X :=
  W.at hi (W.ok h q)
theorem W.out {f : Fl} {lo' : Lo} (hi : decide (i < l.length) = true) (h : ts k sc (nth l i) lo = .ok f lo') (hf : f ≠ .next) (q : Q f lo') : W ((T k).ss sc (l.drop i) lo) Q X :=
  W.at hi (W.ok h (by cases f <;> first | exact q | exact absurd rfl hf))
theorem W.nil (h : decide (l.length ≤ i) = true) (q : Q .next lo) : W ((T k).ss sc (l.drop i) lo) Q X := by
  rw [List.drop_of_length_le (of_decide_eq_true h)]
  exact ⟨q⟩
theorem W.iff {c : Bool} {lo' : Lo} (hi : isIf (nth l i) = true) (hb : tb k sc (testOf (nth l i)) lo = .ok c lo')
    (h : W ((T k).ss sc ((if c then thenOf (nth l i) else elseOf (nth l i)).drop 0) lo') (K (k + 1) sc (l.drop (i + 1)) Q X) X) : W ((T (k + 1)).ss sc (l.drop i) lo) Q X := by
  refine W.at (nth_len isIf rfl hi) ?_
  obtain ⟨t, b, o, p, e, _⟩ := isIf_inv hi
  rw [e] at hb h ⊢
  show W (R.bind (tb k sc t) _ lo) _ _
  refine W.bind (W.ok hb ?_)
  cases c <;> exact h
theorem setVar_of {x : Str} {v : LV} {lo : Lo} (hx : setOk sc x = true) : Ev.setVar sc x v lo = .ok () (setLo lo x v) := by
  unfold Ev.setVar
  rw [if_pos (of_decide_eq_true hx)]
theorem W.asg {x : Str} (hi : asgX (nth l i) = some x) (hx : setOk sc x = true)
    (h : W (te k sc (valOf (nth l i)) lo) (fun v lo' => W ((T (k + 1)).ss sc (l.drop (i + 1)) (setLo lo' x v)) Q X) X) : W ((T (k + 1)).ss sc (l.drop i) lo) Q X := by
  refine W.at (nth_len (fun s => (asgX s).isSome) rfl (by rw [hi]; rfl)) ?_
  obtain ⟨px, e, p, e⟩ := asgX_inv hi
  rw [e] at h ⊢
  show W (R.bind (te k sc _) _ lo) _ _
  exact W.bind (W.mono h fun v lo' q => W.bind (W.ok (setVar_of hx) ⟨q⟩))
theorem ret_not {e : Expr} {p : Pos} (h : notName e = true) : ts (k + 1) sc (.Return (some e) p) lo = (((T k).pvE sc e).bind fun v => .ret (.ret (.pv v))) lo :=
  congrFun (xName_or (P := fun v : R Fl => v = (T k).retG sc e) (fun x q e1 => by rw [e1] at h; cases h) fun _ => rfl) lo
theorem W.rtn (hi : isRet (nth l i) = true)
    (h : W (te k sc (valOf (nth l i)) lo) (fun v lo' => Q (.ret (.pv v.toPV)) lo') X) : W ((T (k + 1)).ss sc (l.drop i) lo) Q X := by
  refine W.at (nth_len isRet rfl hi) ?_
  obtain ⟨e, p, hn, q⟩ := isRet_inv hi
  rw [q] at h ⊢
  refine W.to (ret_not hn) ?_
  exact W.bind (W.bind (W.mono h fun v lo' q => ⟨⟨q⟩⟩))
theorem W.exp (hi : isEx (nth l i) = true)
    (h : W (te k sc (valOf (nth l i)) lo) (fun v lo' => v.toPV = .none ∧ W ((T (k + 1)).ss sc (l.drop (i + 1)) lo') Q X) X) : W ((T (k + 1)).ss sc (l.drop i) lo) Q X := by
  refine W.at (nth_len isEx rfl hi) ?_
  obtain ⟨e, p, hi, q⟩ := isEx_inv hi
  rw [q] at h ⊢
  show W ((if Ev.isComp e then _ else _ : R Fl) lo) _ _
  rw [hi]
  refine W.bind (W.bind (W.mono h fun v lo' q => ⟨?_⟩))
  show W ((if isNoneV v.toPV = true then R.ret Fl.next else R.fail) lo') _ _
  rw [q.1]
  exact ⟨q.2⟩
theorem W.sub {x : Str} (hi : subX (nth l i) = some x) (hx : isLocal sc x = true)
    (h : W (te k sc (valOf (nth l i)) lo) (fun v lo' => ∃ m kp m', getLo lo' x = some (.own m) ∧ (T k).pvE sc (subK (nth l i)) lo' = .ok kp lo' ∧ Ev.putItem m kp v.toPV = some m' ∧ W ((T (k + 1)).ss sc (l.drop (i + 1)) (setLo lo' x (.own m'))) Q X) X) : W ((T (k + 1)).ss sc (l.drop i) lo) Q X := by
  refine W.at (nth_len (fun s => (subX s).isSome) rfl (by rw [hi]; rfl)) ?_
  obtain ⟨px, kk, p1, e, p2, q⟩ := subX_inv hi
  rw [q] at h ⊢
  show W (R.bind ((T k).pvE sc _) _ lo) _ _
  refine W.bind (W.bind (W.mono h fun v lo' q => ⟨?_⟩))
  obtain ⟨m, kp, m', h1, h2, h3, h4⟩ := q
  show W ((if _ then _ else _ : R Fl) lo') _ _
  rw [if_pos hx]
  show W (Ev.ownAny _ _ lo') _ _
  unfold Ev.ownAny
  rw [h1]
  refine W.bind (W.ok h2 (W.bind (W.ok (lo := setLo lo' x (.own m')) (a := ()) ?_ ⟨h4⟩)))
  unfold Ev.storeItem
  rw [if_pos hx, h1]
  show (match Ev.putItem m kp v.toPV with | some m' => _ | none => _) = _
  rw [h3]
theorem W.asgE {x : Str} {v : LV} {lo' : Lo} (hi : asgX (nth l i) = some x) (hx : setOk sc x = true) (he : te k sc (valOf (nth l i)) lo = .ok v lo')
    (h : W ((T (k + 1)).ss sc (l.drop (i + 1)) (setLo lo' x v)) Q X) : W ((T (k + 1)).ss sc (l.drop i) lo) Q X := W.asg hi hx (W.ok he h)
theorem W.expE {v : LV} {lo' : Lo} (hi : isEx (nth l i) = true) (he : te k sc (valOf (nth l i)) lo = .ok v lo') (hv : v.toPV = .none)
    (h : W ((T (k + 1)).ss sc (l.drop (i + 1)) lo') Q X) : W ((T (k + 1)).ss sc (l.drop i) lo) Q X := W.exp hi (W.ok he ⟨hv, h⟩)
theorem W.rtnE {v : LV} {lo' : Lo} (hi : isRet (nth l i) = true) (he : te k sc (valOf (nth l i)) lo = .ok v lo')
    (h : Q (.ret (.pv v.toPV)) lo') : W ((T (k + 1)).ss sc (l.drop i) lo) Q X := W.rtn hi (W.ok he h)
/-- what a body of a for does at one turn -/
noncomputable def Turn (k : Nat) (sc : Scope) (x : Str) (body : List Stmt) (X : Prop) (p : PV) (lo : Lo) (Q : Fl → Lo → Prop) : Prop :=
  W ((T k).ss sc body (setLo lo x (.pv p))) Q X
theorem W.for {x : Str} (hi : forX (nth l i) = some x) (hx : setOk sc x = true)
    (h : W ((T k).iterE sc (iterOf (nth l i)) lo) (fun items lo' => W (Ev.forGo x sc ((T k).ss sc ((bodyOf (nth l i)).drop 0)) items lo') (K (k + 1) sc (l.drop (i + 1)) Q X) X) X) : W ((T (k + 1)).ss sc (l.drop i) lo) Q X := by
  refine W.at (nth_len (fun s => (forX s).isSome) rfl (by rw [hi]; rfl)) ?_
  obtain ⟨px, it, b, p, e⟩ := forX_inv hi
  rw [e] at h ⊢
  exact W.bind h
theorem W.forE {x : Str} {items : List PV} {lo' : Lo} (hi : forX (nth l i) = some x) (hx : setOk sc x = true) (he : (T k).iterE sc (iterOf (nth l i)) lo = .ok items lo')
    (h : W (Ev.forGo x sc ((T k).ss sc ((bodyOf (nth l i)).drop 0)) items lo') (K (k + 1) sc (l.drop (i + 1)) Q X) X) : W ((T (k + 1)).ss sc (l.drop i) lo) Q X := W.for hi hx (W.ok he h)
theorem W.for_cons {x : Str} {p : PV} {ps : List PV} {body : R Fl} (hx : setOk sc x = true)
    (h : W (body (setLo lo x (.pv p))) (fun f lo' => match f with
      | .next | .cont => W (Ev.forGo x sc body ps lo') Q X
      | .brk => Q .next lo'
      | .ret v => Q (.ret v) lo') X) : W (Ev.forGo x sc body (p :: ps) lo) Q X := by
  show W (R.bind (Ev.setVar sc x (.pv p)) _ lo) _ _
  refine W.bind (W.ok (setVar_of hx) (W.bind (W.mono h fun f lo' q => ?_)))
  cases f <;> first | exact q | exact ⟨q⟩
theorem W.for_nil {x : Str} {body : R Fl} (h : Q .next lo) : W (Ev.forGo x sc body [] lo) Q X := ⟨h⟩
end

/-! ### expressions -/
noncomputable def eltsOf (e : Expr) : List Expr := xTuple (xList (xCall [] e fun _ as ks _ => nil1 [] ks as) e fun es _ => es) e fun es _ _ => es
noncomputable def isTup (e : Expr) : Bool := xTuple false e fun es _ _ => decide (es.length < 2 ^ 20)
noncomputable def isLst (e : Expr) : Bool := xList false e fun es _ => decide (es.length < 2 ^ 20)
theorem isTup_inv {e : Expr} (h : isTup e = true) : ∃ es c p, es.length < 2 ^ 20 ∧ e = .Tuple es c p := by
  obtain ⟨es, c, p, h1, h⟩ := xTuple_inv tf h
  exact ⟨es, c, p, of_decide_eq_true h, h1⟩
theorem isLst_inv {e : Expr} (h : isLst e = true) : ∃ es p, es.length < 2 ^ 20 ∧ e = .List es p := by
  obtain ⟨es, p, h1, h⟩ := xList_inv tf h
  exact ⟨es, p, of_decide_eq_true h, h1⟩
noncomputable def figsNot (sc : Scope) (args : List Expr) : Bool := hd1 true args fun a _ => xName true a fun x _ => decide (¬ (x = figs ∧ isLocal sc x = true))
/-- a plain call of an own def -/
structure UserC (sc : Scope) (g : Str) (args : List Expr) : Prop where
  star : args.any Ev.isStar = false
  len : args.length < 10
  glob : isGlob sc g = true
  isi : g ≠ "isinstance"
  bn : bnames.contains g = false
noncomputable def userB (sc : Scope) (g : Str) (args : List Expr) : Bool := !args.any Ev.isStar && decide (args.length < 10) && isGlob sc g && g != "isinstance" && !bnames.contains g
theorem UserC.of {sc : Scope} {g : Str} {args : List Expr} (h : userB sc g args = true) : UserC sc g args := by
  simp only [userB, Bool.and_eq_true, decide_eq_true_eq, Bool.not_eq_true', bne_iff_ne] at h
  exact ⟨h.1.1.1.1, h.1.1.1.2, h.1.1.2, h.1.2, h.2⟩
noncomputable def isUser (sc : Scope) (g : Str) (e : Expr) : Bool := xCallN false e fun h _ args _ => decide (h = g) && (userB sc g args && figsNot sc args)
theorem isUser_inv {sc : Scope} {g : Str} {e : Expr} (h : isUser sc g e = true) : ∃ q1 args q2, (UserC sc g args ∧ figsNot sc args = true) ∧ e = .Call (.Name g q1) args [] q2 := by
  obtain ⟨f, q1, args, q2, h1, h⟩ := xCallN_inv tf h
  obtain ⟨h2, h⟩ := dand h
  exact ⟨q1, args, q2, ⟨.of (band h).1, (band h).2⟩, by rw [h1, h2]⟩
noncomputable def isLend (sc : Scope) (g : Str) (e : Expr) : Bool := xCallN false e fun h _ args _ => decide (h = g) && (userB sc g args && hd1 false args fun a _ => xName false a fun x _ => decide (x = figs ∧ isLocal sc x = true))
theorem isLend_inv {sc : Scope} {g : Str} {e : Expr} (h : isLend sc g e = true) : ∃ q1 q2 rest q3, (UserC sc g (.Name figs q2 :: rest) ∧ isLocal sc figs = true) ∧ e = .Call (.Name g q1) (.Name figs q2 :: rest) [] q3 := by
  obtain ⟨f, q1, args, q2, h1, h⟩ := xCallN_inv tf h
  obtain ⟨h2, h⟩ := dand h
  obtain ⟨h3, h⟩ := band h
  obtain ⟨a, rest, h4, h⟩ := hd1_inv tf h
  obtain ⟨x, px, h5, h⟩ := xName_inv tf h
  obtain ⟨h6, h7⟩ := of_decide_eq_true h
  rw [h6] at h5 h7
  rw [h4, h5] at h3
  exact ⟨q1, px, rest, q2, ⟨.of h3, h7⟩, by rw [h1, h2, h4, h5]⟩
theorem call_eq (k : Nat) (sc : Scope) (f : Expr) (args : List Expr) (p : Pos) : te (k + 1) sc (.Call f args [] p) = (T k).callE sc f args p := rfl
section
variable {k : Nat} {sc : Scope} {e : Expr} {Q : LV → Lo → Prop}
theorem W.tuple (hi : isTup e = true) (h : W ((T k).evs sc ((eltsOf e).drop 0) lo) (fun ps lo' => Q (.pv (.tup ps)) lo') X) : W (te (k + 1) sc e lo) Q X := by
  obtain ⟨es, c, p, hl, rfl⟩ := isTup_inv hi
  show W ((if 2 ^ 20 ≤ es.length then _ else _ : R LV) lo) _ _
  rw [if_neg (Nat.not_le.mpr hl)]
  exact W.bind (W.mono h fun _ _ q => ⟨q⟩)
theorem W.list (hi : isLst e = true) (h : W ((T k).evs sc ((eltsOf e).drop 0) lo) (fun ps lo' => Q (.own (.lst ps)) lo') X) : W (te (k + 1) sc e lo) Q X := by
  obtain ⟨es, p, hl, rfl⟩ := isLst_inv hi
  show W ((if 2 ^ 20 ≤ es.length then _ else _ : R LV) lo) _ _
  rw [if_neg (Nat.not_le.mpr hl)]
  exact W.bind (W.mono h fun _ _ q => ⟨q⟩)
variable {es : List Expr} {i : Nat} {P : List PV → Lo → Prop}
noncomputable def isElt (es : List Expr) (i : Nat) : Bool := decide (i < es.length) && !Ev.isStar (eth es i)
theorem W.evs (hi : isElt es i = true) (h : W (te k sc (eth es i) lo) (fun v lo' => W ((T k).evs sc (es.drop (i + 1)) lo') (fun ps lo'' => P (v.toPV :: ps) lo'') X) X) : W ((T k).evs sc (es.drop i) lo) P X := by
  obtain ⟨h1, h2⟩ := Bool.and_eq_true_iff.mp hi
  have h1 := of_decide_eq_true h1
  have h2 : Ev.isStar (eth es i) = false := by simpa using h2
  have e : es.drop i = eth es i :: es.drop (i + 1) := by
    rw [List.drop_eq_getElem_cons h1]
    simp [eth, List.getD, h1]
  rw [e]
  unfold Ev.evs
  rw [h2]
  exact W.bind (W.bind (W.mono h fun v lo' q => ⟨W.bind (W.mono q fun ps lo'' q => ⟨q⟩)⟩))
theorem W.evs_nil (hi : decide (es.length ≤ i) = true) (h : P [] lo) : W ((T k).evs sc (es.drop i) lo) P X := by
  rw [List.drop_of_length_le (of_decide_eq_true hi)]
  exact ⟨h⟩
theorem callE_user {g : Str} {args : List Expr} {q1 q2 : Pos} (U : UserC sc g args) : te (k + 1) sc (.Call (.Name g q1) args [] q2) = (T k).argsE sc g args := by
  rw [call_eq]
  unfold Ev.callE
  rw [U.star, decide_eq_false (Nat.not_le.mpr U.len)]
  show (if isGlob sc g = true then _ else _) = _
  rw [if_pos U.glob, if_neg U.isi, if_neg (by rw [U.bn]; exact Bool.false_ne_true)]
theorem argsE_lend {g x : Str} {q : Pos} {rest : List Expr} (hx : x = figs ∧ isLocal sc x = true) : (T k).argsE sc g (.Name x q :: rest) = Ev.ownAny x ((Ev.noExc ((T k).evs sc rest)).bind fun ps => (T k).lendE g x ps) := by
  show (if _ then _ else _) = _
  rw [if_pos hx]
theorem argsE_user {g : Str} {args : List Expr} (h : figsNot sc args = true) : (T k).argsE sc g args = (Ev.noExc ((T k).evs sc args)).bind fun ps => (T k).userE g ps := by
  refine hd1_or (P := fun v : R LV => v = (T k).argsG sc g args) (fun a rest e1 => xName_or (P := fun v : R LV => v = (T k).argsG sc g args) (fun x px e2 => if_neg ?_) fun _ => rfl) rfl
  rw [e1, e2] at h
  exact of_decide_eq_true h
theorem W.lend {g : Str} {m m' : MO} {ps : List PV} {v : LV} (hi : isLend sc g e = true) (hm : getLo lo figs = some (.own m)) (hp : (T k).evs sc ((eltsOf e).drop 1) lo = .ok ps lo)
    (hc : tc k g (some m) ps = .ok v (some m')) (q : Q v (setLo lo figs (.own m'))) : W (te (k + 1) sc e lo) Q X := by
  obtain ⟨q1, q2, rest, q3, ⟨U, hl⟩, rfl⟩ := isLend_inv hi
  rw [callE_user U, argsE_lend ⟨rfl, hl⟩]
  unfold Ev.ownAny
  rw [hm]
  refine W.bind (W.ok (a := ps) (lo := lo) ?_ ?_)
  · unfold Ev.noExc
    rw [show (T k).evs sc rest lo = .ok ps lo from hp]
  · refine W.ok (a := v) (lo := setLo lo figs (.own m')) ?_ q
    unfold Ev.lendE
    rw [hm]
    show (match (T k).c g (some m) ps with | .ok v (some m') => _ | _ => _) = _
    unfold tc at hc
    rw [hc]
theorem user_of2 {g : Str} {ps : List PV} {lo' : Lo} (hi : isUser sc g e = true) (hp : (T k).evs sc ((eltsOf e).drop 0) lo = .ok ps lo') : te (k + 1) sc e lo = (T k).userE g ps lo' := by
  obtain ⟨q1, args, q2, ⟨U, hf⟩, rfl⟩ := isUser_inv hi
  rw [callE_user U, argsE_user hf]
  unfold R.bind Ev.noExc
  rw [show (T k).evs sc args lo = .ok ps lo' from hp]
theorem user_of {g : Str} {ps : List PV} (hi : isUser sc g e = true) (hp : (T k).evs sc ((eltsOf e).drop 0) lo = .ok ps lo) : te (k + 1) sc e lo = (T k).userE g ps lo := user_of2 hi hp
theorem W.user {g : Str} {ps : List PV} {v : LV} (hi : isUser sc g e = true) (hp : (T k).evs sc ((eltsOf e).drop 0) lo = .ok ps lo)
    (hc : tc k g none ps = .ok v none) (q : Q v lo) : W (te (k + 1) sc e lo) Q X := by
  rw [user_of hi hp]
  refine W.ok (a := v) (lo := lo) ?_ q
  unfold Ev.userE
  unfold tc at hc
  rw [hc]
theorem W.userX {g : Str} {ps : List PV} (hi : isUser sc g e = true) (hp : (T k).evs sc ((eltsOf e).drop 0) lo = .ok ps lo)
    (hc : tc k g none ps = .exc) (q : X) : W (te (k + 1) sc e lo) Q X := by
  rw [user_of hi hp]
  refine W.raise ?_ q
  unfold Ev.userE
  unfold tc at hc
  rw [hc]
end

/-! ### calls -/
noncomputable def fnD (g : Str) : FnDef := (findFn g bodyL).getD default
noncomputable def Fl.val : Fl → LV
  | .ret v => v
  | _ => .pv .none
section
variable {k : Nat} {g : Str} {ps : List PV} {lo : Lo}
theorem C.run {v : LV} (hd : (findFn g bodyL).isSome = true) (hb : Ev.bindLo (Ev.argNames (fnD g).params) (Ev.fill (fnD g).params (ps.map .pv)) (Ev.lo0 (fnD g).scope.names) = some lo)
    (h : W ((T k).ss (fnD g).scope ((fnD g).body.drop 0) lo) (fun f _ => Fl.val f = v) False) : tc (k + 1) g none ps = .ok v none := by
  show Ev.cStep (T k) bodyL g none ps = _
  revert hb h
  unfold fnD
  obtain ⟨d, e⟩ := Option.isSome_iff_exists.mp hd
  unfold Ev.cStep
  rw [e]
  intro hb h
  have hb : Ev.bindLo (Ev.argNames d.params) (Ev.fill d.params ([] ++ ps.map .pv)) (Ev.lo0 d.scope.names) = some lo := hb
  have h : W ((T k).ss d.scope d.body lo) (fun f _ => Fl.val f = v) False := h
  simp only [Ev.lendOk, Option.isNone_none, Bool.true_or, Bool.true_eq_false, if_false, Option.map_none, Option.toList_none, hb, Option.isSome_none, Bool.false_eq_true]
  cases e : (T k).ss d.scope d.body lo with
  | ok f l =>
    rw [e] at h
    have h : Fl.val f = v := h.1
    subst h
    cases f <;> rfl
  | exc => rw [e] at h; exact h.1.elim
  | fail => rw [e] at h; exact h.1.elim
theorem C.exc (hd : (findFn g bodyL).isSome = true) (hb : Ev.bindLo (Ev.argNames (fnD g).params) (Ev.fill (fnD g).params (ps.map .pv)) (Ev.lo0 (fnD g).scope.names) = some lo)
    (h : W ((T k).ss (fnD g).scope ((fnD g).body.drop 0) lo) (fun _ _ => False) True) : tc (k + 1) g none ps = .exc := by
  show Ev.cStep (T k) bodyL g none ps = _
  revert hb h
  unfold fnD
  obtain ⟨d, e⟩ := Option.isSome_iff_exists.mp hd
  unfold Ev.cStep
  rw [e]
  intro hb h
  have hb : Ev.bindLo (Ev.argNames d.params) (Ev.fill d.params ([] ++ ps.map .pv)) (Ev.lo0 d.scope.names) = some lo := hb
  have h : W ((T k).ss d.scope d.body lo) (fun f _ => False) True := h
  simp only [Ev.lendOk, Option.isNone_none, Bool.true_or, Bool.true_eq_false, if_false, Option.map_none, Option.toList_none, hb, Option.isSome_none, Bool.false_eq_true]
  rw [W.exc h]
noncomputable def marks (sc : Scope) : Scope := { sc with isCoroutine := true }
theorem C.lent {m m' : MO} {p : PV} (hd : (findFn g bodyL).isSome = true) (hl : Ev.lendOk (fnD g) (some m) = true) (hx : (Ev.argNames (fnD g).params).head? = some figs) (hb : Ev.bindLo (Ev.argNames (fnD g).params) (Ev.fill (fnD g).params (.own m :: ps.map .pv)) (Ev.lo0 (fnD g).scope.names) = some lo)
    (h : W ((T k).ss (marks (fnD g).scope) ((fnD g).body.drop 0) lo) (fun f lo' => f = .ret (.pv p) ∧ getLo lo' figs = some (.own m')) False) : tc (k + 1) g (some m) ps = .ok (.pv p) (some m') := by
  show Ev.cStep (T k) bodyL g (some m) ps = _
  revert hl hx hb h
  unfold fnD
  obtain ⟨d, e⟩ := Option.isSome_iff_exists.mp hd
  unfold Ev.cStep
  rw [e]
  intro hl hx hb h
  have hl : Ev.lendOk d (some m) = true := hl
  have hx : (Ev.argNames d.params).head? = some figs := hx
  have hb : Ev.bindLo (Ev.argNames d.params) (Ev.fill d.params ([.own m] ++ ps.map .pv)) (Ev.lo0 d.scope.names) = some lo := hb
  have h : W ((T k).ss (marks d.scope) d.body lo) (fun f lo' => f = .ret (.pv p) ∧ getLo lo' figs = some (.own m')) False := h
  simp only [hl, Bool.true_eq_false, if_false, Option.map_some, Option.toList_some, hb, Option.isSome_some, if_true]
  show (match (T k).ss (marks d.scope) d.body lo with | .exc => _ | .fail => _ | .ok f lo' => _) = _
  cases e : (T k).ss (marks d.scope) d.body lo with
  | ok f l =>
    rw [e] at h
    obtain ⟨rfl, h2⟩ : f = .ret (.pv p) ∧ getLo l figs = some (.own m') := h.1
    cases e3 : Ev.argNames d.params with
    | nil => rw [e3] at hx; cases hx
    | cons x r =>
      rw [e3] at hx
      obtain rfl : x = figs := Option.some.inj hx
      simp only [h2]
  | exc => rw [e] at h; exact h.1.elim
  | fail => rw [e] at h; exact h.1.elim
end

/-! ### reads -/
noncomputable def cmpL (e : Expr) : Expr := xCompare dE e fun l _ _ _ => l
noncomputable def cmpR (e : Expr) : Expr := xCompare dE e fun _ _ rs _ => one dE rs id
noncomputable def isCmp (op : CmpOp) (e : Expr) : Bool := xCompare false e fun _ os rs _ => one false os fun o => one false rs fun r => decide (o = op) && !behindInMarks op r
theorem isCmp_inv {op : CmpOp} {e : Expr} (h : isCmp op e = true) : ∃ l r q, behindInMarks op r = false ∧ e = .Compare l [op] [r] q := by
  obtain ⟨l, os, rs, q, h1, h⟩ := xCompare_inv tf h
  obtain ⟨o, h2, h⟩ := one_inv tf h
  obtain ⟨r, h3, h⟩ := one_inv tf h
  obtain ⟨h4, h⟩ := dand h
  exact ⟨l, r, q, Bool.not_eq_true' _ ▸ h, by rw [h1, h2, h3, h4]⟩
noncomputable def isSub (e : Expr) : Bool := xSubscript false e fun _ i _ => xSlice true i fun _ _ _ _ => false
theorem isSub_inv {e : Expr} (h : isSub e = true) : ∃ v i p, (xSlice true i fun _ _ _ _ => false) = true ∧ e = .Subscript v i p := by
  obtain ⟨v, i, p, h1, h⟩ := xSubscript_inv tf h
  exact ⟨v, i, p, h, h1⟩
noncomputable def subV (e : Expr) : Expr := xSubscript dE e fun v _ _ => v
noncomputable def subI (e : Expr) : Expr := xSubscript dE e fun _ i _ => i
noncomputable def isSubAny (e : Expr) : Bool := xSubscript false e fun _ _ _ => true
section
variable {k : Nat} {sc : Scope} {e : Expr} {lo : Lo}
theorem rd_not (hn : notName e = true) : (T k).rdE sc e = ((T k).pvE sc e).bind fun p => R.ret (Rd.pv p) :=
  xName_or (P := fun v : R Rd => v = (T k).rdG sc e) (fun x q e1 => by rw [e1] at hn; cases hn) fun _ => rfl
theorem rd_eq {v : LV} {lo' : Lo} (hn : notName e = true) (h : te k sc e lo = .ok v lo') : (T k).rdE sc e lo = .ok (.pv v.toPV) lo' := by
  rw [rd_not hn]
  unfold R.bind Ev.pvE R.bind
  unfold te at h
  rw [h]; rfl
theorem pv_eq {v : LV} (h : te k sc e lo = .ok v lo) : (T k).pvE sc e lo = .ok v.toPV lo := by
  unfold Ev.pvE R.bind
  unfold te at h
  rw [h]; rfl
theorem sub_not {v i : Expr} {q : Pos} (h : (xSlice true i fun _ _ _ _ => false) = true) : te (k + 1) sc (.Subscript v i q) = ((T k).rdE sc v).bind fun x => ((T k).pvE sc i).bind fun y => (Ev.val x).bind fun p => .lift ((item p y).map LV.pv) :=
  xSlice_or (P := fun w : R LV => w = (T k).subG sc v i) (fun a b c q e1 => by rw [e1] at h; cases h) fun _ => rfl
theorem item_eq {x : Rd} {p y z : PV} (hi : isSub e = true) (h1 : (T k).rdE sc (subV e) lo = .ok x lo) (h2 : (T k).pvE sc (subI e) lo = .ok y lo) (h3 : Ev.val x lo = .ok p lo) (h4 : item p y = some z) :
    te (k + 1) sc e lo = .ok (.pv z) lo := by
  obtain ⟨v, i, q, hs, rfl⟩ := isSub_inv hi
  rw [sub_not hs]
  have h1 : (T k).rdE sc v lo = .ok x lo := h1
  have h2 : (T k).pvE sc i lo = .ok y lo := h2
  simp only [R.bind, h1, h2, h3, h4]
  rfl
theorem cmp_eq2 {lo' lo'' : Lo} {op : CmpOp} {x y : Rd} {p q : PV} {b : Bool} (hi : isCmp op e = true) (h1 : (T k).rdE sc (cmpL e) lo = .ok x lo') (h2 : (T k).rdE sc (cmpR e) lo' = .ok y lo'') (h3 : Ev.val x lo'' = .ok p lo'') (h4 : Ev.val y lo'' = .ok q lo'') (h5 : cmp op p q = some b) :
    tb (k + 1) sc e lo = .ok b lo'' := by
  obtain ⟨l, r, q, h6, rfl⟩ := isCmp_inv hi
  show (if behindInMarks op r then _ else _ : R Bool) lo = _
  rw [h6]
  have h1 : (T k).rdE sc l lo = .ok x lo' := h1
  have h2 : (T k).rdE sc r lo' = .ok y lo'' := h2
  simp only [Bool.false_eq_true, if_false, R.bind, h1, h2, h3, h4, h5]
  rfl
theorem cmp_eq {op : CmpOp} {x y : Rd} {p q : PV} {b : Bool} (hi : isCmp op e = true) (h1 : (T k).rdE sc (cmpL e) lo = .ok x lo) (h2 : (T k).rdE sc (cmpR e) lo = .ok y lo) (h3 : Ev.val x lo = .ok p lo) (h4 : Ev.val y lo = .ok q lo) (h5 : cmp op p q = some b) :
    tb (k + 1) sc e lo = .ok b lo := cmp_eq2 hi h1 h2 h3 h4 h5
/-- a comparison as a value -/
theorem cmpe_eq {op : CmpOp} {x y : Rd} {p q : PV} {b : Bool} (hi : isCmp op e = true) (h1 : (T k).rdE sc (cmpL e) lo = .ok x lo) (h2 : (T k).rdE sc (cmpR e) lo = .ok y lo) (h3 : Ev.val x lo = .ok p lo) (h4 : Ev.val y lo = .ok q lo) (h5 : cmp op p q = some b) :
    te (k + 1) sc e lo = .ok (.pv (.bool b)) lo := by
  obtain ⟨l, r, q, h6, rfl⟩ := isCmp_inv hi
  show (if behindInMarks op r then _ else _ : R LV) lo = _
  rw [h6]
  have h1 : (T k).rdE sc l lo = .ok x lo := h1
  have h2 : (T k).rdE sc r lo = .ok y lo := h2
  simp only [Bool.false_eq_true, if_false, R.bind, h1, h2, h3, h4, h5]
  rfl
end
/-! ### frames -/
noncomputable def V (x : Str) (p : PV) : Str × Option LV := (x, some (.pv p))
noncomputable def O (x : Str) (m : MO) : Str × Option LV := (x, some (.own m))
noncomputable def U (x : Str) : Str × Option LV := (x, none)
noncomputable abbrev scD (g : Str) : Scope := (fnD g).scope
noncomputable abbrev bD (g : Str) : List Stmt := (fnD g).body

/-! ### more rules -/
noncomputable def outLo {α : Type} : Res α → Lo
  | .ok _ lo => lo
  | _ => []
noncomputable def raiseA (s : Stmt) : Expr := sRaise dE s fun v _ _ => yes dE v fun e => xCallN dE e fun _ _ as _ => one dE as id
noncomputable def isRaise (sc : Scope) (s : Stmt) : Bool := sRaise false s fun v o _ => non false o (yes false v fun e => xCallN false e fun f _ as _ => one false as fun a => decide (f = "LinkFault" ∧ isGlob sc f = true ∧ Ev.isStar a = false))
theorem isRaise_inv {sc : Scope} {s : Stmt} (h : isRaise sc s = true) : ∃ (f : Str) (q1 : Pos) (a : Expr) (q2 q3 : Pos), (f = "LinkFault" ∧ isGlob sc f = true ∧ Ev.isStar a = false) ∧ s = .Raise (some (.Call (.Name f q1) [a] [] q2)) none q3 := by
  obtain ⟨v, o, p, h1, h⟩ := sRaise_inv tf h
  obtain ⟨h2, h⟩ := non_inv tf h
  obtain ⟨e, h3, h⟩ := yes_inv tf h
  obtain ⟨f, q1, as, q2, h4, h⟩ := xCallN_inv tf h
  obtain ⟨a, h5, h⟩ := one_inv tf h
  exact ⟨f, q1, a, q2, p, of_decide_eq_true h, by rw [h1, h2, h3, h4, h5]⟩
noncomputable def binL (e : Expr) : Expr := xBinOp dE e fun l _ _ _ => l
noncomputable def binR (e : Expr) : Expr := xBinOp dE e fun _ _ r _ => r
noncomputable def isBin (op : Operator) (e : Expr) : Bool := xBinOp false e fun _ o _ _ => decide (o = op)
theorem isBin_inv {op : Operator} {e : Expr} (h : isBin op e = true) : ∃ l r q, e = .BinOp l op r q := by
  obtain ⟨l, o, r, q, h1, h⟩ := xBinOp_inv tf h
  exact ⟨l, r, q, by rw [h1, of_decide_eq_true h]⟩
/-- a method of an own list -/
structure MethC (sc : Scope) (x m : Str) (args : List Expr) (apos pos : Pos) : Prop where
  star : args.any Ev.isStar = false
  len : args.length < 10
  line : (apos.endLine == pos.line) = true
  get : m ≠ "get"
  loc : isLocal sc x = true
  mem : Ev.meths.contains m = true
noncomputable def methB (sc : Scope) (x m : Str) (args : List Expr) (apos pos : Pos) : Bool := !args.any Ev.isStar && decide (args.length < 10) && (apos.endLine == pos.line) && m != "get" && isLocal sc x && Ev.meths.contains m
theorem MethC.of {sc : Scope} {x m : Str} {args : List Expr} {apos pos : Pos} (h : methB sc x m args apos pos = true) : MethC sc x m args apos pos := by
  simp only [methB, Bool.and_eq_true, decide_eq_true_eq, Bool.not_eq_true', bne_iff_ne] at h
  exact ⟨h.1.1.1.1.1, h.1.1.1.1.2, h.1.1.1.2, h.1.1.2, h.1.2, h.2⟩
noncomputable def isMeth (sc : Scope) (x m : Str) (e : Expr) : Bool := xCall false e fun f args ks pos => nil1 false ks (xAttribute false f fun v m' apos => xName false v fun y _ => decide (y = x ∧ m' = m) && methB sc x m args apos pos)
theorem isMeth_inv {sc : Scope} {x m : Str} {e : Expr} (h : isMeth sc x m e = true) : ∃ q1 apos args pos, MethC sc x m args apos pos ∧ e = .Call (.Attribute (.Name x q1) m apos) args [] pos := by
  obtain ⟨f, args, ks, pos, h1, h⟩ := xCall_inv tf h
  obtain ⟨h2, h⟩ := nil1_inv tf h
  obtain ⟨v, m', apos, h3, h⟩ := xAttribute_inv tf h
  obtain ⟨y, q1, h4, h⟩ := xName_inv tf h
  obtain ⟨h5, h⟩ := dand h
  exact ⟨q1, apos, args, pos, .of h, by rw [h1, h2, h3, h4, h5.1, h5.2]⟩
noncomputable def isB1 (sc : Scope) (g : Str) (e : Expr) : Bool := xCallN false e fun h _ as _ => one false as fun a => decide (h = g) && (!Ev.isStar a && isGlob sc g && g != "isinstance" && bnames.contains g)
theorem isB1_inv {sc : Scope} {g : Str} {e : Expr} (h : isB1 sc g e = true) : ∃ q1 a q2, (((Ev.isStar a = false ∧ isGlob sc g = true) ∧ g ≠ "isinstance") ∧ bnames.contains g = true) ∧ e = .Call (.Name g q1) [a] [] q2 := by
  obtain ⟨f, q1, as, q2, h1, h⟩ := xCallN_inv tf h
  obtain ⟨a, h2, h⟩ := one_inv tf h
  obtain ⟨h3, h⟩ := dand h
  simp only [Bool.and_eq_true, Bool.not_eq_true', bne_iff_ne] at h
  exact ⟨q1, a, q2, h, by rw [h1, h2, h3]⟩
noncomputable def whileT (s : Stmt) : Expr := sWhile dE s fun t _ _ _ => t
noncomputable def isWhile (s : Stmt) : Bool := sWhile false s fun _ _ o _ => nil1 false o true
section
variable {k : Nat} {sc : Scope} {e : Expr} {lo lo' : Lo} {st : Stmt}
theorem raise_eq {v : LV} {n : Nat} (hi : isRaise sc st = true) (h : te k sc (raiseA st) lo = .ok v lo) (hs : strLen v.toPV = some n) : ts (k + 1) sc st lo = .exc := by
  obtain ⟨f, q1, a, q2, q3, hc, rfl⟩ := isRaise_inv hi
  have h : (T k).pvE sc a lo = .ok v.toPV lo := pv_eq h
  show (if _ then _ else _ : R Fl) lo = _
  rw [if_pos hc]
  unfold R.bind
  rw [h]
  show (match strLen v.toPV with | some _ => excR | none => R.fail) lo = _
  rw [hs]; rfl
theorem binop_eq {op : Operator} {p q : PV} {v : LV} (hi : isBin op e = true) (h1 : (T k).pvE sc (binL e) lo = .ok p lo) (h2 : (T k).pvE sc (binR e) lo = .ok q lo) (h3 : binop op p q = some v) : te (k + 1) sc e lo = .ok v lo := by
  obtain ⟨l, r, q', rfl⟩ := isBin_inv hi
  have h1 : (T k).pvE sc l lo = .ok p lo := h1
  have h2 : (T k).pvE sc r lo = .ok q lo := h2
  show (((T k).pvE sc l).bind fun x => ((T k).pvE sc r).bind fun y => R.lift (binop op x y)) lo = _
  simp only [R.bind, h1, h2, h3]
  rfl
theorem W.bin {op : Operator} {Q : LV → Lo → Prop} {X : Prop} (hi : isBin op e = true) (h : W (te k sc (binL e) lo) (fun p lo' => W (te k sc (binR e) lo') (fun q lo'' => ∃ v, binop op p.toPV q.toPV = some v ∧ Q v lo'') X) X) : W (te (k + 1) sc e lo) Q X := by
  obtain ⟨l, r, q', rfl⟩ := isBin_inv hi
  show W ((((T k).pvE sc l).bind fun x => ((T k).pvE sc r).bind fun y => R.lift (binop op x y)) lo) _ _
  refine W.bind (W.bind (W.mono h fun p lo' q => ⟨?_⟩))
  refine W.bind (W.bind (W.mono q fun q lo' r => ⟨?_⟩))
  obtain ⟨v, e, r⟩ := r
  show W (R.lift (binop op p.toPV q.toPV) lo') Q X
  rw [e]
  exact ⟨r⟩
theorem callE_meth {x m : Str} {q1 apos pos : Pos} {args : List Expr} (M : MethC sc x m args apos pos) : te (k + 1) sc (.Call (.Attribute (.Name x q1) m apos) args [] pos) = Ev.ownFirst x (((T k).evs sc args).bind fun ps => Ev.methGo x m ps) := by
  rw [call_eq]
  unfold Ev.callE
  rw [M.star, decide_eq_false (Nat.not_le.mpr M.len)]
  show (if (apos.endLine == pos.line) = true then _ else _ : R LV) = _
  rw [if_pos M.line, if_neg M.get]
  unfold Ev.methE
  rw [if_pos ⟨M.loc, M.mem⟩]
theorem callE_b1 {g : Str} {q1 q2 : Pos} {a : Expr} (h5 : Ev.isStar a = false) (h6 : isGlob sc g = true) (h7 : g ≠ "isinstance") (h8 : bnames.contains g = true) : te (k + 1) sc (.Call (.Name g q1) [a] [] q2) = ((T k).rdE sc a).bind fun rd => (Ev.val rd).bind fun p => .lift (bcall g p) := by
  rw [call_eq]
  unfold Ev.callE
  rw [show [a].any Ev.isStar = false by rw [List.any_cons, h5]; rfl, decide_eq_false (by simp)]
  show (if isGlob sc g = true then _ else _ : R LV) = _
  rw [if_pos h6, if_neg h7, if_pos h8]
  rfl
theorem meth_eq {x m : Str} {l l' : List PV} {ps : List PV} {p : PV} (hi : isMeth sc x m e = true) (h1 : getLo lo x = some (.own (.lst l))) (h2 : (T k).evs sc ((eltsOf e).drop 0) lo = .ok ps lo') (h3 : getLo lo' x = some (.own (.lst l))) (h4 : Ev.lmeth m l ps = some (p, l')) :
    te (k + 1) sc e lo = .ok (.pv p) (setLo lo' x (.own (.lst l'))) := by
  obtain ⟨q1, apos, args, pos, M, rfl⟩ := isMeth_inv hi
  rw [callE_meth M]
  unfold Ev.ownFirst
  rw [h1]
  have h2 : (T k).evs sc args lo = .ok ps lo' := h2
  show R.bind _ _ lo = _
  unfold R.bind
  rw [h2]
  unfold Ev.methGo
  show (match getLo lo' x with | some (.own (.lst l)) => _ | _ => _) = _
  rw [h3]
  show (match Ev.lmeth m l ps with | some (p, l') => _ | none => _) = _
  rw [h4]
theorem app_eq {x : Str} {l : List PV} {p : PV} (hi : isMeth sc x "append" e = true) (h1 : getLo lo x = some (.own (.lst l))) (h2 : (T k).evs sc ((eltsOf e).drop 0) lo = .ok [p] lo) (h3 : l.length < 2 ^ 20) :
    te (k + 1) sc e lo = .ok (.pv .none) (setLo lo x (.own (.lst (l ++ [p])))) := by
  refine meth_eq hi h1 h2 h1 ?_
  unfold Ev.lmeth
  rw [if_neg (Nat.not_le.mpr h3)]
  rfl
theorem b1_eq {g : Str} {x : Rd} {p : PV} {v : LV} (hi : isB1 sc g e = true) (h1 : (T k).rdE sc (eth (eltsOf e) 0) lo = .ok x lo) (h2 : Ev.val x lo = .ok p lo) (h3 : bcall g p = some v) : te (k + 1) sc e lo = .ok v lo := by
  obtain ⟨q1, a, q2, ⟨⟨⟨h5, h6⟩, h7⟩, h8⟩, rfl⟩ := isB1_inv hi
  rw [callE_b1 h5 h6 h7 h8]
  have h1 : (T k).rdE sc a lo = .ok x lo := h1
  simp only [R.bind, h1, h2, h3]
  rfl
end
/-- a call's end: a tree, or a raised fault -/
noncomputable def CallTo (x : CRes) (o : Option PV) : Prop := match o with
  | some p => x = .ok (.pv p) none
  | none => x = .exc
section
variable {k : Nat} {sc : Scope} {e : Expr} {lo : Lo} {g : Str} {ps : List PV} {o : Option PV} {Q : LV → Lo → Prop} {X : Prop}
theorem W.callTo (hi : isUser sc g e = true) (hp : (T k).evs sc ((eltsOf e).drop 0) lo = .ok ps lo) (hc : CallTo (tc k g none ps) o)
    (q : ∀ p, o = some p → Q (.pv p) lo) (x : o = none → X) : W (te (k + 1) sc e lo) Q X := by
  cases o with
  | some p => exact W.user hi hp hc (q p rfl)
  | none => exact W.userX hi hp hc (x rfl)
theorem C.to (hd : (findFn g bodyL).isSome = true) (hb : Ev.bindLo (Ev.argNames (fnD g).params) (Ev.fill (fnD g).params (ps.map .pv)) (Ev.lo0 (fnD g).scope.names) = some lo)
    (h : W ((T k).ss (fnD g).scope ((fnD g).body.drop 0) lo) (fun f _ => ∃ p, o = some p ∧ Fl.val f = .pv p) (o = none)) : CallTo (tc (k + 1) g none ps) o := by
  cases o with
  | some p =>
    refine C.run hd hb ?_
    cases e : (T k).ss (fnD g).scope ((fnD g).body.drop 0) lo with
    | ok f l =>
      rw [e] at h
      obtain ⟨p', e1, e2⟩ := h.1
      cases e1
      exact ⟨e2⟩
    | exc => rw [e] at h; cases h.1
    | fail => rw [e] at h; exact h.1.elim
  | none =>
    refine C.exc hd hb ?_
    cases e : (T k).ss (fnD g).scope ((fnD g).body.drop 0) lo with
    | ok f l =>
      rw [e] at h
      obtain ⟨p', e1, e2⟩ := h.1
      cases e1
    | exc => exact ⟨trivial⟩
    | fail => rw [e] at h; exact ⟨h.1⟩
end

/-! ### comprehensions, try -/
noncomputable def cElt (e : Expr) : Expr := xListComp (xDictComp dE e fun k _ _ _ _ => k) e fun x _ _ _ => x
noncomputable def cVal (e : Expr) : Expr := xDictComp dE e fun _ v _ _ _ => v
noncomputable def cGens (e : Expr) : List Comprehension := xListComp (xDictComp [] e fun _ _ g _ _ => g) e fun _ g _ _ => g
noncomputable def cIter (e : Expr) : Expr := one dE (cGens e) cpI
noncomputable def cIfs (e : Expr) : List Expr := one [] (cGens e) cpF
noncomputable def cSc (e : Expr) : Scope := xListComp (xDictComp default e fun _ _ _ s _ => s) e fun _ _ s _ => s
noncomputable def genC (sc scope : Scope) (x : Str) (gs : List Comprehension) : Bool := one false gs fun g => xName false (cpT g) fun y _ => decide (y = x ∧ cpA g = 0) && Ev.compOk sc scope x (cpI g)
theorem genC_inv {sc scope : Scope} {x : Str} {gs : List Comprehension} (h : genC sc scope x gs = true) : ∃ px it ifs, Ev.compOk sc scope x it = true ∧ gs = [⟨.Name x px, it, ifs, 0⟩] := by
  obtain ⟨g, h1, h⟩ := one_inv tf h
  obtain ⟨y, px, h2, h⟩ := xName_inv tf h
  obtain ⟨h3, h⟩ := dand h
  cases g with
  | mk t it ifs a => exact ⟨px, it, ifs, h, by rw [h1, show t = _ from h2, show a = 0 from h3.2, h3.1]⟩
noncomputable def isLC (sc : Scope) (x : Str) (e : Expr) : Bool := xListComp false e fun _ gs scope _ => genC sc scope x gs
theorem isLC_inv {sc : Scope} {x : Str} {e : Expr} (h : isLC sc x e = true) : ∃ elt px it ifs scope q, Ev.compOk sc scope x it = true ∧ e = .ListComp elt [⟨.Name x px, it, ifs, 0⟩] scope q := by
  obtain ⟨elt, gs, scope, q, h1, h⟩ := xListComp_inv tf h
  obtain ⟨px, it, ifs, h2, h3⟩ := genC_inv h
  exact ⟨elt, px, it, ifs, scope, q, h2, by rw [h1, h3]⟩
noncomputable def isDC (sc : Scope) (x : Str) (e : Expr) : Bool := xDictComp false e fun _ _ gs scope _ => genC sc scope x gs
noncomputable def mSc (e : Expr) : Scope := Ev.marked (cSc e)
noncomputable def compF (k : Nat) (x : Str) (e : Expr) : PV → R (Option PV) := Ev.onItem (cSc e) x (((T k).tests (mSc e) (cIfs e)).bind fun t => if t then ((T k).pvE (mSc e) (cElt e)).bind fun y => .ret (some y) else .ret none)
noncomputable def dcompF (k : Nat) (x : Str) (e : Expr) : PV → R (Option (PV × PV)) := Ev.onItem (cSc e) x (((T k).tests (mSc e) (cIfs e)).bind fun t => if t then ((T k).pvE (mSc e) (cElt e)).bind fun y => ((T k).pvE (mSc e) (cVal e)).bind fun z => .ret (some (y, z)) else .ret none)
/-- the frame of a comprehension's turn -/
noncomputable def inC (x : Str) (e : Expr) (p : PV) (lo : Lo) : Lo := (x, some (.pv p)) :: Ev.pvOnly (cSc e) lo
noncomputable def isTry (sc : Scope) (s : Stmt) : Bool := sTry false s fun _ hs o f _ => one false hs fun h => nil1 false o (nil1 false f (yes false (Ev.ehX h) fun f => decide (f = "LinkFault" ∧ isGlob sc f = true ∧ sc.isCoroutine = false)))
theorem isTry_inv {sc : Scope} {s : Stmt} (h : isTry sc s = true) : ∃ (b : List Stmt) (hs : List ExceptHandler) (p : Pos), (∃ h f, hs = [h] ∧ Ev.ehX h = some f ∧ f = "LinkFault" ∧ isGlob sc f = true ∧ sc.isCoroutine = false) ∧ s = .Try b hs [] [] p := by
  obtain ⟨b, hs, o, fl, p, h1, h⟩ := sTry_inv tf h
  obtain ⟨eh, h2, h⟩ := one_inv tf h
  obtain ⟨h3, h⟩ := nil1_inv tf h
  obtain ⟨h4, h⟩ := nil1_inv tf h
  obtain ⟨f, h5, h⟩ := yes_inv tf h
  exact ⟨b, hs, p, ⟨eh, f, h2, h5, of_decide_eq_true h⟩, by rw [h1, h3, h4]⟩
section
variable {k : Nat} {sc : Scope} {e : Expr} {lo : Lo} {st : Stmt}
theorem W.lcomp {x : Str} {v : LV} {items : List PV} {lo' : Lo} {Q : LV → Lo → Prop} {X : Prop} (hi : isLC sc x e = true) (hp : te k sc (cIter e) lo = .ok v lo') (h1 : itemsOf v.toPV = some items) (h2 : items.length < 2 ^ 20)
    (h : W (Ev.compGo (compF k x e) items lo') (fun l lo' => Q (.own (.lst l)) lo') X) : W (te (k + 1) sc e lo) Q X := by
  obtain ⟨elt, q, it, ifs, scope, q2, h3, rfl⟩ := isLC_inv hi
  show W ((if Ev.compOk sc scope x it = true then _ else _ : R LV) lo) _ _
  rw [if_pos h3]
  refine W.bind (W.bind (W.ok hp ⟨W.bind (W.ok (a := items) (lo := lo') ?_ (W.bind (W.mono h fun l lo' q => ⟨q⟩)))⟩))
  rw [h1]
  show R.lift (small items) lo' = _
  unfold small
  rw [if_pos h2]; rfl
theorem compF_ok {x : Str} {p : PV} {v : LV} (h0 : cIfs e = []) (h : te k (mSc e) (cElt e) (inC x e p lo) = .ok v (inC x e p lo)) : compF k x e p lo = .ok (some v.toPV) lo := by
  unfold compF Ev.onItem Ev.inLo
  rw [h0]
  have h : (T k).pvE (mSc e) (cElt e) ((x, some (.pv p)) :: Ev.pvOnly (cSc e) lo) = .ok v.toPV (inC x e p lo) := pv_eq h
  simp only [Ev.tests, R.bind, R.ret, if_true, h]
theorem compF_exc {x : Str} {p : PV} (h0 : cIfs e = []) (h : te k (mSc e) (cElt e) (inC x e p lo) = .exc) : compF k x e p lo = .exc := by
  unfold compF Ev.onItem Ev.inLo
  rw [h0]
  have h : (T k).pvE (mSc e) (cElt e) ((x, some (.pv p)) :: Ev.pvOnly (cSc e) lo) = .exc := by
    unfold te inC at h
    unfold Ev.pvE R.bind
    rw [h]
  simp only [Ev.tests, R.bind, R.ret, if_true, h]
theorem try_eq (hi : isTry sc st = true) : ts (k + 1) sc st lo = tryR ((T k).ss sc (bodyOf st)) lo := by
  obtain ⟨b, hs, p, ⟨eh, f, e1, e2, hc⟩, rfl⟩ := isTry_inv hi
  rw [e1]
  show (yes R.fail (Ev.ehX eh) fun f => _) lo = _
  rw [e2]
  show (if _ then _ else _ : R Fl) lo = _
  rw [if_pos hc]; rfl
end
theorem len_eq {l : List PV} (h : l.length < 2 ^ 20) : bcall "len" (.lst l) = some (.pv (.int (Int.ofNat l.length))) := by
  unfold bcall
  rw [if_pos rfl]
  unfold lenOf
  simp only []
  rw [if_pos h]; rfl
theorem comp_filter {α : Type} {f : PV → R (Option PV)} {lo : Lo} (enc : α → PV) (o : α → Option PV) : ∀ (l : List α), (∀ a ∈ l, f (enc a) lo = .ok (o a) lo) → Ev.compGo f (l.map enc) lo = .ok (l.filterMap o) lo
  | [], _ => rfl
  | a :: l, h => by
    have ih := comp_filter enc o l fun b hb => h b (List.mem_cons_of_mem _ hb)
    have h0 := h a List.mem_cons_self
    show (R.bind (f (enc a)) _) lo = _
    unfold R.bind
    rw [h0]
    show (R.bind (Ev.compGo f (l.map enc)) _) lo = _
    unfold R.bind
    rw [ih]
    show Res.ok _ lo = _
    rw [List.filterMap_cons]
    cases o a <;> rfl
theorem comp_all {α : Type} {f : PV → R (Option PV)} {lo : Lo} (enc : α → PV) (o : α → Option PV) : ∀ (l : List α), (∀ a ∈ l, f (enc a) lo = match o a with | some p => .ok (some p) lo | none => .exc) →
    Ev.compGo f (l.map enc) lo = match l.mapM o with | some ps => .ok ps lo | none => .exc
  | [], _ => rfl
  | a :: l, h => by
    have ih := comp_all enc o l fun b hb => h b (List.mem_cons_of_mem _ hb)
    have h0 := h a List.mem_cons_self
    show (R.bind (f (enc a)) _) lo = _
    unfold R.bind
    rw [h0, List.mapM_cons]
    cases o a with
    | none => rfl
    | some p =>
      show (R.bind (Ev.compGo f (l.map enc)) _) lo = _
      unfold R.bind
      rw [ih]
      cases l.mapM o <;> rfl
end Mine
set_option maxHeartbeats 4000000
namespace Mine
open PySem

/-! ### the rows of a block -/
inductive Row (γ : Type) where
  | tr (g : γ)
  | ret (g : γ)
  | tru (g : γ)
  | term (a b c d : γ)
  | con0 (g : γ)
  | con1 (a g : γ)
  | con2 (a b g : γ)
  | str (a g : γ)
  | call
  | pro
noncomputable def gl : Option Nat → PV
  | none => .int (Int.negSucc 0)
  | some n => .int (Int.ofNat n)
noncomputable def nat (n : Nat) : PV := .int (Int.ofNat n)
noncomputable def ck (a : Int) : PV := .tup [.int a, .int 2]
noncomputable def Row.enc : Row (Option Nat) → PV
  | .tr g => .tup [.str "try", gl g, .int 2]
  | .ret g => .tup [.str "retry", gl g]
  | .tru g => .tup [.str "trust", gl g]
  | .term a b c d => .tup [.str "switch_on_term", gl a, gl b, gl c, gl d]
  | .con0 g => .tup [.str "switch_on_constant", .tup [], gl g]
  | .con1 a g => .tup [.str "switch_on_constant", .tup [.tup [ck 5, gl a]], gl g]
  | .con2 a b g => .tup [.str "switch_on_constant", .tup [.tup [ck 5, gl a], .tup [ck 4, gl b]], gl g]
  | .str a g => .tup [.str "switch_on_structure", .tup [.tup [.int 2, gl a]], gl g]
  | .call => .tup [.str "call", .int 24, .int 3]
  | .pro => .tup [.str "proceed"]
/-- a row of code -/
noncomputable def Row.cod : Row Nat → PV
  | .tr g => .tup [.str "try", nat g, .int 2]
  | .ret g => .tup [.str "retry", nat g]
  | .tru g => .tup [.str "trust", nat g]
  | .term a b c d => .tup [.str "switch_on_term", nat a, nat b, nat c, nat d]
  | .con0 g => .tup [.str "switch_on_constant", .dcti [] [], nat g]
  | .con1 a g => .tup [.str "switch_on_constant", .dctt [[5, 2]] [nat a], nat g]
  | .con2 a b g => .tup [.str "switch_on_constant", .dctt [[5, 2], [4, 2]] [nat a, nat b], nat g]
  | .str a g => .tup [.str "switch_on_structure", .dcti [2] [nat a], nat g]
  | .call => .tup [.str "call", .int 24, .int 3]
  | .pro => .tup [.str "proceed"]
noncomputable def labV (n : Nat) : PV := .tup [.str "label", .int (Int.ofNat n)]
noncomputable def shV : PV := match tc 4 "shapes" none [] with
  | .ok v _ => v.toPV
  | _ => .none
theorem check_ok (k : Nat) (r : Row (Option Nat)) : tc (k + 60) "check_row" none [shV, r.enc, .bool false] = .ok (.pv .none) none := by
  cases r with
  | tr g => cases g <;> kernel_rfl
  | ret g => cases g <;> kernel_rfl
  | tru g => cases g <;> kernel_rfl
  | term a b c d => cases a <;> cases b <;> cases c <;> cases d <;> kernel_rfl
  | con0 g => cases g <;> kernel_rfl
  | con1 a g => cases a <;> cases g <;> kernel_rfl
  | con2 a b g => cases a <;> cases b <;> cases g <;> kernel_rfl
  | str a g => cases a <;> cases g <;> kernel_rfl
  | call => kernel_rfl
  | pro => kernel_rfl
noncomputable def lk : List (Nat × Nat) → Nat → Option Nat
  | [], _ => none
  | (a, b) :: r, n => if a = n then some b else lk r n
noncomputable def ksA (al : List (Nat × Nat)) : List Int := al.map fun p => Int.ofNat p.1
noncomputable def vsA (al : List (Nat × Nat)) : List PV := al.map fun p => PV.int (Int.ofNat p.2)
noncomputable def dA (al : List (Nat × Nat)) : PV := .dcti (ksA al) (vsA al)
theorem look_lk : ∀ (al : List (Nat × Nat)) (n : Nat), look (ksA al) (vsA al) (Int.ofNat n) = (lk al n).map fun a => PV.int (Int.ofNat a)
  | [], _ => rfl
  | (a, b) :: r, n => by
    show (if Int.ofNat a = Int.ofNat n then _ else _) = (if a = n then _ else _ : Option Nat).map _
    by_cases e : a = n
    · rw [if_pos e, if_pos (congrArg _ e)]; rfl
    · rw [if_neg e, if_neg (fun h => e (Int.ofNat.inj h))]; exact look_lk r n
noncomputable def loRL (g : PV) (al : List (Nat × Nat)) (e : Nat) : Lo := [V "label" g, V "addresses" (dA al), V "end" (.int (Int.ofNat e))]
noncomputable def numLen (n : Nat) : Option Nat := match tc 20 "number_text" none [.int (Int.ofNat n)] with
  | .ok (.pv (.txt m)) none => some m
  | _ => none
noncomputable def isNum (x : CRes) : Bool := match x with
  | .ok (.pv (.txt m)) none => decide (m < 100)
  | _ => false
theorem num_ok (k n : Nat) (h : n < 64) : ∃ m, m < 100 ∧ tc (k + 20) "number_text" none [.int (Int.ofNat n)] = .ok (.pv (.txt m)) none := by
  have key : (List.range 64).all (fun n => isNum (tc (k + 20) "number_text" none [.int (Int.ofNat n)])) = true := by kernel_rfl
  have := List.all_eq_true.mp key n (List.mem_range.mpr h)
  revert this
  unfold isNum
  split
  · intro h; exact ⟨_, of_decide_eq_true h, ‹_›⟩
  · intro h; cases h
theorem rl_none (k : Nat) (al : List (Nat × Nat)) (e : Nat) : tc (k + 20) "resolve_label" none [gl none, dA al, .int (Int.ofNat e)] = .ok (.pv (.int (Int.ofNat 2))) none := by kernel_rfl
theorem rl_ok (k : Nat) {al : List (Nat × Nat)} {n a e : Nat} (h : lk al n = some a) (he : a < e) : tc (k + 20) "resolve_label" none [gl (some n), dA al, .int (Int.ofNat e)] = .ok (.pv (.int (Int.ofNat a))) none := by
  have hl : look (ksA al) (vsA al) (Int.ofNat n) = some (.int (Int.ofNat a)) := by rw [look_lk, h]; rfl
  have hd : (dget (dA al) (.int (Int.ofNat n))) = some (some (.int (Int.ofNat a))) := congrArg some hl
  have hi : item (dA al) (.int (Int.ofNat n)) = some (.int (Int.ofNat a)) := by show (dget _ _).join = _; rw [hd]; rfl
  refine C.run (lo := loRL (gl (some n)) al e) rfl (by kernel_rfl) ?_
  refine W.iff (c := false) (lo' := loRL (gl (some n)) al e) (by kernel_rfl) (by kernel_rfl) (W.nil (by kernel_rfl) ?_)
  refine W.iff (c := false) (lo' := loRL (gl (some n)) al e) (by kernel_rfl) ?_ (W.nil (by kernel_rfl) ?_)
  · exact cmp_eq (op := .NotIn) (x := .pv (.int (Int.ofNat n))) (y := .pv (dA al)) (by kernel_rfl) (by kernel_rfl) (by kernel_rfl) rfl rfl (by show Option.map (fun o => Option.isNone o) (dget (dA al) (.int (Int.ofNat n))) = some false; rw [hd]; rfl)
  refine W.iff (c := false) (lo' := loRL (gl (some n)) al e) (by kernel_rfl) ?_ (W.nil (by kernel_rfl) ?_)
  · refine cmp_eq (op := .GtE) (x := .pv (.int (Int.ofNat a))) (y := .pv (.int (Int.ofNat e))) (by kernel_rfl) (rd_eq (by kernel_rfl) (item_eq (p := dA al) (x := .pv (dA al)) (y := .int (Int.ofNat n)) (by kernel_rfl) (by kernel_rfl) (by kernel_rfl) rfl hi)) (by kernel_rfl) rfl rfl ?_
    show some (decide (Int.ofNat a ≥ Int.ofNat e)) = _
    rw [decide_eq_false]
    exact fun h => Nat.not_le.mpr he (Int.ofNat_le.mp h)
  refine W.rtn (by kernel_rfl) ?_
  exact W.ok (item_eq (p := dA al) (x := .pv (dA al)) (y := .int (Int.ofNat n)) (by kernel_rfl) (by kernel_rfl) (by kernel_rfl) rfl hi) rfl
theorem rl_exc (k : Nat) {al : List (Nat × Nat)} {n e : Nat} (h : lk al n = none) (hn : n < 64) : tc (k + 40) "resolve_label" none [gl (some n), dA al, .int (Int.ofNat e)] = .exc := by
  have hl : look (ksA al) (vsA al) (Int.ofNat n) = none := by rw [look_lk, h]; rfl
  have hd : (dget (dA al) (.int (Int.ofNat n))) = some none := congrArg some hl
  obtain ⟨m, hm, hnum⟩ := num_ok (k + 14) n hn
  refine C.exc (lo := loRL (gl (some n)) al e) rfl (by kernel_rfl) ?_
  refine W.iff (c := false) (lo' := loRL (gl (some n)) al e) (by kernel_rfl) (by kernel_rfl) (W.nil (by kernel_rfl) ?_)
  refine W.iff (c := true) (lo' := loRL (gl (some n)) al e) (by kernel_rfl) ?_ ?_
  · exact cmp_eq (op := .NotIn) (x := .pv (.int (Int.ofNat n))) (y := .pv (dA al)) (by kernel_rfl) (by kernel_rfl) (by kernel_rfl) rfl rfl (by show Option.map (fun o => Option.isNone o) (dget (dA al) (.int (Int.ofNat n))) = some true; rw [hd]; rfl)
  refine W.at (by kernel_rfl) (W.raise (raise_eq (v := .pv (.txt (6 + m + 11))) (n := 6 + m + 11) (by kernel_rfl) ?_ rfl) trivial)
  refine binop_eq (op := .Add) (p := .txt (6 + m)) (q := .str " is unknown") (by kernel_rfl) (pv_eq (v := .pv (.txt (6 + m))) ?_) (by kernel_rfl) ?_
  · refine binop_eq (op := .Add) (p := .str "label ") (q := .txt m) (by kernel_rfl) (by kernel_rfl) (pv_eq (v := .pv (.txt m)) ?_) ?_
    · rw [user_of (g := "number_text") (ps := [.int (Int.ofNat n)]) (by kernel_rfl) (by kernel_rfl)]
      unfold Ev.userE; unfold tc at hnum
      rw [hnum]
    · show (if 6 + m < 2 ^ 20 then some (LV.pv (PV.txt (6 + m))) else none) = _
      rw [if_pos (by omega)]
  · show (if 6 + m + 11 < 2 ^ 20 then some (LV.pv (PV.txt (6 + m + 11))) else none) = _
    rw [if_pos (by omega)]
/-- what a goal becomes -/
noncomputable def rs (al : List (Nat × Nat)) : Option Nat → Option Nat
  | none => some 2
  | some n => lk al n
theorem rl (k : Nat) {al : List (Nat × Nat)} {e : Nat} (he : ∀ n a, lk al n = some a → a < e) {g : Option Nat} (hg : ∀ n, g = some n → n < 64) :
    CallTo (tc (k + 40) "resolve_label" none [gl g, dA al, .int (Int.ofNat e)]) ((rs al g).map nat) := by
  cases g with
  | none => exact rl_none (k + 20) al e
  | some n =>
    cases h : lk al n with
    | some a =>
      rw [show rs al (some n) = some a from h]
      exact rl_ok (k + 20) h (he n a h)
    | none =>
      rw [show rs al (some n) = none from h]
      exact rl_exc k h (hg n rfl)
end Mine
set_option maxHeartbeats 400000
namespace Mine
open PySem

theorem opt_map {α β : Type} {o : Option α} {f : α → β} {p : β} (h : o.map f = some p) : ∃ a, o = some a ∧ p = f a := by
  cases o with
  | none => cases h
  | some a => exact ⟨a, rfl, (Option.some.inj h).symm⟩
theorem opt_none {α β : Type} {o : Option α} {f : α → β} (h : o.map f = none) : o = none := by
  cases o with
  | none => rfl
  | some a => cases h

noncomputable def loRT (P : PV) (al : List (Nat × Nat)) (e : Nat) (t p : Str × Option LV) : Lo := [V "pairs" P, V "addresses" (dA al), V "end" (nat e), t, p]
noncomputable abbrev bRT : List Stmt := bodyOf (nth (bD "resolve_table") 1)
theorem rt_turn (k : Nat) {P : PV} {al : List (Nat × Nat)} {e : Nat} {m : MO} {key : PV} {g : Option Nat} {f : Nat → MO} (p0 : Option LV)
    (he : ∀ n a, lk al n = some a → a < e) (hg : ∀ n, g = some n → n < 64) (h1 : cmp .In key m.pv = some false) (hp : ∀ a, Ev.putItem m key (nat a) = some (f a)) :
    W ((T (k + 50)).ss (scD "resolve_table") (bRT.drop 0) (setLo (loRT P al e (O "table" m) ("pair", p0)) "pair" (.pv (.tup [key, gl g]))))
      (fun fl lo' => ∃ a, rs al g = some a ∧ fl = .next ∧ lo' = loRT P al e (O "table" (f a)) (V "pair" (.tup [key, gl g]))) (rs al g = none) := by
  refine W.iff (c := false) (lo' := loRT P al e (O "table" m) (V "pair" (.tup [key, gl g]))) (by kernel_rfl) ?_ (W.nil (by kernel_rfl) ?_)
  · exact cmp_eq (op := .In) (x := .pv key) (y := .var "table") (p := key) (q := m.pv) (by kernel_rfl) (by kernel_rfl) (by kernel_rfl) rfl (by kernel_rfl) h1
  refine W.sub (x := "table") (by kernel_rfl) (by kernel_rfl) ?_
  refine W.callTo (g := "resolve_label") (ps := [gl g, dA al, nat e]) (by kernel_rfl) (by kernel_rfl) (rl (k + 8) he hg) (fun p hp' => ?_) opt_none
  obtain ⟨a, ha, rfl⟩ := opt_map hp'
  refine ⟨m, key, f a, by kernel_rfl, by kernel_rfl, hp a, W.nil (by kernel_rfl) ⟨a, ha, rfl, by kernel_rfl⟩⟩
/-- the pairs of a table -/
noncomputable def pairV (key : PV) (g : Option Nat) : PV := .tup [key, gl g]
theorem rt_one (k : Nat) {al : List (Nat × Nat)} {e : Nat} {key : PV} {g : Option Nat} {f : Nat → MO}
    (he : ∀ n a, lk al n = some a → a < e) (hg : ∀ n, g = some n → n < 64) (h1 : cmp .In key (.dcti [] []) = some false) (hp : ∀ a, Ev.putItem (.dcti [] []) key (nat a) = some (f a)) :
    CallTo (tc (k + 60) "resolve_table" none [.tup [pairV key g], dA al, nat e]) ((rs al g).map fun a => (f a).pv) := by
  refine C.to (lo := loRT (.tup [pairV key g]) al e (U "table") (U "pair")) rfl (by kernel_rfl) ?_
  refine W.pur (lo' := loRT (.tup [pairV key g]) al e (O "table" (.dcti [] [])) (U "pair")) (by kernel_rfl) (by kernel_rfl) ?_
  refine W.for (x := "pair") (by kernel_rfl) (by kernel_rfl) (W.ok (a := [pairV key g]) (lo := loRT (.tup [pairV key g]) al e (O "table" (.dcti [] [])) (U "pair")) (by kernel_rfl) ?_)
  refine W.for_cons (by kernel_rfl) ?_
  refine W.imp (rt_turn (k + 8) (f := f) none he hg h1 hp) ?_ (fun h => by rw [h]; rfl)
  rintro fl lo' ⟨a, ha, rfl, rfl⟩
  refine W.for_nil ?_
  refine K.next (W.out (by kernel_rfl) (f := .ret (.pv (f a).pv)) (lo' := outLo (ts (k + 59) (scD "resolve_table") (nth (bD "resolve_table") 2) (loRT (.tup [pairV key g]) al e (O "table" (f a)) (V "pair" (pairV key g))))) (by kernel_rfl) (by intro h; cases h) ?_)
  exact ⟨_, by rw [ha]; rfl, rfl⟩
noncomputable def t2 (a b : Nat) : MO := .dctt [[5, 2], [4, 2]] [nat a, nat b]
theorem rt_two (k : Nat) {al : List (Nat × Nat)} {e : Nat} {g h : Option Nat}
    (he : ∀ n a, lk al n = some a → a < e) (hg : ∀ n, g = some n → n < 64) (hh : ∀ n, h = some n → n < 64) :
    CallTo (tc (k + 60) "resolve_table" none [.tup [pairV (ck 5) g, pairV (ck 4) h], dA al, nat e]) ((rs al g).bind fun a => (rs al h).map fun b => (t2 a b).pv) := by
  refine C.to (lo := loRT (.tup [pairV (ck 5) g, pairV (ck 4) h]) al e (U "table") (U "pair")) rfl (by kernel_rfl) ?_
  refine W.pur (lo' := loRT (.tup [pairV (ck 5) g, pairV (ck 4) h]) al e (O "table" (.dcti [] [])) (U "pair")) (by kernel_rfl) (by kernel_rfl) ?_
  refine W.for (x := "pair") (by kernel_rfl) (by kernel_rfl) (W.ok (a := [pairV (ck 5) g, pairV (ck 4) h]) (lo := loRT (.tup [pairV (ck 5) g, pairV (ck 4) h]) al e (O "table" (.dcti [] [])) (U "pair")) (by kernel_rfl) ?_)
  refine W.for_cons (by kernel_rfl) ?_
  refine W.imp (rt_turn (k + 8) (key := ck 5) (f := fun a => .dctt [[5, 2]] [nat a]) none he hg rfl (fun a => by kernel_rfl)) ?_ (fun h => by rw [h]; rfl)
  rintro fl lo' ⟨a, ha, rfl, rfl⟩
  refine W.for_cons (by kernel_rfl) ?_
  refine W.imp (rt_turn (k + 8) (key := ck 4) (f := fun b => t2 a b) _ he hh (by kernel_rfl) (fun a => by kernel_rfl)) ?_ (fun h => by rw [ha, h]; rfl)
  rintro fl lo' ⟨b, hb, rfl, rfl⟩
  refine W.for_nil ?_
  refine K.next (W.out (by kernel_rfl) (f := .ret (.pv (t2 a b).pv)) (lo' := outLo (ts (k + 59) (scD "resolve_table") (nth (bD "resolve_table") 2) (loRT (.tup [pairV (ck 5) g, pairV (ck 4) h]) al e (O "table" (t2 a b)) (V "pair" (pairV (ck 4) h))))) (by kernel_rfl) (by intro h; cases h) ?_)
  exact ⟨_, by rw [ha, hb]; rfl, rfl⟩
theorem rt_zero (k : Nat) {al : List (Nat × Nat)} {e : Nat} : CallTo (tc (k + 60) "resolve_table" none [.tup [], dA al, nat e]) (some (.dcti [] [])) := by
  show _ = _
  kernel_rfl

/-! ### resolve_instruction -/
noncomputable abbrev bRI : List Stmt := bD "resolve_instruction"
noncomputable abbrev sRI : Scope := scD "resolve_instruction"
noncomputable def loRI (ins : PV) (al : List (Nat × Nat)) (e : Nat) (ki pa pl va : Str × Option LV) : Lo := [V "table" shV, V "ins" ins, V "addresses" (dA al), V "end" (nat e), ki, pa, pl, va]
noncomputable abbrev aP (parts : List PV) : Str × Option LV := O "parts" (.lst parts)
theorem ri_L (k : Nat) {ins : List PV} {al : List (Nat × Nat)} {e : Nat} {s : Str} {parts : List PV} {p : Nat} {g : Option Nat} (pl va : Option LV) (he : ∀ n a, lk al n = some a → a < e) (hg : ∀ n, g = some n → n < 64)
    (h1 : item (.tup ins) (.int (Int.ofNat p + 1)) = some (gl g)) (h2 : item (.str s) (nat p) = some (.str "L")) (hl : parts.length < 2 ^ 20) :
    W ((T (k + 70)).ss sRI ((bodyOf (nth bRI 3)).drop 0) (setLo (loRI (.tup ins) al e (V "kinds" (.str s)) (aP parts) ("place", pl) ("value", va)) "place" (.pv (nat p))))
      (fun fl lo' => ∃ a, rs al g = some a ∧ fl = .next ∧ lo' = loRI (.tup ins) al e (V "kinds" (.str s)) (aP (parts ++ [nat a])) (V "place" (nat p)) (V "value" (nat a))) (rs al g = none) := by
  refine W.fix (lo' := loRI (.tup ins) al e (V "kinds" (.str s)) (aP parts) (V "place" (nat p)) ("value", va)) (by kernel_rfl) ?_
  refine W.asgE (x := "value") (v := .pv (gl g)) (lo' := loRI (.tup ins) al e (V "kinds" (.str s)) (aP parts) (V "place" (nat p)) ("value", va)) ?h1 ?h2 ?h3 ?h4
  case h1 => kernel_rfl
  case h2 => kernel_rfl
  case h3 => 
    exact item_eq (x := .pv (.tup ins)) (p := .tup ins) (y := .int (Int.ofNat p + 1)) (z := gl g) (by kernel_rfl) (by kernel_rfl) (by kernel_rfl) rfl h1
  refine W.fix (lo' := loRI (.tup ins) al e (V "kinds" (.str s)) (aP parts) (V "place" (nat p)) (V "value" (gl g))) (by kernel_rfl) ?_
  refine W.iff (c := true) (by kernel_rfl) (cmp_eq (op := .Eq) (x := .pv (.str "L")) (y := .pv (.str "L")) (by kernel_rfl) (rd_eq (v := .pv (.str "L")) (by kernel_rfl) (item_eq (x := .pv (.str s)) (p := .str s) (y := nat p) (z := .str "L") (by kernel_rfl) (by kernel_rfl) (by kernel_rfl) rfl h2)) (by kernel_rfl) rfl rfl (by kernel_rfl)) ?_
  refine W.asg (x := "value") (by kernel_rfl) (by kernel_rfl) ?_
  refine W.callTo (g := "resolve_label") (ps := [gl g, dA al, nat e]) (by kernel_rfl) (by kernel_rfl) (rl (k + 27) he hg) (fun p' hp' => ?_) opt_none
  obtain ⟨a, ha, rfl⟩ := opt_map hp'
  refine W.nil (by kernel_rfl) (K.next ?_)
  refine W.fix (lo' := loRI (.tup ins) al e (V "kinds" (.str s)) (aP parts) (V "place" (nat p)) (V "value" (nat a))) (by kernel_rfl) ?_
  refine W.expE (by kernel_rfl) (app_eq (x := "parts") (l := parts) (p := nat a) (by kernel_rfl) (by kernel_rfl) (by kernel_rfl) hl) rfl ?_
  exact W.nil (by kernel_rfl) ⟨a, ha, rfl, by kernel_rfl⟩
theorem ri_T (k : Nat) {ins : List PV} {al : List (Nat × Nat)} {e : Nat} {s : Str} {parts : List PV} {v0 : PV} {o : Option PV} (pl va : Option LV) (hs : s = "TL" ∨ s = "UL")
    (h1 : item (.tup ins) (.int (Int.ofNat 0 + 1)) = some v0) (hl : parts.length < 2 ^ 20) (hc : CallTo (tc (k + 66) "resolve_table" none [v0, dA al, nat e]) o) :
    W ((T (k + 70)).ss sRI ((bodyOf (nth bRI 3)).drop 0) (setLo (loRI (.tup ins) al e (V "kinds" (.str s)) (aP parts) ("place", pl) ("value", va)) "place" (.pv (nat 0))))
      (fun fl lo' => ∃ v, o = some v ∧ fl = .next ∧ lo' = loRI (.tup ins) al e (V "kinds" (.str s)) (aP (parts ++ [v])) (V "place" (nat 0)) (V "value" v)) (o = none) := by
  refine W.fix (lo' := loRI (.tup ins) al e (V "kinds" (.str s)) (aP parts) (V "place" (nat 0)) ("value", va)) (by kernel_rfl) ?_
  refine W.asgE (x := "value") (by kernel_rfl) (by kernel_rfl) (item_eq (x := .pv (.tup ins)) (p := .tup ins) (y := .int (Int.ofNat 0 + 1)) (z := v0) (by kernel_rfl) (by kernel_rfl) (by kernel_rfl) rfl h1) ?_
  refine W.fix (lo' := loRI (.tup ins) al e (V "kinds" (.str s)) (aP parts) (V "place" (nat 0)) (V "value" v0)) (by kernel_rfl) ?_
  refine W.iff (c := false) (lo' := loRI (.tup ins) al e (V "kinds" (.str s)) (aP parts) (V "place" (nat 0)) (V "value" v0)) (by kernel_rfl) (by rcases hs with rfl | rfl <;> kernel_rfl) ?_
  refine W.iff (i := 0) (c := true) (lo' := loRI (.tup ins) al e (V "kinds" (.str s)) (aP parts) (V "place" (nat 0)) (V "value" v0)) (by kernel_rfl) (by rcases hs with rfl | rfl <;> kernel_rfl) ?_
  refine W.asg (x := "value") (by kernel_rfl) (by kernel_rfl) ?_
  refine W.callTo (k := k + 66) (g := "resolve_table") (ps := [v0, dA al, nat e]) (by kernel_rfl) (by kernel_rfl) hc (fun v hv => ?_) id
  refine W.nil (by kernel_rfl) (K.next (W.nil (by kernel_rfl) (K.next ?_)))
  refine W.fix (lo' := loRI (.tup ins) al e (V "kinds" (.str s)) (aP parts) (V "place" (nat 0)) (V "value" v)) (by kernel_rfl) ?_
  refine W.expE (by kernel_rfl) (app_eq (x := "parts") (l := parts) (p := v) (by kernel_rfl) (by kernel_rfl) (by kernel_rfl) hl) rfl ?_
  exact W.nil (by kernel_rfl) ⟨v, hv, rfl, by kernel_rfl⟩
end Mine
set_option maxHeartbeats 400000
set_option linter.unusedSimpArgs false
namespace Mine
open PySem

noncomputable def Row.res {γ δ : Type} (f : γ → Option δ) : Row γ → Option (Row δ)
  | .tr g => (f g).map .tr
  | .ret g => (f g).map .ret
  | .tru g => (f g).map .tru
  | .term a b c d => (f a).bind fun a => (f b).bind fun b => (f c).bind fun c => (f d).map fun d => .term a b c d
  | .con0 g => (f g).map .con0
  | .con1 a g => (f a).bind fun a => (f g).map fun g => .con1 a g
  | .con2 a b g => (f a).bind fun a => (f b).bind fun b => (f g).map fun g => .con2 a b g
  | .str a g => (f a).bind fun a => (f g).map fun g => .str a g
  | .call => some .call
  | .pro => some .pro
/-- the goals of a row -/
noncomputable def Row.goals {γ : Type} : Row γ → List γ
  | .tr g => [g]
  | .ret g => [g]
  | .tru g => [g]
  | .term a b c d => [a, b, c, d]
  | .con0 g => [g]
  | .con1 a g => [a, g]
  | .con2 a b g => [a, b, g]
  | .str a g => [a, g]
  | .call => []
  | .pro => []
noncomputable abbrev lRI (r : PV) (al : List (Nat × Nat)) (e : Nat) (s : Str) (parts : List PV) (pl va : Option LV) : Lo := loRI r al e (V "kinds" (.str s)) (aP parts) ("place", pl) ("value", va)
theorem ri_begin (k : Nat) {r : Row (Option Nat)} {al : List (Nat × Nat)} {e : Nat} {s tag : Str} {items : List PV} {o : Option PV}
    (e1 : ts (k + 99) sRI (nth bRI 1) (loRI r.enc al e (U "kinds") (U "parts") (U "place") (U "value")) = .ok .next (loRI r.enc al e (V "kinds" (.str s)) (U "parts") (U "place") (U "value")))
    (e2 : ts (k + 99) sRI (nth bRI 2) (loRI r.enc al e (V "kinds" (.str s)) (U "parts") (U "place") (U "value")) = .ok .next (lRI r.enc al e s [.str tag] none none))
    (e3 : (T (k + 98)).iterE sRI (iterOf (nth bRI 3)) (lRI r.enc al e s [.str tag] none none) = .ok items (lRI r.enc al e s [.str tag] none none))
    (h : W (Ev.forGo "place" sRI ((T (k + 98)).ss sRI ((bodyOf (nth bRI 3)).drop 0)) items (lRI r.enc al e s [.str tag] none none))
      (fun fl lo' => ∃ parts pl va, fl = .next ∧ lo' = lRI r.enc al e s parts pl va ∧ parts.length < 2 ^ 20 ∧ o = some (.tup parts)) (o = none)) :
    CallTo (tc (k + 100) "resolve_instruction" none [shV, r.enc, dA al, nat e]) o := by
  refine C.to (lo := loRI r.enc al e (U "kinds") (U "parts") (U "place") (U "value")) rfl (by kernel_rfl) ?_
  refine W.exp (by kernel_rfl) (W.user (g := "check_row") (ps := [shV, r.enc, .bool false]) (by kernel_rfl) (by kernel_rfl) (check_ok (k + 37) r) ⟨rfl, ?_⟩)
  refine W.pur (by kernel_rfl) e1 (W.pur (by kernel_rfl) e2 (W.forE (x := "place") (by kernel_rfl) (by kernel_rfl) e3 (W.imp h ?_ id)))
  rintro fl lo' ⟨parts, pl, va, rfl, rfl, hl, ho⟩
  refine K.next (W.rtnE (by kernel_rfl) (b1_eq (g := "tuple") (x := .var "parts") (p := .lst parts) (v := .pv (.tup parts)) (by kernel_rfl) (by kernel_rfl) (by kernel_rfl) ?_) ⟨_, ho, rfl⟩)
  show (if parts.length < 2 ^ 20 then some (LV.pv (PV.tup parts)) else none) = _
  rw [if_pos hl]
variable (k : Nat) {al : List (Nat × Nat)} {e : Nat}

theorem ri_tr {g : Option Nat} (he : ∀ n a, lk al n = some a → a < e) (hg : ∀ x ∈ ((Row.tr g) : Row (Option Nat)).goals, ∀ n, x = some n → n < 64) :
    CallTo (tc (k + 100) "resolve_instruction" none [shV, (Row.tr g).enc, dA al, nat e]) (((Row.tr g).res (rs al)).map Row.cod) := by
  refine ri_begin k (r := (Row.tr g)) (s := "LN") (tag := "try") (items := [nat 0, nat 1]) (by kernel_rfl) (by kernel_rfl) (by kernel_rfl) ?_
  refine W.for_cons (by kernel_rfl) ?_
  refine W.imp (ri_L (k + 28) (s := "LN") (parts := [.str "try"]) (p := 0) (g := g) _ _ he (hg g (by simp [Row.goals])) rfl (by kernel_rfl) (by simp)) ?_ (fun h => by simp only [Row.res, h, Option.bind_none, Option.bind_some, Option.map_none])
  rintro fl lo' ⟨g', hg, rfl, rfl⟩
  refine W.for_cons (by kernel_rfl) ?_
  refine W.ok (a := .next) (lo := lRI (Row.tr g).enc al e "LN" [.str "try", nat g', .int 2] (some (.pv (nat 1))) (some (.pv (.int 2)))) (by kernel_rfl) ?_
  exact W.for_nil ⟨[.str "try", nat g', .int 2], (some (.pv (nat 1))), (some (.pv (.int 2))), rfl, by rfl, by simp, by simp only [Row.res, hg, Option.bind_some, Option.map_some]; rfl⟩
theorem ri_ret {g : Option Nat} (he : ∀ n a, lk al n = some a → a < e) (hg : ∀ x ∈ ((Row.ret g) : Row (Option Nat)).goals, ∀ n, x = some n → n < 64) :
    CallTo (tc (k + 100) "resolve_instruction" none [shV, (Row.ret g).enc, dA al, nat e]) (((Row.ret g).res (rs al)).map Row.cod) := by
  refine ri_begin k (r := (Row.ret g)) (s := "L") (tag := "retry") (items := [nat 0]) (by kernel_rfl) (by kernel_rfl) (by kernel_rfl) ?_
  refine W.for_cons (by kernel_rfl) ?_
  refine W.imp (ri_L (k + 28) (s := "L") (parts := [.str "retry"]) (p := 0) (g := g) _ _ he (hg g (by simp [Row.goals])) rfl (by kernel_rfl) (by simp)) ?_ (fun h => by simp only [Row.res, h, Option.bind_none, Option.bind_some, Option.map_none])
  rintro fl lo' ⟨g', hg, rfl, rfl⟩
  exact W.for_nil ⟨[.str "retry", nat g'], (some (.pv (nat 0))), (some (.pv (nat g'))), rfl, by rfl, by simp, by simp only [Row.res, hg, Option.bind_some, Option.map_some]; rfl⟩
theorem ri_tru {g : Option Nat} (he : ∀ n a, lk al n = some a → a < e) (hg : ∀ x ∈ ((Row.tru g) : Row (Option Nat)).goals, ∀ n, x = some n → n < 64) :
    CallTo (tc (k + 100) "resolve_instruction" none [shV, (Row.tru g).enc, dA al, nat e]) (((Row.tru g).res (rs al)).map Row.cod) := by
  refine ri_begin k (r := (Row.tru g)) (s := "L") (tag := "trust") (items := [nat 0]) (by kernel_rfl) (by kernel_rfl) (by kernel_rfl) ?_
  refine W.for_cons (by kernel_rfl) ?_
  refine W.imp (ri_L (k + 28) (s := "L") (parts := [.str "trust"]) (p := 0) (g := g) _ _ he (hg g (by simp [Row.goals])) rfl (by kernel_rfl) (by simp)) ?_ (fun h => by simp only [Row.res, h, Option.bind_none, Option.bind_some, Option.map_none])
  rintro fl lo' ⟨g', hg, rfl, rfl⟩
  exact W.for_nil ⟨[.str "trust", nat g'], (some (.pv (nat 0))), (some (.pv (nat g'))), rfl, by rfl, by simp, by simp only [Row.res, hg, Option.bind_some, Option.map_some]; rfl⟩
theorem ri_term {a b c d : Option Nat} (he : ∀ n a, lk al n = some a → a < e) (hg : ∀ x ∈ ((Row.term a b c d) : Row (Option Nat)).goals, ∀ n, x = some n → n < 64) :
    CallTo (tc (k + 100) "resolve_instruction" none [shV, (Row.term a b c d).enc, dA al, nat e]) (((Row.term a b c d).res (rs al)).map Row.cod) := by
  refine ri_begin k (r := (Row.term a b c d)) (s := "LLLL") (tag := "switch_on_term") (items := [nat 0, nat 1, nat 2, nat 3]) (by kernel_rfl) (by kernel_rfl) (by kernel_rfl) ?_
  refine W.for_cons (by kernel_rfl) ?_
  refine W.imp (ri_L (k + 28) (s := "LLLL") (parts := [.str "switch_on_term"]) (p := 0) (g := a) _ _ he (hg a (by simp [Row.goals])) rfl (by kernel_rfl) (by simp)) ?_ (fun h => by simp only [Row.res, h, Option.bind_none, Option.bind_some, Option.map_none])
  rintro fl lo' ⟨a', ha, rfl, rfl⟩
  refine W.for_cons (by kernel_rfl) ?_
  refine W.imp (ri_L (k + 28) (s := "LLLL") (parts := [.str "switch_on_term", nat a']) (p := 1) (g := b) _ _ he (hg b (by simp [Row.goals])) rfl (by kernel_rfl) (by simp)) ?_ (fun h => by simp only [Row.res, ha, h, Option.bind_none, Option.bind_some, Option.map_none])
  rintro fl lo' ⟨b', hb, rfl, rfl⟩
  refine W.for_cons (by kernel_rfl) ?_
  refine W.imp (ri_L (k + 28) (s := "LLLL") (parts := [.str "switch_on_term", nat a', nat b']) (p := 2) (g := c) _ _ he (hg c (by simp [Row.goals])) rfl (by kernel_rfl) (by simp)) ?_ (fun h => by simp only [Row.res, ha, hb, h, Option.bind_none, Option.bind_some, Option.map_none])
  rintro fl lo' ⟨c', hc, rfl, rfl⟩
  refine W.for_cons (by kernel_rfl) ?_
  refine W.imp (ri_L (k + 28) (s := "LLLL") (parts := [.str "switch_on_term", nat a', nat b', nat c']) (p := 3) (g := d) _ _ he (hg d (by simp [Row.goals])) rfl (by kernel_rfl) (by simp)) ?_ (fun h => by simp only [Row.res, ha, hb, hc, h, Option.bind_none, Option.bind_some, Option.map_none])
  rintro fl lo' ⟨d', hd, rfl, rfl⟩
  exact W.for_nil ⟨[.str "switch_on_term", nat a', nat b', nat c', nat d'], (some (.pv (nat 3))), (some (.pv (nat d'))), rfl, by rfl, by simp, by simp only [Row.res, ha, hb, hc, hd, Option.bind_some, Option.map_some]; rfl⟩
theorem ri_con0 {g : Option Nat} (he : ∀ n a, lk al n = some a → a < e) (hg : ∀ x ∈ ((Row.con0 g) : Row (Option Nat)).goals, ∀ n, x = some n → n < 64) :
    CallTo (tc (k + 100) "resolve_instruction" none [shV, (Row.con0 g).enc, dA al, nat e]) (((Row.con0 g).res (rs al)).map Row.cod) := by
  refine ri_begin k (r := (Row.con0 g)) (s := "TL") (tag := "switch_on_constant") (items := [nat 0, nat 1]) (by kernel_rfl) (by kernel_rfl) (by kernel_rfl) ?_
  refine W.for_cons (by kernel_rfl) ?_
  refine W.imp (ri_T (k + 28) (s := "TL") (parts := [.str "switch_on_constant"]) (o := (some (.dcti [] []))) _ _ (by first | exact .inl rfl | exact .inr rfl) rfl (by simp) (rt_zero (k + 34))) ?_ (fun h => ?_)
  rotate_left; · cases h
  rintro fl lo' ⟨v, hv, rfl, rfl⟩
  obtain rfl := Option.some.inj hv
  refine W.for_cons (by kernel_rfl) ?_
  refine W.imp (ri_L (k + 28) (s := "TL") (parts := [.str "switch_on_constant", .dcti [] []]) (p := 1) (g := g) _ _ he (hg g (by simp [Row.goals])) rfl (by kernel_rfl) (by simp)) ?_ (fun h => by simp only [Row.res, h, Option.bind_none, Option.bind_some, Option.map_none])
  rintro fl lo' ⟨g', hg, rfl, rfl⟩
  exact W.for_nil ⟨[.str "switch_on_constant", .dcti [] [], nat g'], (some (.pv (nat 1))), (some (.pv (nat g'))), rfl, by rfl, by simp, by simp only [Row.res, hg, Option.bind_some, Option.map_some]; rfl⟩
theorem ri_con1 {a g : Option Nat} (he : ∀ n a, lk al n = some a → a < e) (hg : ∀ x ∈ ((Row.con1 a g) : Row (Option Nat)).goals, ∀ n, x = some n → n < 64) :
    CallTo (tc (k + 100) "resolve_instruction" none [shV, (Row.con1 a g).enc, dA al, nat e]) (((Row.con1 a g).res (rs al)).map Row.cod) := by
  refine ri_begin k (r := (Row.con1 a g)) (s := "TL") (tag := "switch_on_constant") (items := [nat 0, nat 1]) (by kernel_rfl) (by kernel_rfl) (by kernel_rfl) ?_
  refine W.for_cons (by kernel_rfl) ?_
  refine W.imp (ri_T (k + 28) (s := "TL") (parts := [.str "switch_on_constant"]) (o := ((rs al a).map fun a => .dctt [[5, 2]] [nat a])) _ _ (by first | exact .inl rfl | exact .inr rfl) rfl (by simp) (rt_one (k + 34) (key := ck 5) (f := fun a => .dctt [[5, 2]] [nat a]) he (hg a (by simp [Row.goals])) (by kernel_rfl) (fun a => by kernel_rfl))) ?_ (fun h => ?_)
  rotate_left; · simp only [Row.res, opt_none h, Option.bind_none, Option.map_none]
  rintro fl lo' ⟨v, hv, rfl, rfl⟩
  obtain ⟨a', ha, rfl⟩ := opt_map hv
  refine W.for_cons (by kernel_rfl) ?_
  refine W.imp (ri_L (k + 28) (s := "TL") (parts := [.str "switch_on_constant", .dctt [[5, 2]] [nat a']]) (p := 1) (g := g) _ _ he (hg g (by simp [Row.goals])) rfl (by kernel_rfl) (by simp)) ?_ (fun h => by simp only [Row.res, ha, h, Option.bind_none, Option.bind_some, Option.map_none])
  rintro fl lo' ⟨g', hg, rfl, rfl⟩
  exact W.for_nil ⟨[.str "switch_on_constant", .dctt [[5, 2]] [nat a'], nat g'], (some (.pv (nat 1))), (some (.pv (nat g'))), rfl, by rfl, by simp, by simp only [Row.res, ha, hg, Option.bind_some, Option.map_some]; rfl⟩
theorem ri_con2 {a b g : Option Nat} (he : ∀ n a, lk al n = some a → a < e) (hg : ∀ x ∈ ((Row.con2 a b g) : Row (Option Nat)).goals, ∀ n, x = some n → n < 64) :
    CallTo (tc (k + 100) "resolve_instruction" none [shV, (Row.con2 a b g).enc, dA al, nat e]) (((Row.con2 a b g).res (rs al)).map Row.cod) := by
  refine ri_begin k (r := (Row.con2 a b g)) (s := "TL") (tag := "switch_on_constant") (items := [nat 0, nat 1]) (by kernel_rfl) (by kernel_rfl) (by kernel_rfl) ?_
  refine W.for_cons (by kernel_rfl) ?_
  refine W.imp (ri_T (k + 28) (s := "TL") (parts := [.str "switch_on_constant"]) (o := ((rs al a).bind fun a => (rs al b).map fun b => (t2 a b).pv)) _ _ (by first | exact .inl rfl | exact .inr rfl) rfl (by simp) (rt_two (k + 34) (g := a) (h := b) he (hg a (by simp [Row.goals])) (hg b (by simp [Row.goals])))) ?_ (fun h => ?_)
  rotate_left
  · cases ha : rs al a with
    | none => simp only [Row.res, ha, Option.bind_none, Option.map_none]
    | some a' => rw [ha] at h; simp only [Row.res, ha, opt_none h, Option.bind_some, Option.bind_none, Option.map_none]
  rintro fl lo' ⟨v, hv, rfl, rfl⟩
  obtain ⟨a', ha, hv⟩ := Option.bind_eq_some_iff.mp hv
  obtain ⟨b', hb, rfl⟩ := opt_map hv
  refine W.for_cons (by kernel_rfl) ?_
  refine W.imp (ri_L (k + 28) (s := "TL") (parts := [.str "switch_on_constant", (t2 a' b').pv]) (p := 1) (g := g) _ _ he (hg g (by simp [Row.goals])) rfl (by kernel_rfl) (by simp)) ?_ (fun h => by simp only [Row.res, ha, hb, h, Option.bind_none, Option.bind_some, Option.map_none])
  rintro fl lo' ⟨g', hg, rfl, rfl⟩
  exact W.for_nil ⟨[.str "switch_on_constant", (t2 a' b').pv, nat g'], (some (.pv (nat 1))), (some (.pv (nat g'))), rfl, by rfl, by simp, by simp only [Row.res, ha, hb, hg, Option.bind_some, Option.map_some]; rfl⟩
theorem ri_str {a g : Option Nat} (he : ∀ n a, lk al n = some a → a < e) (hg : ∀ x ∈ ((Row.str a g) : Row (Option Nat)).goals, ∀ n, x = some n → n < 64) :
    CallTo (tc (k + 100) "resolve_instruction" none [shV, (Row.str a g).enc, dA al, nat e]) (((Row.str a g).res (rs al)).map Row.cod) := by
  refine ri_begin k (r := (Row.str a g)) (s := "UL") (tag := "switch_on_structure") (items := [nat 0, nat 1]) (by kernel_rfl) (by kernel_rfl) (by kernel_rfl) ?_
  refine W.for_cons (by kernel_rfl) ?_
  refine W.imp (ri_T (k + 28) (s := "UL") (parts := [.str "switch_on_structure"]) (o := ((rs al a).map fun a => .dcti [2] [nat a])) _ _ (by first | exact .inl rfl | exact .inr rfl) rfl (by simp) (rt_one (k + 34) (key := .int 2) (f := fun a => .dcti [2] [nat a]) he (hg a (by simp [Row.goals])) (by kernel_rfl) (fun a => by kernel_rfl))) ?_ (fun h => ?_)
  rotate_left; · simp only [Row.res, opt_none h, Option.bind_none, Option.map_none]
  rintro fl lo' ⟨v, hv, rfl, rfl⟩
  obtain ⟨a', ha, rfl⟩ := opt_map hv
  refine W.for_cons (by kernel_rfl) ?_
  refine W.imp (ri_L (k + 28) (s := "UL") (parts := [.str "switch_on_structure", .dcti [2] [nat a']]) (p := 1) (g := g) _ _ he (hg g (by simp [Row.goals])) rfl (by kernel_rfl) (by simp)) ?_ (fun h => by simp only [Row.res, ha, h, Option.bind_none, Option.bind_some, Option.map_none])
  rintro fl lo' ⟨g', hg, rfl, rfl⟩
  exact W.for_nil ⟨[.str "switch_on_structure", .dcti [2] [nat a'], nat g'], (some (.pv (nat 1))), (some (.pv (nat g'))), rfl, by rfl, by simp, by simp only [Row.res, ha, hg, Option.bind_some, Option.map_some]; rfl⟩
theorem ri_call (he : ∀ n a, lk al n = some a → a < e) (hg : ∀ x ∈ (Row.call : Row (Option Nat)).goals, ∀ n, x = some n → n < 64) :
    CallTo (tc (k + 100) "resolve_instruction" none [shV, Row.call.enc, dA al, nat e]) ((Row.call.res (rs al)).map Row.cod) := by
  refine ri_begin k (r := Row.call) (s := "FN") (tag := "call") (items := [nat 0, nat 1]) (by kernel_rfl) (by kernel_rfl) (by kernel_rfl) ?_
  refine W.for_cons (by kernel_rfl) ?_
  refine W.ok (a := .next) (lo := lRI Row.call.enc al e "FN" [.str "call", .int 24] (some (.pv (nat 0))) (some (.pv (.int 24)))) (by kernel_rfl) ?_
  refine W.for_cons (by kernel_rfl) ?_
  refine W.ok (a := .next) (lo := lRI Row.call.enc al e "FN" [.str "call", .int 24, .int 3] (some (.pv (nat 1))) (some (.pv (.int 3)))) (by kernel_rfl) ?_
  exact W.for_nil ⟨[.str "call", .int 24, .int 3], (some (.pv (nat 1))), (some (.pv (.int 3))), rfl, by rfl, by simp, by simp only [Row.res, Option.bind_some, Option.map_some]; rfl⟩
theorem ri_pro (he : ∀ n a, lk al n = some a → a < e) (hg : ∀ x ∈ (Row.pro : Row (Option Nat)).goals, ∀ n, x = some n → n < 64) :
    CallTo (tc (k + 100) "resolve_instruction" none [shV, Row.pro.enc, dA al, nat e]) ((Row.pro.res (rs al)).map Row.cod) := by
  refine ri_begin k (r := Row.pro) (s := "") (tag := "proceed") (items := []) (by kernel_rfl) (by kernel_rfl) (by kernel_rfl) ?_
  exact W.for_nil ⟨[.str "proceed"], none, none, rfl, by rfl, by simp, by simp only [Row.res, Option.bind_some, Option.map_some]; rfl⟩
theorem ri (r : Row (Option Nat)) (he : ∀ n a, lk al n = some a → a < e) (hg : ∀ g ∈ r.goals, ∀ n, g = some n → n < 64) :
    CallTo (tc (k + 100) "resolve_instruction" none [shV, r.enc, dA al, nat e]) ((r.res (rs al)).map Row.cod) := by
  cases r with
  | tr g => exact ri_tr k he hg
  | ret g => exact ri_ret k he hg
  | tru g => exact ri_tru k he hg
  | term a b c d => exact ri_term k he hg
  | con0 g => exact ri_con0 k he hg
  | con1 a g => exact ri_con1 k he hg
  | con2 a b g => exact ri_con2 k he hg
  | str a g => exact ri_str k he hg
  | call  => exact ri_call k he hg
  | pro  => exact ri_pro k he hg
end Mine
set_option maxHeartbeats 400000
set_option linter.unusedSimpArgs false
namespace Mine
open PySem

/-! ### label_addresses -/
inductive BRow where
  | row (r : Row (Option Nat))
  | lab (n : Nat)
noncomputable def BRow.enc : BRow → PV
  | .row r => r.enc
  | .lab n => labV n
noncomputable def laGo : List BRow → List (Nat × Nat) → Nat → Option (List (Nat × Nat))
  | [], al, _ => some al
  | .row _ :: t, al, a => laGo t al (a + 1)
  | .lab n :: t, al, a => if (lk al n).isSome then none else laGo t (al ++ [(n, a)]) a
noncomputable abbrev bLA : List Stmt := bD "label_addresses"
noncomputable abbrev sLA : Scope := scD "label_addresses"
noncomputable def loLA (B : PV) (b : Nat) (al : List (Nat × Nat)) (a : Nat) (r : Option LV) : Lo := [V "block" B, V "base" (nat b), O "addresses" (.dcti (ksA al) (vsA al)), V "address" (nat a), ("row", r)]
theorem put_new : ∀ {ks : List Int} {vs : List PV} {x : Int} {y : PV}, ks.length = vs.length → look ks vs x = none → put ks vs x y = (ks ++ [x], vs ++ [y])
  | [], [], _, _, _, _ => rfl
  | k :: ks, v :: vs, x, y, hl, h => by
    by_cases e : k = x
    · simp [look, e] at h
    · have h : look ks vs x = none := by simpa [look, e] using h
      have ih := put_new (y := y) (Nat.succ.inj hl) h
      simp [put, e, ih]
theorem la_lab_dup (k : Nat) {B : PV} {b : Nat} {al : List (Nat × Nat)} {a n : Nat} {r0 : Option LV} (hn : n < 64) (h : (lk al n).isSome = true) :
    (T (k + 60)).ss sLA ((bodyOf (nth bLA 2)).drop 0) (setLo (loLA B b al a r0) "row" (.pv (labV n))) = .exc := by
  have hd : (dget (dA al) (nat n)) = some ((lk al n).map nat) := congrArg some (look_lk al n)
  obtain ⟨m, hm, hnum⟩ := num_ok (k + 34) n hn
  refine W.exc ?_
  refine W.fix (lo' := loLA B b al a (some (.pv (labV n)))) (by kernel_rfl) ?_
  refine W.iff (c := true) (lo' := loLA B b al a (some (.pv (labV n)))) (by kernel_rfl) (by kernel_rfl) ?_
  refine W.iff (i := 0) (c := false) (lo' := loLA B b al a (some (.pv (labV n)))) (by kernel_rfl) (by kernel_rfl) (W.nil (by kernel_rfl) (K.next ?_))
  refine W.iff (i := 1) (c := true) (by kernel_rfl) (cmp_eq (op := .In) (x := .pv (nat n)) (y := .var "addresses") (p := nat n) (q := dA al) (by kernel_rfl) (by kernel_rfl) (by kernel_rfl) rfl (by kernel_rfl) ?_) ?_
  · show Option.map (fun o => Option.isSome o) (dget (dA al) (nat n)) = some true
    rw [hd, Option.map_some, Option.isSome_map, h]
  refine W.at (by kernel_rfl) (W.raise (raise_eq (v := .pv (.txt (6 + m + 13))) (n := 6 + m + 13) (by kernel_rfl) ?_ rfl) trivial)
  refine binop_eq (op := .Add) (p := .txt (6 + m)) (q := .str " stands twice") (by kernel_rfl) (pv_eq (v := .pv (.txt (6 + m))) ?_) (by kernel_rfl) ?_
  · refine binop_eq (op := .Add) (p := .str "label ") (q := .txt m) (by kernel_rfl) (by kernel_rfl) (pv_eq (v := .pv (.txt m)) ?_) ?_
    · rw [user_of (g := "number_text") (ps := [.int (Int.ofNat n)]) (by kernel_rfl) (by kernel_rfl)]
      unfold Ev.userE; unfold tc at hnum
      rw [hnum]
    · show (if 6 + m < 2 ^ 20 then some (LV.pv (PV.txt (6 + m))) else none) = _
      rw [if_pos (by omega)]
  · show (if 6 + m + 13 < 2 ^ 20 then some (LV.pv (PV.txt (6 + m + 13))) else none) = _
    rw [if_pos (by omega)]
theorem dA_app (al : List (Nat × Nat)) (n a : Nat) : (ksA al ++ [Int.ofNat n] = ksA (al ++ [(n, a)])) ∧ (vsA al ++ [nat a] = vsA (al ++ [(n, a)])) := by
  constructor
  · simp [ksA]
  · simp [vsA, nat]
theorem la_lab_new (k : Nat) {B : PV} {b : Nat} {al : List (Nat × Nat)} {a n : Nat} {r0 : Option LV} (hl : al.length < 2 ^ 20) (h : (lk al n).isSome = false) :
    (T (k + 60)).ss sLA ((bodyOf (nth bLA 2)).drop 0) (setLo (loLA B b al a r0) "row" (.pv (labV n))) = .ok .next (loLA B b (al ++ [(n, a)]) a (some (.pv (labV n)))) := by
  have hn : lk al n = none := by cases e : lk al n with | none => rfl | some x => rw [e] at h; cases h
  have hd : (dget (dA al) (nat n)) = some ((lk al n).map nat) := congrArg some (look_lk al n)
  refine W.get ?_
  refine W.fix (lo' := loLA B b al a (some (.pv (labV n)))) (by kernel_rfl) ?_
  refine W.iff (c := true) (lo' := loLA B b al a (some (.pv (labV n)))) (by kernel_rfl) (by kernel_rfl) ?_
  refine W.iff (i := 0) (c := false) (lo' := loLA B b al a (some (.pv (labV n)))) (by kernel_rfl) (by kernel_rfl) (W.nil (by kernel_rfl) (K.next ?_))
  refine W.iff (i := 1) (c := false) (by kernel_rfl) (cmp_eq (op := .In) (x := .pv (nat n)) (y := .var "addresses") (p := nat n) (q := dA al) (by kernel_rfl) (by kernel_rfl) (by kernel_rfl) rfl (by kernel_rfl) ?_) (W.nil (by kernel_rfl) (K.next ?_))
  · show Option.map (fun o => Option.isSome o) (dget (dA al) (nat n)) = some false
    rw [hd, Option.map_some, Option.isSome_map, h]
  refine W.sub (x := "addresses") (by kernel_rfl) (by kernel_rfl) (W.ok (a := .pv (nat a)) (lo := loLA B b al a (some (.pv (labV n)))) (by kernel_rfl) ⟨.dcti (ksA al) (vsA al), nat n, .dcti (ksA (al ++ [(n, a)])) (vsA (al ++ [(n, a)])), by kernel_rfl, by kernel_rfl, ?_, ?_⟩)
  · show (if (ksA al).length < 2 ^ 20 then some (MO.dcti (put (ksA al) (vsA al) (Int.ofNat n) (nat a)).1 (put (ksA al) (vsA al) (Int.ofNat n) (nat a)).2) else none) = _
    rw [if_pos (by simpa [ksA] using hl), put_new (by simp [ksA, vsA]) (by rw [look_lk, hn]; rfl), (dA_app al n a).1, (dA_app al n a).2]
  refine W.nil (by kernel_rfl) (K.next (W.nil (by kernel_rfl) ⟨rfl, by kernel_rfl⟩))
theorem la_row (k : Nat) {B : PV} {b : Nat} {al : List (Nat × Nat)} {a : Nat} {r : Row (Option Nat)} {r0 : Option LV} :
    (T (k + 60)).ss sLA ((bodyOf (nth bLA 2)).drop 0) (setLo (loLA B b al a r0) "row" (.pv r.enc)) = .ok .next (loLA B b al (a + 1) (some (.pv r.enc))) := by
  cases r <;> kernel_rfl
noncomputable def labsLt (bs : List BRow) : Prop := ∀ n, .lab n ∈ bs → n < 64
theorem la_go (k : Nat) {B : PV} {b : Nat} : ∀ (bs : List BRow) (al : List (Nat × Nat)) (a : Nat) (r0 : Option LV), labsLt bs → al.length + bs.length < 2 ^ 20 →
    W (Ev.forGo "row" sLA ((T (k + 60)).ss sLA ((bodyOf (nth bLA 2)).drop 0)) (bs.map BRow.enc) (loLA B b al a r0)) (fun f lo' => ∃ al' a' r', f = .next ∧ laGo bs al a = some al' ∧ lo' = loLA B b al' a' r') (laGo bs al a = none)
  | [], al, a, r0, _, _ => W.for_nil ⟨al, a, r0, rfl, rfl, rfl⟩
  | .row r :: t, al, a, r0, h, hl => by
    refine W.for_cons (by kernel_rfl) (W.ok (la_row k) ?_)
    exact la_go k t al (a + 1) _ (fun n hn => h n (List.mem_cons_of_mem _ hn)) (by simp only [List.length_cons] at hl; omega)
  | .lab n :: t, al, a, r0, h, hl => by
    have hn := h n List.mem_cons_self
    simp only [List.length_cons] at hl
    by_cases e : (lk al n).isSome = true
    · refine W.for_cons (by kernel_rfl) (W.raise (la_lab_dup k hn e) ?_)
      show (if _ then _ else _) = _
      rw [if_pos e]
    · refine W.for_cons (by kernel_rfl) (W.ok (la_lab_new k (by omega) (by simpa using e)) ?_)
      refine W.imp (la_go k t (al ++ [(n, a)]) a _ (fun n hn => h n (List.mem_cons_of_mem _ hn)) (by simp only [List.length_append, List.length_cons, List.length_nil]; omega)) ?_ ?_
      · rintro f lo' ⟨al', a', r', h1, h2, h3⟩
        refine ⟨al', a', r', h1, ?_, h3⟩
        show (if _ then _ else _) = _
        rw [if_neg e]; exact h2
      · intro h2
        show (if _ then _ else _) = _
        rw [if_neg e]; exact h2
theorem la (k : Nat) {bs : List BRow} {b : Nat} (h : labsLt bs) (hl : bs.length < 2 ^ 20) :
    CallTo (tc (k + 62) "label_addresses" none [.lst (bs.map BRow.enc), nat b]) ((laGo bs [] b).map dA) := by
  refine C.to (lo := [V "block" (.lst (bs.map BRow.enc)), V "base" (nat b), U "addresses", U "address", U "row"]) rfl (by kernel_rfl) ?_
  refine W.pur (lo' := [V "block" (.lst (bs.map BRow.enc)), V "base" (nat b), O "addresses" (.dcti [] []), U "address", U "row"]) (by kernel_rfl) (by kernel_rfl) ?_
  refine W.pur (lo' := loLA (.lst (bs.map BRow.enc)) b [] b none) (by kernel_rfl) (by kernel_rfl) ?_
  refine W.forE (x := "row") (items := bs.map BRow.enc) (lo' := loLA (.lst (bs.map BRow.enc)) b [] b none) (by kernel_rfl) (by kernel_rfl) ?_ (W.imp (la_go k bs [] b none h (by simpa using hl)) ?_ (fun h => by rw [h]; rfl))
  · show R.lift (small (bs.map BRow.enc)) _ = _
    unfold small
    rw [if_pos (by simpa using hl)]; rfl
  · rintro f lo' ⟨al', a', r', rfl, h2, rfl⟩
    refine K.next (W.out (f := .ret (.pv (dA al'))) (lo' := outLo (ts (k + 61) sLA (nth bLA 3) (loLA (.lst (bs.map BRow.enc)) b al' a' r'))) (by kernel_rfl) (by kernel_rfl) (by intro h; cases h) ?_)
    exact ⟨_, by rw [h2]; rfl, rfl⟩
end Mine
set_option maxHeartbeats 400000
set_option linter.unusedSimpArgs false
namespace Mine
open PySem

/-! ### assemble -/
noncomputable abbrev bAS : List Stmt := bD "assemble"
noncomputable abbrev sAS : Scope := scD "assemble"
noncomputable def BRow.rowOf : BRow → Option (Row (Option Nat))
  | .row r => some r
  | .lab _ => none
noncomputable def rowsOf (bs : List BRow) : List (Row (Option Nat)) := bs.filterMap BRow.rowOf
noncomputable def BRow.rowV : BRow → Option PV
  | .row r => some r.enc
  | .lab _ => none
theorem rowV_eq (bs : List BRow) : bs.filterMap BRow.rowV = (rowsOf bs).map Row.enc := by
  unfold rowsOf
  rw [List.map_filterMap]
  refine congrArg (fun f => List.filterMap f bs) (funext fun b => ?_)
  cases b <;> rfl
noncomputable def asm (bs : List BRow) (b : Nat) : Option (List (Row Nat)) := (laGo bs [] b).bind fun al => (rowsOf bs).mapM fun r => r.res (rs al)
noncomputable def loAS (B : PV) (b : Nat) (ta ad ro en : Str × Option LV) : Lo := [V "block" B, V "base" (nat b), ta, ad, ro, en]
/-- the block is fit to be laid -/
structure Fit (bs : List BRow) : Prop where
  labs : labsLt bs
  goals : ∀ r, .row r ∈ bs → ∀ x ∈ r.goals, ∀ n, x = some n → n < 64
  len : bs.length < 2 ^ 10
  last : ∃ i r, bs = i ++ [.row r]
theorem as_rows (k : Nat) {bs : List BRow} {b : Nat} {ad : Option LV} (hl : bs.length < 2 ^ 20) :
    te (k + 60) sAS (valOf (nth bAS 2)) (loAS (.lst (bs.map BRow.enc)) b (V "table" shV) ("addresses", ad) (U "rows") (U "end")) =
      .ok (.own (.lst ((rowsOf bs).map Row.enc))) (loAS (.lst (bs.map BRow.enc)) b (V "table" shV) ("addresses", ad) (U "rows") (U "end")) := by
  refine W.get ?_
  refine W.lcomp (x := "row") (v := .pv (.lst (bs.map BRow.enc))) (items := bs.map BRow.enc) (lo' := loAS (.lst (bs.map BRow.enc)) b (V "table" shV) ("addresses", ad) (U "rows") (U "end")) (by kernel_rfl) (by kernel_rfl) rfl (by simpa using hl) ?_
  refine W.ok (comp_filter BRow.enc BRow.rowV bs ?_) ⟨by rw [rowV_eq], rfl⟩
  intro x _
  cases x with
  | row r => cases r <;> kernel_rfl
  | lab n => kernel_rfl
theorem lk_app : ∀ (al : List (Nat × Nat)) (m a n : Nat), lk (al ++ [(m, a)]) n = (lk al n).or (if m = n then some a else none)
  | [], m, a, n => by
    show (if m = n then some a else lk [] n) = _
    by_cases e : m = n
    · rw [if_pos e, if_pos e]; rfl
    · rw [if_neg e, if_neg e]; rfl
  | (p, q) :: r, m, a, n => by
    show (if p = n then some q else lk (r ++ [(m, a)]) n) = (if p = n then some q else lk r n).or _
    by_cases e : p = n
    · rw [if_pos e, if_pos e]; rfl
    · rw [if_neg e, if_neg e]; exact lk_app r m a n
/-- where labels may lie -/
theorem la_bound : ∀ (bs : List BRow) (al : List (Nat × Nat)) (a : Nat) {al' : List (Nat × Nat)}, laGo bs al a = some al' → ∀ n x, lk al' n = some x → lk al n = some x ∨ (a ≤ x ∧ x ≤ a + (rowsOf bs).length)
  | [], al, a, al', h, n, x, hx => by cases h; exact .inl hx
  | .row r :: t, al, a, al', h, n, x, hx => by
    rcases la_bound t al (a + 1) h n x hx with h1 | ⟨h1, h2⟩
    · exact .inl h1
    · refine .inr ⟨by omega, ?_⟩
      show x ≤ a + ((rowsOf t).length + 1)
      omega
  | .lab m :: t, al, a, al', h, n, x, hx => by
    have h : (if (lk al m).isSome then none else laGo t (al ++ [(m, a)]) a) = some al' := h
    split at h
    · cases h
    · rcases la_bound t _ a h n x hx with h1 | ⟨h1, h2⟩
      · rw [lk_app] at h1
        cases e : lk al n with
        | some y => rw [e] at h1; exact .inl h1
        | none =>
          rw [e] at h1
          by_cases e2 : m = n
          · rw [if_pos e2] at h1
            have : a = x := by simpa using h1
            exact .inr ⟨by omega, by omega⟩
          · rw [if_neg e2] at h1; cases h1
      · exact .inr ⟨h1, h2⟩
theorem rowsOf_app (a b : List BRow) : rowsOf (a ++ b) = rowsOf a ++ rowsOf b := List.filterMap_append
/-- the last is a row: a label lies ahead of the end -/
theorem la_end : ∀ (i : List BRow) (r : Row (Option Nat)) (al : List (Nat × Nat)) (a : Nat) {al' : List (Nat × Nat)}, laGo (i ++ [.row r]) al a = some al' → ∀ n x, lk al' n = some x → lk al n = some x ∨ (a ≤ x ∧ x < a + (rowsOf (i ++ [.row r])).length)
  | [], r, al, a, al', h, n, x, hx => by cases h; exact .inl hx
  | .row q :: t, r, al, a, al', h, n, x, hx => by
    rcases la_end t r al (a + 1) h n x hx with h1 | ⟨h1, h2⟩
    · exact .inl h1
    · refine .inr ⟨by omega, ?_⟩
      show x < a + ((rowsOf (t ++ [.row r])).length + 1)
      omega
  | .lab m :: t, r, al, a, al', h, n, x, hx => by
    have h : (if (lk al m).isSome then none else laGo (t ++ [.row r]) (al ++ [(m, a)]) a) = some al' := h
    split at h
    · cases h
    · rcases la_end t r _ a h n x hx with h1 | ⟨h1, h2⟩
      · rw [lk_app] at h1
        cases e : lk al n with
        | some y => rw [e] at h1; exact .inl h1
        | none =>
          rw [e] at h1
          by_cases e2 : m = n
          · rw [if_pos e2] at h1
            have : a = x := by simpa using h1
            refine .inr ⟨by omega, ?_⟩
            show x < a + (rowsOf (t ++ [.row r])).length
            rw [rowsOf_app]
            have : (rowsOf [.row r]).length = 1 := rfl
            rw [List.length_append]; omega
          · rw [if_neg e2] at h1; cases h1
      · exact .inr ⟨h1, h2⟩
theorem mapM_map {α β γ : Type} (f : α → Option β) (g : β → γ) : ∀ (l : List α), (l.mapM fun a => (f a).map g) = (l.mapM f).map (List.map g)
  | [] => rfl
  | a :: l => by
    rw [List.mapM_cons, List.mapM_cons, mapM_map f g l]
    cases f a with
    | none => rfl
    | some b => cases l.mapM f <;> rfl
theorem as_ok (k : Nat) {bs : List BRow} {b : Nat} (F : Fit bs) : CallTo (tc (k + 120) "assemble" none [.lst (bs.map BRow.enc), nat b]) ((asm bs b).map fun c => .lst (c.map Row.cod)) := by
  have hl := F.len
  refine C.to (lo := loAS (.lst (bs.map BRow.enc)) b (V "table" .none) (U "addresses") (U "rows") (U "end")) rfl (by kernel_rfl) ?_
  refine W.pur (lo' := loAS (.lst (bs.map BRow.enc)) b (V "table" shV) (U "addresses") (U "rows") (U "end")) (by kernel_rfl) (by kernel_rfl) ?_
  refine W.asg (x := "addresses") (by kernel_rfl) (by kernel_rfl) ?_
  refine W.callTo (g := "label_addresses") (ps := [.lst (bs.map BRow.enc), nat b]) (by kernel_rfl) (by kernel_rfl) (la (k + 55) F.labs (by omega)) (fun p hp => ?_) (fun h => by unfold asm; rw [opt_none h]; rfl)
  obtain ⟨al, ha, rfl⟩ := opt_map hp
  refine W.fix (lo' := loAS (.lst (bs.map BRow.enc)) b (V "table" shV) (V "addresses" (dA al)) (U "rows") (U "end")) (by kernel_rfl) ?_
  refine W.asgE (x := "rows") (by kernel_rfl) (by kernel_rfl) (as_rows (k + 58) (by omega)) ?_
  refine W.fix (lo' := loAS (.lst (bs.map BRow.enc)) b (V "table" shV) (V "addresses" (dA al)) (O "rows" (.lst ((rowsOf bs).map Row.enc))) (U "end")) (by kernel_rfl) ?_
  have hr : (rowsOf bs).length < 2 ^ 20 := Nat.lt_of_le_of_lt (List.length_filterMap_le _ _) (by omega)
  refine W.asgE (x := "end") (v := .pv (nat (b + (rowsOf bs).length))) (by kernel_rfl) (by kernel_rfl) (binop_eq (op := .Add) (p := nat b) (q := nat (rowsOf bs).length) (by kernel_rfl) (by kernel_rfl) (pv_eq (v := .pv (nat (rowsOf bs).length)) (b1_eq (g := "len") (x := .var "rows") (p := .lst ((rowsOf bs).map Row.enc)) (by kernel_rfl) (by kernel_rfl) (by kernel_rfl) ?_)) (by kernel_rfl)) ?_
  · rw [len_eq (by simpa using hr), List.length_map]; rfl
  refine W.fix (lo' := loAS (.lst (bs.map BRow.enc)) b (V "table" shV) (V "addresses" (dA al)) (O "rows" (.lst ((rowsOf bs).map Row.enc))) (V "end" (nat (b + (rowsOf bs).length)))) (by kernel_rfl) ?_
  refine W.rtn (by kernel_rfl) ?_
  refine W.lcomp (x := "row") (v := .pv (.lst ((rowsOf bs).map Row.enc))) (items := (rowsOf bs).map Row.enc) (lo' := loAS (.lst (bs.map BRow.enc)) b (V "table" shV) (V "addresses" (dA al)) (V "rows" (.lst ((rowsOf bs).map Row.enc))) (V "end" (nat (b + (rowsOf bs).length)))) (by kernel_rfl) (by kernel_rfl) rfl (by simpa using hr) ?_
  have key := comp_all (f := compF (k + 117) "row" (valOf (nth bAS 4))) (lo := loAS (.lst (bs.map BRow.enc)) b (V "table" shV) (V "addresses" (dA al)) (V "rows" (.lst ((rowsOf bs).map Row.enc))) (V "end" (nat (b + (rowsOf bs).length)))) Row.enc (fun r => (r.res (rs al)).map Row.cod) (rowsOf bs) ?_
  · refine W.to key ?_
    rw [mapM_map]
    have e : asm bs b = (rowsOf bs).mapM fun r => r.res (rs al) := by unfold asm; rw [ha]; rfl
    rw [e]
    cases (rowsOf bs).mapM fun r => r.res (rs al) with
    | none => exact ⟨rfl⟩
    | some c => exact ⟨_, rfl, rfl⟩
  · intro r hr'
    obtain ⟨i, q, hbs⟩ := F.last
    have he : ∀ n a, lk al n = some a → a < b + (rowsOf bs).length := by
      intro n a hna
      rw [hbs] at ha ⊢
      rcases la_end i q [] b ha n a hna with h | h
      · cases h
      · exact h.2
    have hg : ∀ x ∈ r.goals, ∀ n, x = some n → n < 64 := by
      obtain ⟨y, hy, e⟩ := List.mem_filterMap.mp hr'
      cases y with
      | lab n => cases e
      | row r' =>
        obtain rfl := Option.some.inj e
        exact F.goals r' hy
    have hc := ri (k + 16) r he hg
    cases hres : r.res (rs al) with
    | none =>
      rw [hres] at hc
      refine compF_exc rfl ?_
      rw [user_of (g := "resolve_instruction") (ps := [shV, r.enc, dA al, nat (b + (rowsOf bs).length)]) (by kernel_rfl) (by kernel_rfl)]
      unfold Ev.userE
      have hc : (T (k + 116)).c "resolve_instruction" none [shV, r.enc, dA al, nat (b + (rowsOf bs).length)] = .exc := hc
      rw [hc]
    | some c =>
      rw [hres] at hc
      refine compF_ok (v := .pv c.cod) rfl ?_
      rw [user_of (g := "resolve_instruction") (ps := [shV, r.enc, dA al, nat (b + (rowsOf bs).length)]) (by kernel_rfl) (by kernel_rfl)]
      unfold Ev.userE
      have hc : (T (k + 116)).c "resolve_instruction" none [shV, r.enc, dA al, nat (b + (rowsOf bs).length)] = .ok (.pv c.cod) none := hc
      rw [hc]

/-! ### _law_made -/
noncomputable def codesV (c : List (Row Nat)) : PV := .lst (c.map Row.cod)
noncomputable def madeV (o : Option (List (Row Nat))) : PV := match o with
  | some c => codesV c
  | none => .none
theorem made_ok (k : Nat) {bs : List BRow} {b : Nat} (F : Fit bs) : tc (k + 130) "_law_made" none [.lst (bs.map BRow.enc), nat b] = .ok (.pv (madeV (asm bs b))) none := by
  refine C.run (lo := [V "rows" (.lst (bs.map BRow.enc)), V "start" (nat b)]) rfl (by kernel_rfl) ?_
  have hb := as_ok (k + 5) (b := b) F
  have key : W ((T (k + 128)).ss (scD "_law_made") ((bodyOf (nth (bD "_law_made") 0)).drop 0) [V "rows" (.lst (bs.map BRow.enc)), V "start" (nat b)]) (fun f _ => ∃ c, asm bs b = some c ∧ f = .ret (.pv (codesV c))) (asm bs b = none) := by
    refine W.rtn (by kernel_rfl) (W.callTo (g := "assemble") (ps := [.lst (bs.map BRow.enc), nat b]) (by kernel_rfl) (by kernel_rfl) (as_ok (k + 6) F) (fun p hp => ?_) opt_none)
    obtain ⟨c, hc, rfl⟩ := opt_map hp
    exact ⟨c, hc, rfl⟩
  refine W.at (by kernel_rfl) (W.to (try_eq (by kernel_rfl)) ?_)
  unfold tryR
  have key : W ((T (k + 128)).ss (scD "_law_made") (bodyOf (nth (bD "_law_made") 0)) [V "rows" (.lst (bs.map BRow.enc)), V "start" (nat b)]) (fun f _ => ∃ c, asm bs b = some c ∧ f = .ret (.pv (codesV c))) (asm bs b = none) := key
  show W (match (T (k + 128)).ss (scD "_law_made") (bodyOf (nth (bD "_law_made") 0)) [V "rows" (.lst (bs.map BRow.enc)), V "start" (nat b)] with | .exc => _ | q => q) _ _
  cases e : (T (k + 128)).ss (scD "_law_made") (bodyOf (nth (bD "_law_made") 0)) [V "rows" (.lst (bs.map BRow.enc)), V "start" (nat b)] with
  | ok f l =>
    rw [e] at key
    obtain ⟨c, hc, rfl⟩ := key.1
    rw [hc]
    exact ⟨rfl⟩
  | exc =>
    rw [e] at key
    rw [show asm bs b = none from key.1]
    exact ⟨rfl⟩
  | fail => rw [e] at key; exact key.1.elim
end Mine
set_option maxHeartbeats 400000
set_option linter.unusedSimpArgs false
namespace Mine
open PySem

/-! ### rules for draws -/
noncomputable def isSlice (e : Expr) : Bool := xSubscript false e fun _ i _ => xSlice false i fun a b c _ => non false a (non false c (yes false b fun _ => true))
theorem isSlice_inv {e : Expr} (h : isSlice e = true) : ∃ v u q1 q2, e = .Subscript v (.Slice none (some u) none q1) q2 := by
  obtain ⟨v, i, q2, h1, h⟩ := xSubscript_inv tf h
  obtain ⟨a, b, c, q1, h2, h⟩ := xSlice_inv tf h
  obtain ⟨h3, h⟩ := non_inv tf h
  obtain ⟨h4, h⟩ := non_inv tf h
  obtain ⟨u, h5, h⟩ := yes_inv tf h
  exact ⟨v, u, q1, q2, by rw [h1, h2, h3, h4, h5]⟩
noncomputable def sliceU (e : Expr) : Expr := xSubscript dE e fun _ i _ => xSlice dE i fun _ b _ _ => b.getD dE
noncomputable def isIfE (e : Expr) : Bool := xIfExp false e fun _ _ _ _ => true
noncomputable def ifT (e : Expr) : Expr := xIfExp dE e fun t _ _ _ => t
noncomputable def ifA (e : Expr) : Expr := xIfExp dE e fun _ a _ _ => a
noncomputable def ifB (e : Expr) : Expr := xIfExp dE e fun _ _ b _ => b
section
variable {k : Nat} {sc : Scope} {e : Expr} {lo : Lo} {Q : LV → Lo → Prop} {X : Prop}
theorem W.item {x : Rd} (hi : isSub e = true) (h1 : (T k).rdE sc (subV e) lo = .ok x lo) (h : W (te k sc (subI e) lo) (fun y lo' => ∃ p z, Ev.val x lo' = .ok p lo' ∧ item p y.toPV = some z ∧ Q (.pv z) lo') X) : W (te (k + 1) sc e lo) Q X := by
  obtain ⟨v, i, q, hs, rfl⟩ := isSub_inv hi
  refine W.to (congrFun (sub_not hs) lo) ?_
  refine W.bind (W.ok (show (T k).rdE sc v lo = .ok x lo from h1) (W.bind (W.bind (W.mono h fun y lo' q => ⟨?_⟩))))
  obtain ⟨p, z, h2, h3, h4⟩ := q
  show W (R.bind _ _ lo') _ _
  refine W.bind (W.ok h2 ?_)
  rw [h3]; exact ⟨h4⟩
theorem W.slice {x : Rd} (hi : isSlice e = true) (h1 : (T k).rdE sc (subV e) lo = .ok x lo) (h : W (te k sc (sliceU e) lo) (fun y lo' => ∃ p z, Ev.val x lo' = .ok p lo' ∧ slice p y.toPV = some z ∧ Q z lo') X) : W (te (k + 1) sc e lo) Q X := by
  obtain ⟨v, u, q1, q2, rfl⟩ := isSlice_inv hi
  show W ((((T k).rdE sc v).bind fun x => ((T k).pvE sc u).bind fun y => (Ev.val x).bind fun p => R.lift (Mine.slice p y)) lo) Q X
  refine W.bind (W.ok (show (T k).rdE sc v lo = .ok x lo from h1) (W.bind (W.bind (W.mono h fun y lo' q => ⟨?_⟩))))
  obtain ⟨p, z, h2, h3, h4⟩ := q
  show W (R.bind _ _ lo') _ _
  refine W.bind (W.ok h2 ?_)
  rw [h3]; exact ⟨h4⟩
theorem W.b1 {g : Str} (hi : isB1 sc g e = true) (hn : notName (eth (eltsOf e) 0) = true) (h : W (te k sc (eth (eltsOf e) 0) lo) (fun v lo' => ∃ r, bcall g v.toPV = some r ∧ Q r lo') X) : W (te (k + 1) sc e lo) Q X := by
  obtain ⟨q1, a, q2, ⟨⟨⟨h5, h6⟩, h7⟩, h8⟩, rfl⟩ := isB1_inv hi
  rw [callE_b1 h5 h6 h7 h8, rd_not (e := a) hn]
  have h : W (te k sc a lo) (fun v lo' => ∃ r, bcall g v.toPV = some r ∧ Q r lo') X := h
  refine W.bind (W.bind (W.bind (W.mono h fun v lo' q => ⟨⟨?_⟩⟩)))
  obtain ⟨r, h1, h2⟩ := q
  show W (R.bind _ _ lo') _ _
  refine W.bind ⟨?_⟩
  show W (R.lift (bcall g v.toPV) lo') Q X
  rw [h1]; exact ⟨h2⟩
theorem W.meth {x m : Str} {l0 : List PV} (hi : isMeth sc x m e = true) (h1 : getLo lo x = some (.own (.lst l0))) (h : W ((T k).evs sc ((eltsOf e).drop 0) lo) (fun ps lo' => ∃ l p l', getLo lo' x = some (.own (.lst l)) ∧ Ev.lmeth m l ps = some (p, l') ∧ Q (.pv p) (setLo lo' x (.own (.lst l')))) X) :
    W (te (k + 1) sc e lo) Q X := by
  obtain ⟨q1, apos, args, pos, M, rfl⟩ := isMeth_inv hi
  rw [callE_meth M]
  unfold Ev.ownFirst
  rw [h1]
  have h : W ((T k).evs sc args lo) _ X := h
  refine W.bind (W.mono h fun ps lo' q => ?_)
  obtain ⟨l, p, l', h2, h3, h4⟩ := q
  unfold Ev.methGo
  rw [h2]
  show W (match Ev.lmeth m l ps with | some (p, l') => _ | none => _) _ _
  rw [h3]
  exact ⟨h4⟩
theorem W.ife {c : Bool} (hi : isIfE e = true) (hb : tb k sc (ifT e) lo = .ok c lo) (h : W (te k sc (if c then ifA e else ifB e) lo) Q X) : W (te (k + 1) sc e lo) Q X := by
  obtain ⟨t, a, b, p, rfl, _⟩ := xIfExp_inv tf hi
  show W (R.bind (tb k sc t) _ lo) _ _
  refine W.bind (W.ok hb ?_)
  cases c <;> exact h
end
theorem lapp_eq {l : List PV} {p : PV} (h : l.length < 2 ^ 20) : Ev.lmeth "append" l [p] = some (.none, l ++ [p]) := by
  unfold Ev.lmeth
  rw [if_neg (Nat.not_le.mpr h)]; rfl
theorem lpop_eq {l : List PV} {p : PV} (h : (l ++ [p]).length < 2 ^ 20) : Ev.lmeth "pop" (l ++ [p]) [] = some (p, l) := by
  unfold Ev.lmeth
  rw [if_neg (Nat.not_le.mpr h), if_neg (by decide +kernel), if_pos rfl, List.getLast?_concat]
  simp only []
  rw [List.dropLast_concat]
theorem lins_eq {l : List PV} {p : PV} {i : Nat} (h : l.length < 2 ^ 20) (hi : i ≤ l.length) : Ev.lmeth "insert" l [.int (Int.ofNat i), p] = some (.none, l.take i ++ p :: l.drop i) := by
  unfold Ev.lmeth
  rw [if_neg (Nat.not_le.mpr h), if_neg (by decide +kernel), if_neg (by decide +kernel), if_pos rfl]
  simp only []
  rw [if_pos ⟨Int.natCast_nonneg i, Int.ofNat_le.mpr hi⟩]; rfl
theorem lrev_eq {l : List PV} (h : l.length < 2 ^ 20) : Ev.lmeth "reverse" l [] = some (.none, l.reverse) := by
  unfold Ev.lmeth
  rw [if_neg (Nat.not_le.mpr h), if_neg (by decide +kernel), if_neg (by decide +kernel), if_neg (by decide +kernel), if_pos rfl]
theorem lrem_eq {l l' : List PV} {p : PV} (h : l.length < 2 ^ 20) (hg : Ev.lmeth.go p l = some l') : Ev.lmeth "remove" l [p] = some (.none, l') := by
  unfold Ev.lmeth
  rw [if_neg (Nat.not_le.mpr h), if_neg (by decide +kernel), if_neg (by decide +kernel), if_neg (by decide +kernel), if_neg (by decide +kernel), if_pos rfl]
  simp only []
  rw [hg]; rfl
/-- a lent call, its end found on the way -/
theorem C.lentE {k : Nat} {g : Str} {m : MO} {ps : List PV} {lo : Lo} {P : PV → MO → Prop} (hd : (findFn g bodyL).isSome = true) (hl : Ev.lendOk (fnD g) (some m) = true) (hx : (Ev.argNames (fnD g).params).head? = some figs) (hb : Ev.bindLo (Ev.argNames (fnD g).params) (Ev.fill (fnD g).params (.own m :: ps.map .pv)) (Ev.lo0 (fnD g).scope.names) = some lo)
    (h : W ((T k).ss (marks (fnD g).scope) ((fnD g).body.drop 0) lo) (fun f lo' => ∃ p m', P p m' ∧ f = .ret (.pv p) ∧ getLo lo' figs = some (.own m')) False) : ∃ p m', P p m' ∧ tc (k + 1) g (some m) ps = .ok (.pv p) (some m') := by
  cases e : (T k).ss (marks (fnD g).scope) ((fnD g).body.drop 0) lo with
  | ok f lo' =>
    rw [e] at h
    obtain ⟨p, m', hP, rfl, h2⟩ := h.1
    exact ⟨p, m', hP, C.lent hd hl hx hb (W.ok e ⟨rfl, h2⟩)⟩
  | exc => rw [e] at h; exact h.1.elim
  | fail => rw [e] at h; exact h.1.elim

/-! ### figures -/
noncomputable def FG (l : List PV) : Prop := ∃ ls : List Int, l = ls.map .int ∧ ls.length < 2 ^ 20
noncomputable abbrev sDr : Scope := marks (scD "_law_draw")
theorem draw_run (k : Nat) {l : List PV} {m : Nat} (hF : FG l) (hm : 0 < m) : ∃ p m', (∃ d l', p = nat d ∧ d < m ∧ m' = .lst l' ∧ FG l') ∧ tc (k + 12) "_law_draw" (some (.lst l)) [nat m] = .ok (.pv p) (some m') := by
  obtain ⟨ls, rfl, hl⟩ := hF
  rcases List.eq_nil_or_concat ls with rfl | ⟨i, x, rfl⟩
  · exact ⟨nat 0, .lst [], ⟨0, [], rfl, hm, rfl, [], rfl, by simp⟩, by kernel_rfl⟩
  · have e : (i.concat x).map PV.int = i.map PV.int ++ [PV.int x] := by rw [List.concat_eq_append, List.map_append]; rfl
    rw [e]
    have hl' : (i.map PV.int ++ [PV.int x]).length < 2 ^ 20 := by simpa using hl
    have hx : ∃ d : Nat, d < m ∧ x % (Int.ofNat m) = Int.ofNat d := by
      have h0 : (0 : Int) < Int.ofNat m := Int.ofNat_lt.mpr hm
      have h1 := Int.emod_nonneg x (Int.ne_of_gt h0)
      have h2 := Int.emod_lt_of_pos x h0
      refine ⟨(x % Int.ofNat m).toNat, ?_, ?_⟩
      · have := Int.toNat_of_nonneg h1
        have h3 : ((x % Int.ofNat m).toNat : Int) < (m : Int) := by rw [this]; exact h2
        exact Int.ofNat_lt.mp h3
      · exact (Int.toNat_of_nonneg h1).symm
    obtain ⟨d, hd, hxd⟩ := hx
    refine ⟨nat d, .lst (i.map PV.int), ⟨d, _, rfl, hd, rfl, i, rfl, ?_⟩, ?_⟩
    · simp at hl; omega
    refine C.lent (lo := [O "figures" (.lst (i.map PV.int ++ [PV.int x])), V "many" (nat m)]) rfl (by kernel_rfl) (by kernel_rfl) (by kernel_rfl) ?_
    refine W.iff (c := false) (by kernel_rfl) (cmp_eq (op := .Eq) (x := .var "figures") (y := .pv (.lst [])) (p := .lst (i.map PV.int ++ [PV.int x])) (q := .lst []) (by kernel_rfl) (by kernel_rfl) (by kernel_rfl) (by kernel_rfl) rfl ?_) (W.nil (by kernel_rfl) (K.next ?_))
    · show (if (i.map PV.int ++ [PV.int x]).length = ([] : List PV).length then _ else some false) = _
      rw [if_neg (by simp)]
    refine W.rtn (by kernel_rfl) (W.bin (op := .Mod) (by kernel_rfl) ?_)
    refine W.ok (meth_eq (lo' := [O "figures" (.lst (i.map PV.int ++ [PV.int x])), V "many" (nat m)]) (x := "figures") (m := "pop") (l := i.map PV.int ++ [PV.int x]) (l' := i.map PV.int) (ps := []) (p := .int x) (by kernel_rfl) (by kernel_rfl) (by kernel_rfl) (by kernel_rfl) (lpop_eq hl')) ?_
    refine W.ok (a := .pv (nat m)) (lo := [O "figures" (.lst (i.map PV.int)), V "many" (nat m)]) (by kernel_rfl) ⟨.pv (nat d), ?_, rfl, by kernel_rfl⟩
    show (if (0 : Int) < Int.ofNat m then some (LV.pv (PV.int (x % Int.ofNat m))) else none) = _
    rw [if_pos (show (0 : Int) < Int.ofNat m from Int.ofNat_lt.mpr hm), hxd]; rfl
theorem W.draw {k : Nat} {sc : Scope} {e : Expr} {lo : Lo} {l : List PV} {m : Nat} {Q : LV → Lo → Prop} {X : Prop} (hi : isLend sc "_law_draw" e = true) (hm : getLo lo figs = some (.own (.lst l))) (hF : FG l) (hp : (T (k + 12)).evs sc ((eltsOf e).drop 1) lo = .ok [nat m] lo) (h0 : 0 < m)
    (q : ∀ d l', d < m → FG l' → Q (.pv (nat d)) (setLo lo figs (.own (.lst l')))) : W (te (k + 13) sc e lo) Q X := by
  obtain ⟨p, m', ⟨d, l', rfl, hd, rfl, hF'⟩, h⟩ := draw_run k hF h0
  exact W.lend hi hm hp h (q d l' hd hF')
end Mine
set_option maxHeartbeats 400000
set_option linter.unusedSimpArgs false
namespace Mine
open PySem

noncomputable abbrev nsV (ns : List Nat) : PV := .lst (ns.map nat)
noncomputable abbrev sGo : Scope := marks (scD "_law_goal")
noncomputable def loGo (l : List PV) (ns : List Nat) (sp : Option LV) : Lo := [O "figures" (.lst l), V "names" (nsV ns), ("spot", sp)]
theorem goal_last (k : Nat) {l : List PV} : ∀ (ns : List Nat) (d : Nat), ns.length ≤ 4 → d < ns.length + 1 → ∃ g, (∀ n, g = some n → n ∈ ns) ∧ ts (k + 13) sGo (nth (bD "_law_goal") 1) (loGo l ns (some (.pv (nat d)))) = .ok (.ret (.pv (gl g))) (loGo l ns (some (.pv (nat d))))
  | [], 0, _, _ => ⟨none, fun n h => (by cases h), by kernel_rfl⟩
  | [], _ + 1, _, h => absurd h (by simp only [List.length_cons, List.length_nil]; omega)
  | [a], 0, _, _ => ⟨some a, fun n h => (by cases h; simp), by kernel_rfl⟩
  | [a], 1, _, _ => ⟨none, fun n h => (by cases h), by kernel_rfl⟩
  | [a], _ + 2, _, h => absurd h (by simp only [List.length_cons, List.length_nil]; omega)
  | [a, b], 0, _, _ => ⟨some a, fun n h => (by cases h; simp), by kernel_rfl⟩
  | [a, b], 1, _, _ => ⟨some b, fun n h => (by cases h; simp), by kernel_rfl⟩
  | [a, b], 2, _, _ => ⟨none, fun n h => (by cases h), by kernel_rfl⟩
  | [a, b], _ + 3, _, h => absurd h (by simp only [List.length_cons, List.length_nil]; omega)
  | [a, b, c], 0, _, _ => ⟨some a, fun n h => (by cases h; simp), by kernel_rfl⟩
  | [a, b, c], 1, _, _ => ⟨some b, fun n h => (by cases h; simp), by kernel_rfl⟩
  | [a, b, c], 2, _, _ => ⟨some c, fun n h => (by cases h; simp), by kernel_rfl⟩
  | [a, b, c], 3, _, _ => ⟨none, fun n h => (by cases h), by kernel_rfl⟩
  | [a, b, c], _ + 4, _, h => absurd h (by simp only [List.length_cons, List.length_nil]; omega)
  | [a, b, c, e], 0, _, _ => ⟨some a, fun n h => (by cases h; simp), by kernel_rfl⟩
  | [a, b, c, e], 1, _, _ => ⟨some b, fun n h => (by cases h; simp), by kernel_rfl⟩
  | [a, b, c, e], 2, _, _ => ⟨some c, fun n h => (by cases h; simp), by kernel_rfl⟩
  | [a, b, c, e], 3, _, _ => ⟨some e, fun n h => (by cases h; simp), by kernel_rfl⟩
  | [a, b, c, e], 4, _, _ => ⟨none, fun n h => (by cases h), by kernel_rfl⟩
  | [a, b, c, e], _ + 5, _, h => absurd h (by simp only [List.length_cons, List.length_nil]; omega)
  | _ :: _ :: _ :: _ :: _ :: _, _, h, _ => absurd h (by simp only [List.length_cons]; omega)
theorem goal_arg (k : Nat) {l : List PV} : ∀ (ns : List Nat), ns.length ≤ 4 → (T (k + 12)).evs sGo ((eltsOf (valOf (nth (bD "_law_goal") 0))).drop 1) (loGo l ns none) = .ok [nat (ns.length + 1)] (loGo l ns none)
  | [], _ => by kernel_rfl
  | [_], _ => by kernel_rfl
  | [_, _], _ => by kernel_rfl
  | [_, _, _], _ => by kernel_rfl
  | [_, _, _, _], _ => by kernel_rfl
  | _ :: _ :: _ :: _ :: _ :: _, h => absurd h (by simp only [List.length_cons]; omega)
theorem goal_run (k : Nat) {l : List PV} {ns : List Nat} (hF : FG l) (hn : ns.length ≤ 4) :
    ∃ p m', (∃ g l', p = gl g ∧ (∀ n, g = some n → n ∈ ns) ∧ m' = .lst l' ∧ FG l') ∧ tc (k + 15) "_law_goal" (some (.lst l)) [nsV ns] = .ok (.pv p) (some m') := by
  refine C.lentE (lo := loGo l ns none) rfl (by kernel_rfl) (by kernel_rfl) (by kernel_rfl) ?_
  refine W.asg (x := "spot") (by kernel_rfl) (by kernel_rfl) ?_
  refine W.draw (l := l) (m := ns.length + 1) (by kernel_rfl) (by kernel_rfl) hF (goal_arg k ns hn) (Nat.succ_pos _) (fun d l' hd hF' => ?_)
  obtain ⟨g, hg, e⟩ := goal_last (k + 1) (l := l') ns d hn hd
  refine W.fix (lo' := loGo l' ns (some (.pv (nat d)))) (by kernel_rfl) ?_
  exact W.out (by kernel_rfl) e (by intro h; cases h) ⟨gl g, .lst l', ⟨g, l', rfl, hg, rfl, hF'⟩, rfl, by kernel_rfl⟩
theorem W.goal {k : Nat} {sc : Scope} {e : Expr} {lo : Lo} {l : List PV} {ns : List Nat} {Q : LV → Lo → Prop} {X : Prop} (hi : isLend sc "_law_goal" e = true) (hm : getLo lo figs = some (.own (.lst l))) (hF : FG l) (hp : (T (k + 15)).evs sc ((eltsOf e).drop 1) lo = .ok [nsV ns] lo) (hn : ns.length ≤ 4)
    (q : ∀ g l', (∀ n, g = some n → n ∈ ns) → FG l' → Q (.pv (gl g)) (setLo lo figs (.own (.lst l')))) : W (te (k + 16) sc e lo) Q X := by
  obtain ⟨p, m', ⟨g, l', rfl, hg, rfl, hF'⟩, h⟩ := goal_run k hF hn
  exact W.lend hi hm hp h (q g l' hg hF')

/-! ### _law_row_drawn -/
noncomputable abbrev sRD : Scope := marks (scD "_law_row_drawn")
noncomputable abbrev bRD : List Stmt := bD "_law_row_drawn"
noncomputable def loRD (l : List PV) (ns : List Nat) (ki pa tu pr : Option LV) : Lo := [O "figures" (.lst l), V "names" (nsV ns), ("kind", ki), ("parts", pa), ("turn", tu), ("pairs", pr)]
noncomputable def rowIn (ns : List Nat) (r : Row (Option Nat)) : Prop := ∀ x ∈ r.goals, ∀ n, x = some n → n ∈ ns
noncomputable def RD (ns : List Nat) (p : PV) (m' : MO) : Prop := ∃ r l', p = Row.enc r ∧ rowIn ns r ∧ m' = .lst l' ∧ FG l'
noncomputable abbrev QRD (ns : List Nat) : Fl → Lo → Prop := fun f lo' => ∃ p m', RD ns p m' ∧ f = .ret (.pv p) ∧ getLo lo' figs = some (.own m')
variable {k : Nat} {l : List PV} {ns : List Nat} (hF : FG l) (hn : ns.length ≤ 4)
include hF hn
theorem rd_term (k : Nat) {parts : List PV} {tu : Option LV} {t : PV} (hl : parts.length < 2 ^ 20) : W ((T (k + 30)).ss sRD ((bodyOf (nth (thenOf (nth bRD 3)) 1)).drop 0) (setLo (loRD l ns (some (.pv (nat 2))) (some (.own (.lst parts))) tu none) "turn" (.pv t)))
    (fun f lo' => ∃ g l', (∀ n, g = some n → n ∈ ns) ∧ FG l' ∧ f = .next ∧ lo' = loRD l' ns (some (.pv (nat 2))) (some (.own (.lst (parts ++ [gl g])))) (some (.pv t)) none) False := by
  refine W.fix (lo' := loRD l ns (some (.pv (nat 2))) (some (.own (.lst parts))) (some (.pv t)) none) (by kernel_rfl) ?_
  refine W.exp (by kernel_rfl) (W.meth (x := "parts") (m := "append") (l0 := parts) (by kernel_rfl) (by kernel_rfl) ?_)
  refine W.evs (by kernel_rfl) (W.goal (l := l) (ns := ns) (by kernel_rfl) (by kernel_rfl) hF (by kernel_rfl) hn (fun g l' hg hF' => ?_))
  refine W.evs_nil (by kernel_rfl) ⟨parts, .none, parts ++ [gl g], by kernel_rfl, lapp_eq hl, rfl, W.nil (by kernel_rfl) ⟨g, l', hg, hF', rfl, by kernel_rfl⟩⟩
theorem rd_0 (k : Nat) : W ((T (k + 40)).ss sRD ((thenOf (nth bRD 1)).drop 0) (loRD l ns (some (.pv (nat 0))) none none none)) (QRD ns) False := by
  refine W.rtn (by kernel_rfl) (W.tuple (by kernel_rfl) (W.evs (by kernel_rfl) (W.ok (a := .pv (.str "try")) (lo := loRD l ns (some (.pv (nat 0))) none none none) (by kernel_rfl) ?_)))
  refine W.evs (by kernel_rfl) (W.goal (l := l) (ns := ns) (by kernel_rfl) (by kernel_rfl) hF (by kernel_rfl) hn (fun g l' hg hF' => ?_))
  refine W.evs (by kernel_rfl) (W.ok (a := .pv (.int 2)) (lo := loRD l' ns (some (.pv (nat 0))) none none none) (by kernel_rfl) (W.evs_nil (by kernel_rfl) ?_))
  exact ⟨_, .lst l', ⟨.tr g, l', by kernel_rfl, fun x hx => by obtain rfl := List.mem_singleton.mp hx; exact hg, rfl, hF'⟩, rfl, by kernel_rfl⟩
theorem rd_1 (k : Nat) : W ((T (k + 40)).ss sRD ((thenOf (nth bRD 2)).drop 0) (loRD l ns (some (.pv (nat 1))) none none none)) (QRD ns) False := by
  refine W.rtn (by kernel_rfl) (W.tuple (by kernel_rfl) (W.evs (by kernel_rfl) ?_))
  refine W.item (x := .pv (.lst [.str "retry", .str "trust"])) (by kernel_rfl) (by kernel_rfl) ?_
  refine W.draw (l := l) (m := 2) (by kernel_rfl) (by kernel_rfl) hF (by kernel_rfl) (by decide) (fun d l' hd hF' => ?_)
  refine ⟨.lst [.str "retry", .str "trust"], if d = 0 then .str "retry" else .str "trust", rfl, ?_, ?_⟩
  · match d, hd with
    | 0, _ => kernel_rfl
    | 1, _ => kernel_rfl
  refine W.evs (by kernel_rfl) (W.goal (l := l') (ns := ns) (by kernel_rfl) (by kernel_rfl) hF' (by kernel_rfl) hn (fun g l'' hg hF'' => ?_))
  refine W.evs_nil (by kernel_rfl) ?_
  refine ⟨_, .lst l'', ⟨if d = 0 then .ret g else .tru g, l'', ?_, ?_, rfl, hF''⟩, rfl, by kernel_rfl⟩
  · match d, hd with
    | 0, _ => kernel_rfl
    | 1, _ => kernel_rfl
  · match d, hd with
    | 0, _ => exact fun x hx => by obtain rfl := List.mem_singleton.mp hx; exact hg
    | 1, _ => exact fun x hx => by obtain rfl := List.mem_singleton.mp hx; exact hg
theorem rd_2 (k : Nat) : W ((T (k + 40)).ss sRD ((thenOf (nth bRD 3)).drop 0) (loRD l ns (some (.pv (nat 2))) none none none)) (QRD ns) False := by
  refine W.pur (lo' := loRD l ns (some (.pv (nat 2))) (some (.own (.lst [.str "switch_on_term"]))) none none) (by kernel_rfl) (by kernel_rfl) ?_
  refine W.forE (x := "turn") (items := [nat 0, nat 1, nat 2, nat 3]) (lo' := loRD l ns (some (.pv (nat 2))) (some (.own (.lst [.str "switch_on_term"]))) none none) (by kernel_rfl) (by kernel_rfl) (by kernel_rfl) ?_
  refine W.for_cons (by kernel_rfl) (W.imp (rd_term hF hn (k + 9) (by simp)) ?_ False.elim)
  rintro f lo' ⟨a, l1, ha, hF1, rfl, rfl⟩
  refine W.for_cons (by kernel_rfl) (W.imp (rd_term hF1 hn (k + 9) (by simp)) ?_ False.elim)
  rintro f lo' ⟨b, l2, hb, hF2, rfl, rfl⟩
  refine W.for_cons (by kernel_rfl) (W.imp (rd_term hF2 hn (k + 9) (by simp)) ?_ False.elim)
  rintro f lo' ⟨c, l3, hc, hF3, rfl, rfl⟩
  refine W.for_cons (by kernel_rfl) (W.imp (rd_term hF3 hn (k + 9) (by simp)) ?_ False.elim)
  rintro f lo' ⟨d, l4, hd, hF4, rfl, rfl⟩
  refine W.for_nil (K.next (W.rtnE (v := .pv (Row.enc (.term a b c d))) (lo' := loRD l4 ns (some (.pv (nat 2))) (some (.own (.lst [.str "switch_on_term", gl a, gl b, gl c, gl d]))) (some (.pv (nat 3))) none) (by kernel_rfl) (by kernel_rfl) ?_))
  refine ⟨_, .lst l4, ⟨.term a b c d, l4, rfl, ?_, rfl, hF4⟩, rfl, by kernel_rfl⟩
  intro x hx
  have hx : x ∈ [a, b, c, d] := hx
  simp only [List.mem_cons, List.not_mem_nil, or_false] at hx
  rcases hx with rfl | rfl | rfl | rfl <;> assumption
theorem rd_3 (k : Nat) : W ((T (k + 40)).ss sRD ((thenOf (nth bRD 4)).drop 0) (loRD l ns (some (.pv (nat 3))) none none none)) (QRD ns) False := by
  refine W.asg (x := "pairs") (by kernel_rfl) (by kernel_rfl) (W.list (by kernel_rfl) (W.evs (by kernel_rfl) ?_))
  refine W.tuple (by kernel_rfl) (W.evs (by kernel_rfl) (W.ok (a := .pv (ck 5)) (lo := loRD l ns (some (.pv (nat 3))) none none none) (by kernel_rfl) ?_))
  refine W.evs (by kernel_rfl) (W.goal (l := l) (ns := ns) (by kernel_rfl) (by kernel_rfl) hF (by kernel_rfl) hn (fun a l1 ha hF1 => ?_))
  refine W.evs_nil (by kernel_rfl) (W.evs (by kernel_rfl) ?_)
  refine W.tuple (by kernel_rfl) (W.evs (by kernel_rfl) (W.ok (a := .pv (ck 4)) (lo := loRD l1 ns (some (.pv (nat 3))) none none none) (by kernel_rfl) ?_))
  refine W.evs (by kernel_rfl) (W.goal (l := l1) (ns := ns) (by kernel_rfl) (by kernel_rfl) hF1 (by kernel_rfl) hn (fun b l2 hb hF2 => ?_))
  refine W.evs_nil (by kernel_rfl) (W.evs_nil (by kernel_rfl) ?_)
  refine W.fix (lo' := loRD l2 ns (some (.pv (nat 3))) none none (some (.own (.lst [pairV (ck 5) a, pairV (ck 4) b])))) (by kernel_rfl) ?_
  refine W.rtn (by kernel_rfl) (W.tuple (by kernel_rfl) (W.evs (by kernel_rfl) (W.ok (a := .pv (.str "switch_on_constant")) (lo := loRD l2 ns (some (.pv (nat 3))) none none (some (.own (.lst [pairV (ck 5) a, pairV (ck 4) b])))) (by kernel_rfl) ?_)))
  refine W.evs (by kernel_rfl) (W.b1 (g := "tuple") (by kernel_rfl) (by kernel_rfl) (W.slice (x := .var "pairs") (by kernel_rfl) (by kernel_rfl) ?_))
  refine W.draw (l := l2) (m := 3) (by kernel_rfl) (by kernel_rfl) hF2 (by kernel_rfl) (by decide) (fun d l3 hd hF3 => ?_)
  refine ⟨.lst [pairV (ck 5) a, pairV (ck 4) b], .own (.lst ([pairV (ck 5) a, pairV (ck 4) b].take d)), by kernel_rfl, ?_, .pv (.tup ([pairV (ck 5) a, pairV (ck 4) b].take d)), ?_, ?_⟩
  · match d, hd with
    | 0, _ => kernel_rfl
    | 1, _ => kernel_rfl
    | 2, _ => kernel_rfl
  · match d, hd with
    | 0, _ => kernel_rfl
    | 1, _ => kernel_rfl
    | 2, _ => kernel_rfl
  refine W.evs (by kernel_rfl) (W.goal (l := l3) (ns := ns) (by kernel_rfl) (by kernel_rfl) hF3 (by kernel_rfl) hn (fun g l4 hg hF4 => ?_))
  refine W.evs_nil (by kernel_rfl) ?_
  match d, hd with
  | 0, _ => exact ⟨_, .lst l4, ⟨.con0 g, l4, by kernel_rfl, fun x hx => by obtain rfl := List.mem_singleton.mp hx; exact hg, rfl, hF4⟩, rfl, by kernel_rfl⟩
  | 1, _ => exact ⟨_, .lst l4, ⟨.con1 a g, l4, by kernel_rfl, fun x hx => by
      have hx : x ∈ [a, g] := hx
      simp only [List.mem_cons, List.not_mem_nil, or_false] at hx
      rcases hx with rfl | rfl <;> assumption, rfl, hF4⟩, rfl, by kernel_rfl⟩
  | 2, _ => exact ⟨_, .lst l4, ⟨.con2 a b g, l4, by kernel_rfl, fun x hx => by
      have hx : x ∈ [a, b, g] := hx
      simp only [List.mem_cons, List.not_mem_nil, or_false] at hx
      rcases hx with rfl | rfl | rfl <;> assumption, rfl, hF4⟩, rfl, by kernel_rfl⟩
theorem rd_4 (k : Nat) : W ((T (k + 40)).ss sRD ((thenOf (nth bRD 5)).drop 0) (loRD l ns (some (.pv (nat 4))) none none none)) (QRD ns) False := by
  refine W.rtn (by kernel_rfl) (W.tuple (by kernel_rfl) (W.evs (by kernel_rfl) (W.ok (a := .pv (.str "switch_on_structure")) (lo := loRD l ns (some (.pv (nat 4))) none none none) (by kernel_rfl) ?_)))
  refine W.evs (by kernel_rfl) (W.tuple (by kernel_rfl) (W.evs (by kernel_rfl) (W.tuple (by kernel_rfl) (W.evs (by kernel_rfl) (W.ok (a := .pv (.int 2)) (lo := loRD l ns (some (.pv (nat 4))) none none none) (by kernel_rfl) ?_)))))
  refine W.evs (by kernel_rfl) (W.goal (l := l) (ns := ns) (by kernel_rfl) (by kernel_rfl) hF (by kernel_rfl) hn (fun a l1 ha hF1 => ?_))
  refine W.evs_nil (by kernel_rfl) (W.evs_nil (by kernel_rfl) ?_)
  refine W.evs (by kernel_rfl) (W.goal (l := l1) (ns := ns) (by kernel_rfl) (by kernel_rfl) hF1 (by kernel_rfl) hn (fun g l2 hg hF2 => ?_))
  refine W.evs_nil (by kernel_rfl) ?_
  exact ⟨_, .lst l2, ⟨.str a g, l2, by kernel_rfl, fun x hx => by
      have hx : x ∈ [a, g] := hx
      simp only [List.mem_cons, List.not_mem_nil, or_false] at hx
      rcases hx with rfl | rfl <;> assumption, rfl, hF2⟩, rfl, by kernel_rfl⟩
theorem row_run (k : Nat) : ∃ p m', RD ns p m' ∧ tc (k + 60) "_law_row_drawn" (some (.lst l)) [nsV ns] = .ok (.pv p) (some m') := by
  refine C.lentE (lo := loRD l ns none none none none) rfl (by kernel_rfl) (by kernel_rfl) (by kernel_rfl) ?_
  refine W.asg (x := "kind") (by kernel_rfl) (by kernel_rfl) ?_
  refine W.draw (l := l) (m := 6) (by kernel_rfl) (by kernel_rfl) hF (by kernel_rfl) (by decide) (fun d l' hd hF' => ?_)
  refine W.fix (lo' := loRD l' ns (some (.pv (nat d))) none none none) (by kernel_rfl) ?_
  have none_ : ∀ (f : Fl) (lo : Lo) (i : Nat), (QRD ns) f lo → K (k + 59) sRD (bRD.drop i) (QRD ns) False f lo := by
    intro f lo i h
    obtain ⟨p, m', h1, rfl, h2⟩ := h
    exact ⟨p, m', h1, rfl, h2⟩
  match d, hd with
  | 0, _ =>
    exact W.iff (i := 1) (c := true) (lo' := loRD l' ns (some (.pv (nat 0))) none none none) (by kernel_rfl) (by kernel_rfl) (W.mono (rd_0 hF' hn (k + 18)) fun f lo h => none_ f lo _ h)
  | 1, _ =>
    refine W.iff (i := 1) (c := false) (lo' := loRD l' ns (some (.pv (nat 1))) none none none) (by kernel_rfl) (by kernel_rfl) (W.nil (by kernel_rfl) (K.next ?_))
    exact W.iff (i := 2) (c := true) (lo' := loRD l' ns (some (.pv (nat 1))) none none none) (by kernel_rfl) (by kernel_rfl) (W.mono (rd_1 hF' hn (k + 18)) fun f lo h => none_ f lo _ h)
  | 2, _ =>
    refine W.iff (i := 1) (c := false) (lo' := loRD l' ns (some (.pv (nat 2))) none none none) (by kernel_rfl) (by kernel_rfl) (W.nil (by kernel_rfl) (K.next ?_))
    refine W.iff (i := 2) (c := false) (lo' := loRD l' ns (some (.pv (nat 2))) none none none) (by kernel_rfl) (by kernel_rfl) (W.nil (by kernel_rfl) (K.next ?_))
    exact W.iff (i := 3) (c := true) (lo' := loRD l' ns (some (.pv (nat 2))) none none none) (by kernel_rfl) (by kernel_rfl) (W.mono (rd_2 hF' hn (k + 18)) fun f lo h => none_ f lo _ h)
  | 3, _ =>
    refine W.iff (i := 1) (c := false) (lo' := loRD l' ns (some (.pv (nat 3))) none none none) (by kernel_rfl) (by kernel_rfl) (W.nil (by kernel_rfl) (K.next ?_))
    refine W.iff (i := 2) (c := false) (lo' := loRD l' ns (some (.pv (nat 3))) none none none) (by kernel_rfl) (by kernel_rfl) (W.nil (by kernel_rfl) (K.next ?_))
    refine W.iff (i := 3) (c := false) (lo' := loRD l' ns (some (.pv (nat 3))) none none none) (by kernel_rfl) (by kernel_rfl) (W.nil (by kernel_rfl) (K.next ?_))
    exact W.iff (i := 4) (c := true) (lo' := loRD l' ns (some (.pv (nat 3))) none none none) (by kernel_rfl) (by kernel_rfl) (W.mono (rd_3 hF' hn (k + 18)) fun f lo h => none_ f lo _ h)
  | 4, _ =>
    refine W.iff (i := 1) (c := false) (lo' := loRD l' ns (some (.pv (nat 4))) none none none) (by kernel_rfl) (by kernel_rfl) (W.nil (by kernel_rfl) (K.next ?_))
    refine W.iff (i := 2) (c := false) (lo' := loRD l' ns (some (.pv (nat 4))) none none none) (by kernel_rfl) (by kernel_rfl) (W.nil (by kernel_rfl) (K.next ?_))
    refine W.iff (i := 3) (c := false) (lo' := loRD l' ns (some (.pv (nat 4))) none none none) (by kernel_rfl) (by kernel_rfl) (W.nil (by kernel_rfl) (K.next ?_))
    refine W.iff (i := 4) (c := false) (lo' := loRD l' ns (some (.pv (nat 4))) none none none) (by kernel_rfl) (by kernel_rfl) (W.nil (by kernel_rfl) (K.next ?_))
    exact W.iff (i := 5) (c := true) (lo' := loRD l' ns (some (.pv (nat 4))) none none none) (by kernel_rfl) (by kernel_rfl) (W.mono (rd_4 hF' hn (k + 18)) fun f lo h => none_ f lo _ h)
  | 5, _ =>
    refine W.iff (i := 1) (c := false) (lo' := loRD l' ns (some (.pv (nat 5))) none none none) (by kernel_rfl) (by kernel_rfl) (W.nil (by kernel_rfl) (K.next ?_))
    refine W.iff (i := 2) (c := false) (lo' := loRD l' ns (some (.pv (nat 5))) none none none) (by kernel_rfl) (by kernel_rfl) (W.nil (by kernel_rfl) (K.next ?_))
    refine W.iff (i := 3) (c := false) (lo' := loRD l' ns (some (.pv (nat 5))) none none none) (by kernel_rfl) (by kernel_rfl) (W.nil (by kernel_rfl) (K.next ?_))
    refine W.iff (i := 4) (c := false) (lo' := loRD l' ns (some (.pv (nat 5))) none none none) (by kernel_rfl) (by kernel_rfl) (W.nil (by kernel_rfl) (K.next ?_))
    refine W.iff (i := 5) (c := false) (lo' := loRD l' ns (some (.pv (nat 5))) none none none) (by kernel_rfl) (by kernel_rfl) (W.nil (by kernel_rfl) (K.next ?_))
    exact W.rtnE (v := .pv (Row.enc .call)) (lo' := loRD l' ns (some (.pv (nat 5))) none none none) (by kernel_rfl) (by kernel_rfl) ⟨_, .lst l', ⟨.call, l', rfl, fun x hx => absurd hx List.not_mem_nil, rfl, hF'⟩, rfl, by kernel_rfl⟩
end Mine
set_option maxHeartbeats 400000
set_option linter.unusedSimpArgs false
namespace Mine
open PySem

noncomputable def isRange (sc : Scope) (e : Expr) : Bool := xCallN false e fun g _ as _ => one false as fun a => decide (g = "range" ∧ isGlob sc g = true ∧ Ev.isStar a = false)
theorem W.range {k : Nat} {sc : Scope} {e : Expr} {lo : Lo} {Q : List PV → Lo → Prop} {X : Prop} (hi : isRange sc e = true) (h : W (te k sc (eth (eltsOf e) 0) lo) (fun v lo' => ∃ items, Ev.rangeOf v.toPV = some items ∧ Q items lo') X) : W ((T k).iterE sc e lo) Q X := by
  obtain ⟨g, q1, as, q2, h1, hi⟩ := xCallN_inv tf hi
  obtain ⟨a, h2, hi⟩ := one_inv tf hi
  rw [h1, h2] at h ⊢
  show W ((if g = Str.ofString "range" ∧ isGlob sc g = true ∧ Ev.isStar a = false then _ else _ : R (List PV)) lo) Q X
  rw [if_pos (of_decide_eq_true hi)]
  refine W.bind (W.bind (W.mono h fun v lo' q => ⟨?_⟩))
  obtain ⟨items, h1, h2⟩ := q
  show W (R.lift (Ev.rangeOf v.toPV) lo') Q X
  rw [h1]; exact ⟨h2⟩
theorem W.lend2 {k : Nat} {sc : Scope} {e : Expr} {lo lo' : Lo} {Q : LV → Lo → Prop} {X : Prop} {g : Str} {m0 m m' : MO} {ps : List PV} {v : LV} (hi : isLend sc g e = true) (hm0 : getLo lo figs = some (.own m0)) (hp : (T k).evs sc ((eltsOf e).drop 1) lo = .ok ps lo') (hm : getLo lo' figs = some (.own m))
    (hc : tc k g (some m) ps = .ok v (some m')) (q : Q v (setLo lo' figs (.own m'))) : W (te (k + 1) sc e lo) Q X := by
  obtain ⟨q1, q2, rest, q3, ⟨U, hl⟩, rfl⟩ := isLend_inv hi
  rw [callE_user U, argsE_lend ⟨rfl, hl⟩]
  unfold Ev.ownAny
  rw [hm0]
  refine W.bind (W.ok (a := ps) (lo := lo') ?_ ?_)
  · show Ev.noExc _ lo = _
    unfold Ev.noExc
    rw [show (T k).evs sc rest lo = .ok ps lo' from hp]
  · refine W.ok (a := v) (lo := setLo lo' figs (.own m')) ?_ q
    unfold Ev.lendE
    rw [hm]
    show (match (T k).c g (some m) ps with | .ok v (some m') => _ | _ => _) = _
    unfold tc at hc
    rw [hc]

/-! ### _law_block -/
noncomputable abbrev sBl : Scope := marks (scD "_law_block")
noncomputable abbrev bBl : List Stmt := bD "_law_block"
noncomputable abbrev brV (rows : List BRow) : List PV := rows.map BRow.enc
noncomputable def loBl (l : List PV) (odd : Nat) (nm : Option LV) (ro tu na sp : Option LV) : Lo := [O "figures" (.lst l), V "odd" (nat odd), ("names", nm), ("rows", ro), ("turn", tu), ("name", na), ("spoil", sp)]
noncomputable abbrev oR (rows : List BRow) : Option LV := some (.own (.lst (brV rows)))
noncomputable def nmOk (ns : List Nat) (nm : LV) : Prop := nm = .own (.lst (ns.map nat)) ∨ nm = .pv (nsV ns)
section
variable {odd : Nat} {ns : List Nat} (hn : ns.length ≤ 4)
include hn
/-- the rows drawn -/
theorem bl_rows (k : Nat) : ∀ (ps : List PV) {l : List PV} (rs : List BRow) (nm : LV) (tu : Option LV), FG l → nmOk ns nm → rs.length + ps.length < 2 ^ 10 → (∀ b ∈ rs, ∃ r, b = .row r ∧ rowIn ns r) →
    W (Ev.forGo "turn" sBl ((T (k + 70)).ss sBl ((bodyOf (nth bBl 2)).drop 0)) ps (loBl l odd (some nm) (oR rs) tu none none))
      (fun f lo' => ∃ l' rs' nm' tu', f = .next ∧ FG l' ∧ nmOk ns nm' ∧ rs'.length = rs.length + ps.length ∧ (∀ b ∈ rs', ∃ r, b = .row r ∧ rowIn ns r) ∧ lo' = loBl l' odd (some nm') (oR rs') tu' none none) False
  | [], l, rs, nm, tu, hF, hm, _, hr => W.for_nil ⟨l, rs, nm, tu, rfl, hF, hm, rfl, hr, rfl⟩
  | p :: ps, l, rs, nm, tu, hF, hm, hl, hr => by
    simp only [List.length_cons] at hl
    obtain ⟨v, m', ⟨r, l', rfl, hri, rfl, hF'⟩, hc⟩ := row_run hF hn (k + 7)
    refine W.for_cons (by kernel_rfl) ?_
    refine W.fix (lo' := loBl l odd (some nm) (oR rs) (some (.pv p)) none none) (by kernel_rfl) ?_
    refine W.exp (by kernel_rfl) (W.meth (x := "rows") (m := "append") (l0 := brV rs) (by kernel_rfl) (by kernel_rfl) ?_)
    refine W.evs (by kernel_rfl) (W.lend2 (m0 := .lst l) (g := "_law_row_drawn") (ps := [nsV ns]) (lo' := loBl l odd (some (.pv (nsV ns))) (oR rs) (some (.pv p)) none none) (by kernel_rfl) (by kernel_rfl) (by rcases hm with rfl | rfl <;> kernel_rfl) (by kernel_rfl) hc ?_)
    refine W.evs_nil (by kernel_rfl) ⟨brV rs, .none, brV rs ++ [r.enc], by kernel_rfl, lapp_eq (by simp only [List.length_map]; omega), rfl, W.nil (by kernel_rfl) ?_⟩
    refine W.to (y := Ev.forGo "turn" sBl ((T (k + 70)).ss sBl ((bodyOf (nth bBl 2)).drop 0)) ps (loBl l' odd (some (.pv (nsV ns))) (oR (rs ++ [.row r])) (some (.pv p)) none none)) ?_ ?_
    · refine congrArg (Ev.forGo "turn" sBl ((T (k + 70)).ss sBl ((bodyOf (nth bBl 2)).drop 0)) ps) ?_
      have e : brV rs ++ [r.enc] = brV (rs ++ [.row r]) := by unfold brV; rw [List.map_append]; rfl
      rw [e]
      kernel_rfl
    refine W.mono (bl_rows k ps (rs ++ [.row r]) (.pv (nsV ns)) _ hF' (.inr rfl) (by simp only [List.length_append, List.length_cons, List.length_nil]; omega) ?_) ?_
    · intro b hb
      rcases List.mem_append.mp hb with h | h
      · exact hr b h
      · exact ⟨r, List.mem_singleton.mp h, hri⟩
    · rintro f lo' ⟨l2, rs2, nm2, tu2, h1, h2, h3, h4, h5, h6⟩
      exact ⟨l2, rs2, nm2, tu2, h1, h2, h3, by rw [h4]; simp only [List.length_append, List.length_cons, List.length_nil]; omega, h5, h6⟩
end
/-- what holds of a block under way -/
structure Blk (ns : List Nat) (rows : List BRow) : Prop where
  last : ∃ i, rows = i ++ [.row .pro]
  labs : ∀ n, .lab n ∈ rows → n ∈ ns
  rows : ∀ r, .row r ∈ rows → rowIn ns r
theorem Blk.pos {ns : List Nat} {rows : List BRow} (B : Blk ns rows) : 0 < rows.length := by
  obtain ⟨i, rfl⟩ := B.last
  rw [List.length_append]; exact Nat.succ_pos _
theorem Blk.ins {ns : List Nat} {rows : List BRow} (B : Blk ns rows) {n d : Nat} (hn : n ∈ ns) (hd : d < rows.length) : Blk ns (rows.take d ++ .lab n :: rows.drop d) := by
  refine ⟨?_, fun m hm => ?_, fun r hr => ?_⟩
  · obtain ⟨i, e⟩ := B.last
    have hi : d ≤ i.length := by rw [e, List.length_append] at hd; exact Nat.le_of_lt_succ hd
    refine ⟨i.take d ++ .lab n :: i.drop d, ?_⟩
    rw [e, List.take_append_of_le_length hi, List.drop_append_of_le_length hi, List.append_assoc]; rfl
  · rcases List.mem_append.mp hm with h | h
    · exact B.labs m (List.mem_of_mem_take h)
    · rcases List.mem_cons.mp h with h | h
      · cases h; exact hn
      · exact B.labs m (List.mem_of_mem_drop h)
  · rcases List.mem_append.mp hr with h | h
    · exact B.rows r (List.mem_of_mem_take h)
    · rcases List.mem_cons.mp h with h | h
      · cases h
      · exact B.rows r (List.mem_of_mem_drop h)
theorem mem_ins {rows : List BRow} {x y : BRow} {d : Nat} (h : x = y ∨ x ∈ rows) : x ∈ rows.take d ++ y :: rows.drop d := by
  rcases h with rfl | h
  · exact List.mem_append_right _ List.mem_cons_self
  · rw [← List.take_append_drop d rows] at h
    rcases List.mem_append.mp h with h | h
    · exact List.mem_append_left _ h
    · exact List.mem_append_right _ (List.mem_cons_of_mem _ h)
theorem enc_ins (rows : List BRow) (x : BRow) (d : Nat) : (brV rows).take d ++ x.enc :: (brV rows).drop d = brV (rows.take d ++ x :: rows.drop d) := by
  unfold brV
  rw [List.map_append, List.map_cons, List.map_take, List.map_drop]
/-- rows.insert(draw, ('label', x)) -/
theorem W.ins {k : Nat} {e : Expr} {lo : Lo} {l : List PV} {rows : List BRow} {n : Nat} {Q : LV → Lo → Prop} {ns : List Nat} (B : Blk ns rows) (hn : n ∈ ns) (hl : rows.length < 2 ^ 10) (hF : FG l) (hi : isMeth sBl "rows" "insert" e = true) (h1 : getLo lo "rows" = some (.own (.lst (brV rows)))) (hf : getLo lo figs = some (.own (.lst l)))
    (he : isElt (eltsOf e) 0 = true) (he1 : isElt (eltsOf e) 1 = true) (he2 : decide ((eltsOf e).length ≤ 2) = true) (hd : isLend sBl "_law_draw" (eth (eltsOf e) 0) = true) (ha : (T (k + 12)).evs sBl ((eltsOf (eth (eltsOf e) 0)).drop 1) lo = .ok [nat rows.length] lo)
    (hv : ∀ l', te (k + 13) sBl (eth (eltsOf e) 1) (setLo lo figs (.own (.lst l'))) = .ok (.pv (labV n)) (setLo lo figs (.own (.lst l')))) (hg : ∀ l', getLo (setLo lo figs (.own (.lst l'))) "rows" = some (.own (.lst (brV rows))))
    (q : ∀ d l', d < rows.length → FG l' → Q (.pv .none) (setLo (setLo lo figs (.own (.lst l'))) "rows" (.own (.lst (brV (rows.take d ++ .lab n :: rows.drop d)))))) : W (te (k + 14) sBl e lo) Q False := by
  refine W.meth (x := "rows") (m := "insert") hi h1 ?_
  refine W.evs he (W.draw (l := l) (m := rows.length) hd hf hF ha B.pos (fun d l' hd hF' => ?_))
  refine W.evs he1 (W.ok (hv l') (W.evs_nil he2 ?_))
  refine ⟨brV rows, .none, brV (rows.take d ++ .lab n :: rows.drop d), hg l', ?_, q d l' hd hF'⟩
  rw [← enc_ins]
  exact lins_eq (by simp only [List.length_map]; omega) (by simp only [List.length_map]; omega)
end Mine
set_option maxHeartbeats 400000
set_option linter.unusedSimpArgs false
namespace Mine
open PySem

theorem len_arg {k : Nat} {sc : Scope} {es : List Expr} {lo : Lo} {rows : List BRow} (h1 : isElt es 1 = true) (h2 : decide (es.length ≤ 2) = true) (h3 : isB1 sc "len" (eth es 1) = true) (h4 : (T k).rdE sc (eth (eltsOf (eth es 1)) 0) lo = .ok (.var "rows") lo) (h5 : Ev.val (.var "rows") lo = .ok (.lst (brV rows)) lo) (hl : rows.length < 2 ^ 10) :
    (T (k + 1)).evs sc (es.drop 1) lo = .ok [nat rows.length] lo := by
  refine W.get (W.evs h1 (W.ok (b1_eq (g := "len") (x := .var "rows") (p := .lst (brV rows)) h3 h4 h5 (len_eq (by simp only [List.length_map]; omega))) (W.evs_nil h2 ⟨?_, rfl⟩)))
  show [nat (brV rows).length] = _
  rw [List.length_map]
section
variable {odd : Nat} {ns : List Nat}
theorem bl_labs (k : Nat) : ∀ (ms : List Nat) {l : List PV} (rows : List BRow) (tu na : Option LV), FG l → (∀ m ∈ ms, m ∈ ns) → Blk ns rows → rows.length + ms.length < 2 ^ 10 →
    W (Ev.forGo "name" sBl ((T (k + 70)).ss sBl ((bodyOf (nth bBl 4)).drop 0)) (ms.map nat) (loBl l odd (some (.pv (nsV ns))) (oR rows) tu na none))
      (fun f lo' => ∃ l' rows' na', f = .next ∧ FG l' ∧ Blk ns rows' ∧ (∀ x ∈ rows, x ∈ rows') ∧ (∀ m ∈ ms, .lab m ∈ rows') ∧ rows'.length = rows.length + ms.length ∧ lo' = loBl l' odd (some (.pv (nsV ns))) (oR rows') tu na' none) False
  | [], l, rows, tu, na, hF, _, B, _ => W.for_nil ⟨l, rows, na, rfl, hF, B, fun x h => h, fun m h => absurd h List.not_mem_nil, rfl, rfl⟩
  | m :: ms, l, rows, tu, na, hF, hm, B, hl => by
    simp only [List.length_cons] at hl
    refine W.for_cons (by kernel_rfl) ?_
    refine W.fix (lo' := loBl l odd (some (.pv (nsV ns))) (oR rows) tu (some (.pv (nat m))) none) (by kernel_rfl) ?_
    refine W.exp (by kernel_rfl) (W.ins (l := l) (rows := rows) (n := m) B (hm m List.mem_cons_self) (by omega) hF (by kernel_rfl) (by kernel_rfl) (by kernel_rfl) (by kernel_rfl) (by kernel_rfl) (by kernel_rfl) (by kernel_rfl) (len_arg (by kernel_rfl) (by kernel_rfl) (by kernel_rfl) (by kernel_rfl) (by kernel_rfl) (by omega)) (fun l' => by kernel_rfl) (fun l' => by kernel_rfl) (fun d l' hd hF' => ⟨rfl, W.nil (by kernel_rfl) ?_⟩))
    have hlen : (rows.take d ++ BRow.lab m :: rows.drop d).length = rows.length + 1 := by
      simp only [List.length_append, List.length_cons, List.length_take, List.length_drop]; omega
    refine W.to (y := Ev.forGo "name" sBl ((T (k + 70)).ss sBl ((bodyOf (nth bBl 4)).drop 0)) (ms.map nat) (loBl l' odd (some (.pv (nsV ns))) (oR (rows.take d ++ .lab m :: rows.drop d)) tu (some (.pv (nat m))) none)) ?_ ?_
    · refine congrArg (Ev.forGo "name" sBl ((T (k + 70)).ss sBl ((bodyOf (nth bBl 4)).drop 0)) (ms.map nat)) ?_
      kernel_rfl
    refine W.mono (bl_labs k ms _ tu _ hF' (fun x hx => hm x (List.mem_cons_of_mem _ hx)) (B.ins (hm m List.mem_cons_self) hd) (by rw [hlen]; omega)) ?_
    rintro f lo' ⟨l2, rows2, na2, h1, h2, h3, h4, h5, h6, h7⟩
    refine ⟨l2, rows2, na2, h1, h2, h3, fun x hx => h4 x (mem_ins (.inr hx)), fun x hx => ?_, by rw [h6, hlen, List.length_cons]; omega, h7⟩
    rcases List.mem_cons.mp hx with rfl | hx
    · exact h4 _ (mem_ins (.inl rfl))
    · exact h5 x hx
end
theorem lab_eq (n m : Nat) : eqD (labV n) (labV m) = some (decide (n = m)) := by
  have : eqD (labV n) (labV m) = (match some (Int.ofNat n == Int.ofNat m) with | some true => some true | r => r) := by kernel_rfl
  rw [this]
  by_cases e : n = m
  · subst e; simp
  · rw [decide_eq_false e]
    have : (Int.ofNat n == Int.ofNat m) = false := by
      rw [beq_eq_false_iff_ne]
      exact fun h => e (Int.ofNat.inj h)
    rw [this]
theorem row_ne (r : Row (Option Nat)) (m : Nat) : eqD r.enc (labV m) = some false := by
  cases r <;> kernel_rfl
theorem rem_lab (m : Nat) : ∀ (i : List BRow), .lab m ∈ i → ∃ i', Ev.lmeth.go (labV m) (brV (i ++ [BRow.row Row.pro])) = some (brV (i' ++ [BRow.row Row.pro])) ∧ (∀ x ∈ i', x ∈ i) ∧ i'.length ≤ i.length
  | .row r :: t, h => by
    rcases List.mem_cons.mp h with h | h
    · cases h
    obtain ⟨i', h1, h2, h3⟩ := rem_lab m t h
    refine ⟨.row r :: i', ?_, ?_, Nat.succ_le_succ h3⟩
    · show (match eqD r.enc (labV m) with | some true => _ | some false => (Ev.lmeth.go (labV m) (brV (t ++ [BRow.row Row.pro]))).map (r.enc :: ·) | none => _) = _
      rw [row_ne, h1]; rfl
    · intro x hx
      rcases List.mem_cons.mp hx with rfl | hx
      · exact List.mem_cons_self
      · exact List.mem_cons_of_mem _ (h2 x hx)
  | .lab n :: t, h => by
    by_cases e : n = m
    · refine ⟨t, ?_, fun x hx => List.mem_cons_of_mem _ hx, Nat.le_succ _⟩
      show (match eqD (labV n) (labV m) with | some true => some (brV (t ++ [BRow.row Row.pro])) | some false => _ | none => _) = _
      rw [lab_eq, decide_eq_true e]
    · rcases List.mem_cons.mp h with h | h
      · cases h; exact absurd rfl e
      obtain ⟨i', h1, h2, h3⟩ := rem_lab m t h
      refine ⟨.lab n :: i', ?_, ?_, Nat.succ_le_succ h3⟩
      · show (match eqD (labV n) (labV m) with | some true => _ | some false => (Ev.lmeth.go (labV m) (brV (t ++ [BRow.row Row.pro]))).map (labV n :: ·) | none => _) = _
        rw [lab_eq, decide_eq_false e, h1]; rfl
      · intro x hx
        rcases List.mem_cons.mp hx with rfl | hx
        · exact List.mem_cons_self
        · exact List.mem_cons_of_mem _ (h2 x hx)
/-- a block as drawn -/
structure BlockOK (odd : Nat) (rows : List BRow) : Prop where
  last : ∃ i, rows = i ++ [.row .pro]
  labs : ∀ n, .lab n ∈ rows → n < 8 ∧ n % 2 = odd
  gls : ∀ r, .row r ∈ rows → ∀ x ∈ r.goals, ∀ n, x = some n → n < 8 ∧ n % 2 = odd
  len : rows.length ≤ 11
noncomputable def BK (odd : Nat) (p : PV) (m' : MO) : Prop := ∃ rows l', p = .lst (brV rows) ∧ BlockOK odd rows ∧ m' = .lst l' ∧ FG l'
theorem ok_of {odd : Nat} {ns : List Nat} {rows : List BRow} (hns : ∀ n ∈ ns, n < 8 ∧ n % 2 = odd) (B : Blk ns rows) (hl : rows.length ≤ 11) : BlockOK odd rows :=
  ⟨B.last, fun n h => hns n (B.labs n h), fun r h x hx n e => hns n (B.rows r h x hx n e), hl⟩
noncomputable abbrev bSp : List Stmt := thenOf (nth bBl 5)
theorem sp_6 (k : Nat) {l : List PV} {odd : Nat} {nm ro tu na : Option LV} : ∀ d, d < 8 → tb (k + 30) sBl (testOf (nth bSp 1)) (loBl l odd nm ro tu na (some (.pv (nat d)))) = .ok (decide (d = 6)) (loBl l odd nm ro tu na (some (.pv (nat d))))
  | 0, _ | 1, _ | 2, _ | 3, _ | 4, _ | 5, _ | 6, _ | 7, _ => by kernel_rfl
theorem sp_7 (k : Nat) {l : List PV} {odd : Nat} {nm ro tu na : Option LV} : ∀ d, d < 8 → tb (k + 30) sBl (testOf (nth bSp 2)) (loBl l odd nm ro tu na (some (.pv (nat d)))) = .ok (decide (d = 7)) (loBl l odd nm ro tu na (some (.pv (nat d))))
  | 0, _ | 1, _ | 2, _ | 3, _ | 4, _ | 5, _ | 6, _ | 7, _ => by kernel_rfl
theorem sp_last (k : Nat) {l : List PV} {odd : Nat} {ro tu na sp : Option LV} : ∀ (ns : List Nat), ns ≠ [] → ns.length ≤ 4 → ∃ n, n ∈ ns ∧ (T (k + 20)).evs sBl ((eltsOf (valOf (nth (thenOf (nth bSp 2)) 0))).drop 0) (loBl l odd (some (.pv (nsV ns))) ro tu na sp) = .ok [labV n] (loBl l odd (some (.pv (nsV ns))) ro tu na sp)
  | [], h, _ => absurd rfl h
  | [a], _, _ => ⟨a, by simp, by kernel_rfl⟩
  | [a, b], _, _ => ⟨b, by simp, by kernel_rfl⟩
  | [a, b, c], _, _ => ⟨c, by simp, by kernel_rfl⟩
  | [a, b, c, d], _, _ => ⟨d, by simp, by kernel_rfl⟩
  | _ :: _ :: _ :: _ :: _ :: _, _, h => absurd h (by simp only [List.length_cons]; omega)
noncomputable abbrev QBl (odd : Nat) : Fl → Lo → Prop := fun f lo' => ∃ p m', BK odd p m' ∧ f = .ret (.pv p) ∧ getLo lo' figs = some (.own m')
theorem bl_end (k : Nat) {l : List PV} {odd : Nat} {rows : List BRow} {nm tu na sp : Option LV} (hF : FG l) (B : BlockOK odd rows) : W ((T (k + 20)).ss sBl (bBl.drop 6) (loBl l odd nm (oR rows) tu na sp)) (QBl odd) False :=
  W.out (f := .ret (.pv (.lst (brV rows)))) (lo' := outLo (ts (k + 20) sBl (nth bBl 6) (loBl l odd nm (oR rows) tu na sp))) (by kernel_rfl) (by kernel_rfl) (by intro h; cases h) ⟨_, .lst l, ⟨rows, l, rfl, B, rfl, hF⟩, rfl, by kernel_rfl⟩
theorem bl_sp (k : Nat) {l : List PV} {odd n0 : Nat} {t : List Nat} {rows : List BRow} {tu na : Option LV} (hn : (n0 :: t).length ≤ 4) (hns : ∀ n ∈ n0 :: t, n < 8 ∧ n % 2 = odd) (hF : FG l) (B : Blk (n0 :: t) rows) (hl : rows.length ≤ 10) (hall : ∀ m ∈ n0 :: t, .lab m ∈ rows) :
    W ((T (k + 40)).ss sBl (bBl.drop 5) (loBl l odd (some (.pv (nsV (n0 :: t)))) (oR rows) tu na none)) (QBl odd) False := by
  refine W.iff (c := true) (lo' := loBl l odd (some (.pv (nsV (n0 :: t)))) (oR rows) tu na none) (by kernel_rfl) (by kernel_rfl) ?_
  refine W.asg (x := "spoil") (by kernel_rfl) (by kernel_rfl) ?_
  refine W.draw (l := l) (m := 8) (by kernel_rfl) (by kernel_rfl) hF (by kernel_rfl) (by decide) (fun d l' hd hF' => ?_)
  refine W.fix (lo' := loBl l' odd (some (.pv (nsV (n0 :: t)))) (oR rows) tu na (some (.pv (nat d)))) (by kernel_rfl) ?_
  refine W.iff (c := decide (d = 6)) (by kernel_rfl) (sp_6 (k + 8) d hd) ?_
  by_cases e6 : d = 6
  · rw [decide_eq_true e6]
    subst e6
    refine W.exp (by kernel_rfl) (W.ins (l := l') (rows := rows) (n := n0) B List.mem_cons_self (by omega) hF' (by kernel_rfl) (by kernel_rfl) (by kernel_rfl) (by kernel_rfl) (by kernel_rfl) (by kernel_rfl) (by kernel_rfl) (len_arg (by kernel_rfl) (by kernel_rfl) (by kernel_rfl) (by kernel_rfl) (by kernel_rfl) (by omega)) (fun l' => by kernel_rfl) (fun l' => by kernel_rfl) (fun d l2 hd hF2 => ⟨rfl, W.nil (by kernel_rfl) (K.next ?_)⟩))
    refine W.fix (lo' := loBl l2 odd (some (.pv (nsV (n0 :: t)))) (oR (rows.take d ++ .lab n0 :: rows.drop d)) tu na (some (.pv (nat 6)))) (by kernel_rfl) ?_
    refine W.iff (c := false) (by kernel_rfl) (sp_7 (k + 8) 6 (by decide)) (W.nil (by kernel_rfl) (K.next (W.nil (by kernel_rfl) (K.next ?_))))
    refine bl_end (k + 20) hF2 (ok_of hns (B.ins List.mem_cons_self hd) ?_)
    simp only [List.length_append, List.length_cons, List.length_take, List.length_drop]; omega
  · rw [decide_eq_false e6]
    refine W.nil (by kernel_rfl) (K.next ?_)
    refine W.iff (c := decide (d = 7)) (by kernel_rfl) (sp_7 (k + 8) d hd) ?_
    by_cases e7 : d = 7
    · rw [decide_eq_true e7]
      obtain ⟨n, hnm, hev⟩ := sp_last (k + 16) (l := l') (odd := odd) (ro := oR rows) (tu := tu) (na := na) (sp := some (.pv (nat d))) (n0 :: t) (by simp) hn
      obtain ⟨i, hi⟩ := B.last
      have hmem : .lab n ∈ i := by
        have := hall n hnm
        rw [hi] at this
        rcases List.mem_append.mp this with h | h
        · exact h
        · cases List.mem_singleton.mp h
      obtain ⟨i', h1, h2, h3⟩ := rem_lab n i hmem
      have hil : i.length + 1 = rows.length := by rw [hi, List.length_append]; rfl
      refine W.exp (by kernel_rfl) (W.meth (x := "rows") (m := "remove") (l0 := brV rows) (by kernel_rfl) (by kernel_rfl) (W.ok hev ?_))
      refine ⟨brV rows, .none, brV (i' ++ [BRow.row Row.pro]), by kernel_rfl, lrem_eq (by simp only [List.length_map]; omega) (by rw [hi]; exact h1), rfl, W.nil (by kernel_rfl) (K.next (W.nil (by kernel_rfl) (K.next ?_)))⟩
      refine W.fix (lo' := loBl l' odd (some (.pv (nsV (n0 :: t)))) (oR (i' ++ [BRow.row Row.pro])) tu na (some (.pv (nat d)))) (by kernel_rfl) ?_
      have hsub : ∀ x ∈ i' ++ [BRow.row Row.pro], x ∈ rows := by
        intro x hx
        rw [hi]
        rcases List.mem_append.mp hx with h | h
        · exact List.mem_append_left _ (h2 x h)
        · exact List.mem_append_right _ h
      refine bl_end (k + 20) hF' ⟨⟨i', rfl⟩, fun n h => hns n (B.labs n (hsub _ h)), fun r h x hx n e => hns n (B.rows r (hsub _ h) x hx n e), ?_⟩
      simp only [List.length_append, List.length_cons, List.length_nil]; omega
    · rw [decide_eq_false e7]
      refine W.nil (by kernel_rfl) (K.next (W.nil (by kernel_rfl) (K.next ?_)))
      exact bl_end (k + 20) hF' (ok_of hns B (by omega))
noncomputable def nsOf (odd d : Nat) : List Nat := [odd, odd + 4, odd + 2, odd + 6].take ([1, 2, 3, 4, 0].getD d 0)
theorem nsOf_ok {odd : Nat} (ho : odd < 2) : ∀ d, d < 5 → (nsOf odd d).length ≤ 4 ∧ ∀ n ∈ nsOf odd d, n < 8 ∧ n % 2 = odd := by
  intro d hd
  refine ⟨by simp only [nsOf, List.length_take]; exact Nat.min_le_right _ _, fun n hn => ?_⟩
  have hn := List.mem_of_mem_take hn
  simp only [List.mem_cons, List.not_mem_nil, or_false] at hn
  rcases hn with rfl | rfl | rfl | rfl <;> omega
theorem bl_names (k : Nat) {l : List PV} {odd : Nat} (hF : FG l) : W (te (k + 60) sBl (valOf (nth bBl 0)) (loBl l odd none none none none none)) (fun v lo' => ∃ d l', d < 5 ∧ FG l' ∧ v = .own (.lst ((nsOf odd d).map nat)) ∧ lo' = loBl l' odd none none none none none) False := by
  refine W.slice (x := .pv (.lst [nat odd, nat (odd + 4), nat (odd + 2), nat (odd + 6)])) (by kernel_rfl) (by kernel_rfl) ?_
  refine W.item (x := .pv (.lst [.int 1, .int 2, .int 3, .int 4, .int 0])) (by kernel_rfl) (by kernel_rfl) ?_
  refine W.draw (l := l) (m := 5) (by kernel_rfl) (by kernel_rfl) hF (by kernel_rfl) (by decide) (fun d l' hd hF' => ?_)
  refine ⟨.lst [.int 1, .int 2, .int 3, .int 4, .int 0], nat ([1, 2, 3, 4, 0].getD d 0), rfl, ?_, .lst [nat odd, nat (odd + 4), nat (odd + 2), nat (odd + 6)], .own (.lst ((nsOf odd d).map nat)), rfl, ?_, d, l', hd, hF', rfl, by kernel_rfl⟩
  · match d, hd with
    | 0, _ | 1, _ | 2, _ | 3, _ | 4, _ => kernel_rfl
  · match d, hd with
    | 0, _ | 1, _ | 2, _ | 3, _ | 4, _ => kernel_rfl
noncomputable def cnt (d : Nat) : Nat := [2, 0, 1, 3, 4, 5].getD d 0
theorem bl_count (k : Nat) {l : List PV} {odd : Nat} {nm : Option LV} (hF : FG l) : W ((T (k + 60)).iterE sBl (iterOf (nth bBl 2)) (loBl l odd nm (oR []) none none none)) (fun items lo' => ∃ l', items.length ≤ 5 ∧ FG l' ∧ lo' = loBl l' odd nm (oR []) none none none) False := by
  refine W.range (by kernel_rfl) (W.item (x := .pv (.lst [.int 2, .int 0, .int 1, .int 3, .int 4, .int 5])) (by kernel_rfl) (by kernel_rfl) ?_)
  refine W.draw (l := l) (m := 6) (by kernel_rfl) (by kernel_rfl) hF (by kernel_rfl) (by decide) (fun d l' hd hF' => ?_)
  refine ⟨.lst [.int 2, .int 0, .int 1, .int 3, .int 4, .int 5], nat (cnt d), rfl, ?_, (List.range (cnt d)).map fun (k : Nat) => .int (k : Int), ?_, l', ?_, hF', by kernel_rfl⟩
  · match d, hd with
    | 0, _ | 1, _ | 2, _ | 3, _ | 4, _ | 5, _ => kernel_rfl
  · match d, hd with
    | 0, _ | 1, _ | 2, _ | 3, _ | 4, _ | 5, _ => kernel_rfl
  · rw [List.length_map, List.length_range]
    match d, hd with
    | 0, _ | 1, _ | 2, _ | 3, _ | 4, _ | 5, _ => decide
theorem block_run (k : Nat) {l : List PV} {odd : Nat} (hF : FG l) (ho : odd < 2) : ∃ p m', BK odd p m' ∧ tc (k + 90) "_law_block" (some (.lst l)) [nat odd] = .ok (.pv p) (some m') := by
  refine C.lentE (lo := loBl l odd none none none none none) rfl (by kernel_rfl) (by kernel_rfl) (by kernel_rfl) ?_
  refine W.asg (x := "names") (by kernel_rfl) (by kernel_rfl) (W.imp (bl_names (k + 28) hF) ?_ False.elim)
  rintro v lo' ⟨d, l1, hd, hF1, rfl, rfl⟩
  obtain ⟨hn, hns⟩ := nsOf_ok ho d hd
  generalize nsOf odd d = ns at hn hns
  refine W.pur (lo' := loBl l1 odd (some (.own (.lst (ns.map nat)))) (oR []) none none none) (by kernel_rfl) (by kernel_rfl) ?_
  refine W.for (x := "turn") (by kernel_rfl) (by kernel_rfl) (W.imp (bl_count (k + 28) hF1) ?_ False.elim)
  rintro items lo' ⟨l2, hi, hF2, rfl⟩
  refine W.imp (bl_rows hn (k + 18) items (l := l2) [] (.own (.lst (ns.map nat))) none hF2 (.inl rfl) (by simp only [List.length_nil]; omega) (fun b hb => absurd hb List.not_mem_nil)) ?_ False.elim
  rintro f lo' ⟨l3, rs, nm, tu, rfl, hF3, hnm, hlen, hrs, rfl⟩
  simp only [List.length_nil, Nat.zero_add] at hlen
  refine K.next ?_
  refine W.expE (by kernel_rfl) (app_eq (x := "rows") (l := brV rs) (p := BRow.enc (.row .pro)) (by kernel_rfl) (by kernel_rfl) (by kernel_rfl) (by simp only [List.length_map]; omega)) rfl ?_
  have e1 : brV rs ++ [BRow.enc (.row .pro)] = brV (rs ++ [.row .pro]) := by unfold brV; rw [List.map_append]; rfl
  refine W.fix (lo' := loBl l3 odd (some nm) (oR (rs ++ [.row .pro])) tu none none) (by rw [e1]; kernel_rfl) ?_
  have B : Blk ns (rs ++ [.row .pro]) := by
    refine ⟨⟨rs, rfl⟩, fun n hm => ?_, fun r hr => ?_⟩
    · rcases List.mem_append.mp hm with h | h
      · obtain ⟨r, e, _⟩ := hrs _ h; cases e
      · cases List.mem_singleton.mp h
    · rcases List.mem_append.mp hr with h | h
      · obtain ⟨r', e, h⟩ := hrs _ h; cases e; exact h
      · cases List.mem_singleton.mp h; exact fun x hx => absurd hx List.not_mem_nil
  have hl1 : (rs ++ [BRow.row Row.pro]).length ≤ 6 := by simp only [List.length_append, List.length_cons, List.length_nil]; omega
  refine W.forE (x := "name") (items := ns.map nat) (lo' := loBl l3 odd (some (.pv (nsV ns))) (oR (rs ++ [.row .pro])) tu none none) (by kernel_rfl) (by kernel_rfl) ?_ ?_
  · have : (T (k + 88)).iterE sBl (iterOf (nth bBl 4)) (loBl l3 odd (some nm) (oR (rs ++ [.row .pro])) tu none none) = R.lift (small (ns.map nat)) (loBl l3 odd (some (.pv (nsV ns))) (oR (rs ++ [.row .pro])) tu none none) := by rcases hnm with rfl | rfl <;> kernel_rfl
    rw [this]
    unfold small
    rw [if_pos (by simp only [List.length_map]; omega)]; rfl
  refine W.imp (bl_labs (k + 18) ns (l := l3) (rs ++ [.row .pro]) tu none hF3 (fun m h => h) B (by omega)) ?_ False.elim
  rintro f lo' ⟨l4, rows, na, rfl, hF4, B4, _, hall, hlen4, rfl⟩
  refine K.next ?_
  cases ns with
  | nil =>
    simp only [List.length_nil] at hlen4
    refine W.iff (c := false) (lo' := loBl l4 odd (some (.pv (nsV []))) (oR rows) tu na none) (by kernel_rfl) (by kernel_rfl) (W.nil (by kernel_rfl) (K.next ?_))
    exact bl_end (k + 69) hF4 (ok_of hns B4 (by omega))
  | cons n0 t => exact bl_sp (k + 49) hn hns hF4 B4 (by simp only [List.length_cons] at *; omega) hall
end Mine
set_option maxHeartbeats 400000
set_option linter.unusedSimpArgs false
namespace Mine
open PySem

theorem W.iterP {k : Nat} {sc : Scope} {e : Expr} {lo : Lo} {Q : List PV → Lo → Prop} {X : Prop} (hi : isSubAny e = true) (h : W (te k sc e lo) (fun v lo' => ∃ items, itemsOf v.toPV = some items ∧ items.length < 2 ^ 20 ∧ Q items lo') X) : W ((T k).iterE sc e lo) Q X := by
  obtain ⟨v, i, q, rfl, _⟩ := xSubscript_inv tf hi
  show W ((((T k).pvE sc (.Subscript v i q)).bind fun p => R.lift ((itemsOf p).bind small)) lo) Q X
  refine W.bind (W.bind (W.mono h fun y lo' q => ⟨?_⟩))
  obtain ⟨items, h1, h2, h3⟩ := q
  show W (R.lift ((itemsOf y.toPV).bind small) lo') Q X
  rw [h1]
  show W (R.lift (small items) lo') Q X
  unfold small
  rw [if_pos h2]; exact ⟨h3⟩
theorem C.runE {k : Nat} {g : Str} {ps : List PV} {lo : Lo} {P : LV → Prop} (hd : (findFn g bodyL).isSome = true) (hb : Ev.bindLo (Ev.argNames (fnD g).params) (Ev.fill (fnD g).params (ps.map .pv)) (Ev.lo0 (fnD g).scope.names) = some lo)
    (h : W ((T k).ss (fnD g).scope ((fnD g).body.drop 0) lo) (fun f _ => P (Fl.val f)) False) : ∃ v, P v ∧ tc (k + 1) g none ps = .ok v none := by
  cases e : (T k).ss (fnD g).scope ((fnD g).body.drop 0) lo with
  | ok f lo' =>
    rw [e] at h
    exact ⟨Fl.val f, h.1, C.run hd hb (W.ok e rfl)⟩
  | exc => rw [e] at h; exact h.1.elim
  | fail => rw [e] at h; exact h.1.elim

/-! ### _law_figures -/
noncomputable abbrev sFi : Scope := scD "_law_figures"
noncomputable abbrev bFi : List Stmt := bD "_law_figures"
noncomputable abbrev bCe : List Stmt := bodyOf (nth bFi 1)
noncomputable abbrev oF (ls : List Int) : Option LV := some (.own (.lst (ls.map .int)))
noncomputable def loFi (S : PV) (fg ce wh tu : Option LV) : Lo := [V "script" S, ("figures", fg), ("cell", ce), ("whole", wh), ("turn", tu)]
noncomputable abbrev vI (i : Int) : Option LV := some (.pv (.int i))
theorem map_app (ls : List Int) (x : Int) : ls.map PV.int ++ [.int x] = (ls ++ [x]).map PV.int := by rw [List.map_append]; rfl
theorem fi_turns (k : Nat) {S : PV} {c : Int} : ∀ (ps : List PV) (ls : List Int) (w : Int) (tu : Option LV), ls.length + ps.length < 2 ^ 19 →
    W (Ev.forGo "turn" sFi ((T (k + 30)).ss sFi ((bodyOf (nth bCe 1)).drop 0)) ps (loFi S (oF ls) (vI c) (vI w) tu)) (fun f lo' => ∃ ls' w' tu', f = .next ∧ ls'.length ≤ ls.length + ps.length ∧ lo' = loFi S (oF ls') (vI c) (vI w') tu') False
  | [], ls, w, tu, _ => W.for_nil ⟨ls, w, tu, rfl, Nat.le_refl _, rfl⟩
  | p :: ps, ls, w, tu, hl => by
    simp only [List.length_cons] at hl
    refine W.for_cons (by kernel_rfl) ?_
    refine W.fix (lo' := loFi S (oF ls) (vI c) (vI w) (some (.pv p))) (by kernel_rfl) ?_
    refine W.expE (by kernel_rfl) (app_eq (x := "figures") (l := ls.map .int) (p := .int (w % 997)) (by kernel_rfl) (by kernel_rfl) (by kernel_rfl) (by simp only [List.length_map]; omega)) rfl ?_
    rw [map_app]
    refine W.fix (lo' := loFi S (oF (ls ++ [w % 997])) (vI c) (vI w) (some (.pv p))) (by kernel_rfl) ?_
    refine W.pur (lo' := loFi S (oF (ls ++ [w % 997])) (vI c) (vI (w / 997)) (some (.pv p))) (by kernel_rfl) (by kernel_rfl) ?_
    refine W.iff (c := w / 997 == 0) (lo' := loFi S (oF (ls ++ [w % 997])) (vI c) (vI (w / 997)) (some (.pv p))) (by kernel_rfl) (by kernel_rfl) ?_
    cases w / 997 == 0 with
    | true =>
      refine W.out (f := .brk) (lo' := loFi S (oF (ls ++ [w % 997])) (vI c) (vI (w / 997)) (some (.pv p))) (by kernel_rfl) (by kernel_rfl) (by intro h; cases h) ?_
      exact ⟨_, _, _, rfl, by simp only [List.length_append, List.length_cons, List.length_nil]; omega, rfl⟩
    | false =>
      refine W.nil (by kernel_rfl) (K.next (W.nil (by kernel_rfl) ?_))
      refine W.mono (fi_turns k ps (ls ++ [w % 997]) (w / 997) _ (by simp only [List.length_append, List.length_cons, List.length_nil]; omega)) ?_
      rintro f lo' ⟨ls', w', tu', h1, h2, h3⟩
      exact ⟨ls', w', tu', h1, by simp only [List.length_append, List.length_cons, List.length_nil] at h2 ⊢; omega, h3⟩
theorem fi_whole (k : Nat) {S : PV} {c : Int} {fg wh tu : Option LV} : W (te (k + 20) sFi (valOf (nth bCe 0)) (loFi S fg (vI c) wh tu)) (fun v lo' => ∃ w, v = .pv (.int w) ∧ lo' = loFi S fg (vI c) wh tu) False := by
  refine W.ife (c := decide (c ≥ 0)) (by kernel_rfl) (by kernel_rfl) ?_
  cases decide (c ≥ 0) with
  | true => exact W.ok (a := .pv (.int c)) (lo := loFi S fg (vI c) wh tu) (by kernel_rfl) ⟨_, rfl, rfl⟩
  | false => exact W.ok (a := .pv (.int (3 - 5 * c))) (lo := loFi S fg (vI c) wh tu) (by kernel_rfl) ⟨_, rfl, rfl⟩
theorem fi_cells (k : Nat) {S : PV} : ∀ (cs : List Int) (ls : List Int) (ce wh tu : Option LV), ls.length + 24 * cs.length < 2 ^ 19 →
    W (Ev.forGo "cell" sFi ((T (k + 40)).ss sFi (bCe.drop 0)) (cs.map .int) (loFi S (oF ls) ce wh tu)) (fun f lo' => ∃ ls' ce' wh' tu', f = .next ∧ ls'.length < 2 ^ 19 ∧ lo' = loFi S (oF ls') ce' wh' tu') False
  | [], ls, ce, wh, tu, h => W.for_nil ⟨ls, ce, wh, tu, rfl, by simpa using h, rfl⟩
  | c :: cs, ls, ce, wh, tu, h => by
    simp only [List.length_cons] at h
    refine W.for_cons (by kernel_rfl) ?_
    refine W.fix (lo' := loFi S (oF ls) (vI c) wh tu) (by kernel_rfl) ?_
    refine W.asg (x := "whole") (by kernel_rfl) (by kernel_rfl) (W.imp (fi_whole (k + 19)) ?_ False.elim)
    rintro v lo' ⟨w, rfl, rfl⟩
    refine W.fix (lo' := loFi S (oF ls) (vI c) (vI w) tu) (by kernel_rfl) ?_
    refine W.forE (x := "turn") (items := (List.range 24).map fun (k : Nat) => .int (k : Int)) (lo' := loFi S (oF ls) (vI c) (vI w) tu) (by kernel_rfl) (by kernel_rfl) (by kernel_rfl) ?_
    refine W.imp (fi_turns (k + 9) _ ls w tu (by simp only [List.length_map, List.length_range]; omega)) ?_ False.elim
    rintro f lo' ⟨ls', w', tu', rfl, hl, rfl⟩
    simp only [List.length_map, List.length_range] at hl
    refine K.next (W.nil (by kernel_rfl) ?_)
    exact fi_cells k cs ls' _ _ _ (by omega)
theorem figs_run (k : Nat) (ns : List Int) (h : ns.length ≤ 63) : ∃ v, (∃ l, v = .own (.lst l) ∧ FG l) ∧ tc (k + 50) "_law_figures" none [.lst (ns.map .int)] = .ok v none := by
  refine C.runE (lo := loFi (.lst (ns.map .int)) none none none none) rfl (by kernel_rfl) ?_
  refine W.pur (lo' := loFi (.lst (ns.map .int)) (oF []) none none none) (by kernel_rfl) (by kernel_rfl) ?_
  refine W.for (x := "cell") (by kernel_rfl) (by kernel_rfl) ?_
  refine W.iterP (by kernel_rfl) (W.slice (x := .pv (.lst (ns.map .int))) (by kernel_rfl) (by kernel_rfl) (W.ok (a := .pv (.int 30)) (lo := loFi (.lst (ns.map .int)) (oF []) none none none) (by kernel_rfl) ?_))
  refine ⟨.lst (ns.map .int), .own (.lst ((ns.map .int).take 30)), rfl, ?_, (ns.map .int).take 30, rfl, by simp only [List.length_take, List.length_map]; omega, ?_⟩
  · show (if (0 : Int) ≤ 30 ∧ (ns.map PV.int).length < 2 ^ 20 then some (LV.own (MO.lst ((ns.map PV.int).take 30))) else none) = _
    rw [if_pos ⟨by decide, by simp only [List.length_map]; omega⟩]
  rw [← List.map_take]
  refine W.imp (fi_cells (k + 8) (ns.take 30) [] none none none (by simp only [List.length_take, List.length_nil]; omega)) ?_ False.elim
  rintro f lo' ⟨ls, ce, wh, tu, rfl, hl, rfl⟩
  refine K.next ?_
  refine W.asg (x := "figures") (by kernel_rfl) (by kernel_rfl) ?_
  refine W.slice (x := .var "figures") (by kernel_rfl) (by kernel_rfl) (W.ok (a := .pv (.int 90)) (lo := loFi (.lst (ns.map .int)) (oF ls) ce wh tu) (by kernel_rfl) ?_)
  refine ⟨.lst (ls.map .int), .own (.lst ((ls.map .int).take 90)), by kernel_rfl, ?_, ?_⟩
  · show (if (0 : Int) ≤ 90 ∧ (ls.map PV.int).length < 2 ^ 20 then some (LV.own (MO.lst ((ls.map PV.int).take 90))) else none) = _
    rw [if_pos ⟨by decide, by simp only [List.length_map]; omega⟩]
  rw [← List.map_take]
  refine W.fix (lo' := loFi (.lst (ns.map .int)) (oF (ls.take 90)) ce wh tu) (by kernel_rfl) ?_
  refine W.expE (by kernel_rfl) (meth_eq (x := "figures") (m := "reverse") (l := (ls.take 90).map .int) (ps := []) (p := .none) (l' := ((ls.take 90).map .int).reverse) (lo' := loFi (.lst (ns.map .int)) (oF (ls.take 90)) ce wh tu) (by kernel_rfl) (by kernel_rfl) (by kernel_rfl) (by kernel_rfl) (lrev_eq (by simp only [List.length_map, List.length_take]; omega))) rfl ?_
  rw [← List.map_reverse]
  refine W.fix (lo' := loFi (.lst (ns.map .int)) (oF (ls.take 90).reverse) ce wh tu) (by kernel_rfl) ?_
  refine W.out (f := .ret (.own (.lst ((ls.take 90).reverse.map .int)))) (lo' := loFi (.lst (ns.map .int)) (oF (ls.take 90).reverse) ce wh tu) (by kernel_rfl) (by kernel_rfl) (by intro h; cases h) ?_
  exact ⟨_, rfl, (ls.take 90).reverse, rfl, by simp only [List.length_reverse, List.length_take]; omega⟩
end Mine
set_option maxHeartbeats 400000
set_option linter.unusedSimpArgs false
namespace Mine
open PySem

/-! ### a prefix at once -/
theorem ss_take {k : Nat} {sc : Scope} : ∀ (l : List Stmt) (j : Nat) {lo lo' : Lo}, (T k).ss sc (l.take j) lo = .ok .next lo' → (T k).ss sc l lo = (T k).ss sc (l.drop j) lo'
  | [], j, lo, lo', h => by
    rw [List.take_nil] at h
    rw [List.drop_nil]
    have : lo = lo' := by
      have h : Res.ok Fl.next lo = Res.ok Fl.next lo' := h
      injection h
    rw [this]
  | st :: t, 0, lo, lo', h => by
    have : lo = lo' := by
      have h : Res.ok Fl.next lo = Res.ok Fl.next lo' := h
      injection h
    rw [this]; rfl
  | st :: t, j + 1, lo, lo', h => by
    have h : (R.bind ((T k).s sc st) fun f => match f with | .next => (T k).ss sc (t.take j) | f => .ret f) lo = .ok .next lo' := h
    show (R.bind ((T k).s sc st) fun f => match f with | .next => (T k).ss sc t | f => .ret f) lo = _
    unfold R.bind at h ⊢
    cases e : (T k).s sc st lo with
    | ok f l =>
      rw [e] at h
      cases f with
      | next => exact ss_take t j h
      | brk => cases h
      | cont => cases h
      | ret v => cases h
    | exc => rw [e] at h; cases h
    | fail => rw [e] at h; cases h
theorem W.jump {k : Nat} {sc : Scope} {l : List Stmt} {Q : Fl → Lo → Prop} {X : Prop} {lo lo' : Lo} (j : Nat) (h : (T k).ss sc (l.take j) lo = .ok .next lo') (q : W ((T k).ss sc (l.drop j) lo') Q X) : W ((T k).ss sc (l.drop 0) lo) Q X :=
  W.to (ss_take l j h) q

/-! ### _law_led -/
noncomputable def Row.map {γ δ : Type} (f : γ → δ) : Row γ → Row δ
  | .tr g => .tr (f g)
  | .ret g => .ret (f g)
  | .tru g => .tru (f g)
  | .term a b c d => .term (f a) (f b) (f c) (f d)
  | .con0 g => .con0 (f g)
  | .con1 a g => .con1 (f a) (f g)
  | .con2 a b g => .con2 (f a) (f b) (f g)
  | .str a g => .str (f a) (f g)
  | .call => .call
  | .pro => .pro
/-- a row of a block / of code, its addresses trees -/
noncomputable def Row.encP : Row PV → PV
  | .tr g => .tup [.str "try", g, .int 2]
  | .ret g => .tup [.str "retry", g]
  | .tru g => .tup [.str "trust", g]
  | .term a b c d => .tup [.str "switch_on_term", a, b, c, d]
  | .con0 g => .tup [.str "switch_on_constant", .tup [], g]
  | .con1 a g => .tup [.str "switch_on_constant", .tup [.tup [ck 5, a]], g]
  | .con2 a b g => .tup [.str "switch_on_constant", .tup [.tup [ck 5, a], .tup [ck 4, b]], g]
  | .str a g => .tup [.str "switch_on_structure", .tup [.tup [.int 2, a]], g]
  | .call => .tup [.str "call", .int 24, .int 3]
  | .pro => .tup [.str "proceed"]
noncomputable def Row.codP : Row PV → PV
  | .tr g => .tup [.str "try", g, .int 2]
  | .ret g => .tup [.str "retry", g]
  | .tru g => .tup [.str "trust", g]
  | .term a b c d => .tup [.str "switch_on_term", a, b, c, d]
  | .con0 g => .tup [.str "switch_on_constant", .dcti [] [], g]
  | .con1 a g => .tup [.str "switch_on_constant", .dctt [[5, 2]] [a], g]
  | .con2 a b g => .tup [.str "switch_on_constant", .dctt [[5, 2], [4, 2]] [a, b], g]
  | .str a g => .tup [.str "switch_on_structure", .dcti [2] [a], g]
  | .call => .tup [.str "call", .int 24, .int 3]
  | .pro => .tup [.str "proceed"]
inductive LRow where
  | enc (r : Row Int)
  | cod (r : Row Int)
  | lab (i : Int)
noncomputable def LRow.v (f : Int → PV) : LRow → PV
  | .enc r => (r.map f).encP
  | .cod r => (r.map f).codP
  | .lab i => .tup [.str "label", f i]
noncomputable def Row.spots {γ : Type} : Row γ → List Int
  | .tr _ => [1]
  | .ret _ => [1]
  | .tru _ => [1]
  | .term _ _ _ _ => [1, 2, 3, 4]
  | .con0 _ => [2]
  | .con1 _ _ => [2]
  | .con2 _ _ _ => [2]
  | .str _ _ => [2]
  | .call => []
  | .pro => []
noncomputable def LRow.spots : LRow → List Int
  | .enc r => r.spots
  | .cod r => r.spots
  | .lab _ => [1]
noncomputable def lastOr (st : Option LV) : List Int → Option LV
  | [] => st
  | i :: t => lastOr (vI i) t
noncomputable def untup : PV → List PV
  | .tup l => l
  | _ => []
/-- what a table of addresses makes of one -/
noncomputable def wv (ks : List Int) (vs : List PV) (i : Int) : PV := (look ks vs i).getD (.int i)
noncomputable abbrev sLe : Scope := scD "_law_led"
noncomputable abbrev bLe : List Stmt := bD "_law_led"
noncomputable abbrev bLr : List Stmt := bodyOf (nth bLe 1)
noncomputable def loLe (R : PV) (ks : List Int) (vs : List PV) (ma ro pa sp st : Option LV) : Lo := [V "rows" R, V "way" (.dcti ks vs), ("made", ma), ("row", ro), ("parts", pa), ("spots", sp), ("spot", st)]
theorem led_pre (k : Nat) {R : PV} {ks : List Int} {vs : List PV} {ma pa sp st : Option LV} (r : LRow) :
    (T (k + 60)).ss sLe (bLr.take 5) (loLe R ks vs ma (some (.pv (r.v .int))) pa sp st) = .ok .next (loLe R ks vs ma (some (.pv (r.v .int))) (some (.own (.lst (untup (r.v (wv ks vs)))))) (some (.pv (.lst (r.spots.map .int)))) (lastOr st r.spots)) := by
  cases r with
  | enc r => cases r <;> kernel_rfl
  | cod r => cases r <;> kernel_rfl
  | lab i => kernel_rfl
end Mine
set_option maxHeartbeats 400000
set_option linter.unusedSimpArgs false
namespace Mine
open PySem

theorem led_arg (k : Nat) {R : PV} {ks : List Int} {vs : List PV} {ma ro sp st : Option LV} (r : LRow) :
    (T (k + 20)).evs sLe ((eltsOf (valOf (nth bLr 5))).drop 0) (loLe R ks vs ma ro (some (.own (.lst (untup (r.v (wv ks vs)))))) sp st) = .ok [r.v (wv ks vs)] (loLe R ks vs ma ro (some (.own (.lst (untup (r.v (wv ks vs)))))) sp st) := by
  cases r with
  | enc r => cases r <;> kernel_rfl
  | cod r => cases r <;> kernel_rfl
  | lab i => kernel_rfl
theorem led_go (k : Nat) {R : PV} {ks : List Int} {vs : List PV} : ∀ (rs : List LRow) (done : List PV) (ro pa sp st : Option LV), done.length + rs.length < 2 ^ 20 →
    W (Ev.forGo "row" sLe ((T (k + 60)).ss sLe (bLr.drop 0)) (rs.map fun r => r.v .int) (loLe R ks vs (some (.own (.lst done))) ro pa sp st))
      (fun f lo' => ∃ ro' pa' sp' st', f = .next ∧ lo' = loLe R ks vs (some (.own (.lst (done ++ rs.map fun r => r.v (wv ks vs))))) ro' pa' sp' st') False
  | [], done, ro, pa, sp, st, _ => W.for_nil ⟨ro, pa, sp, st, rfl, by rw [List.map_nil, List.append_nil]⟩
  | r :: rs, done, ro, pa, sp, st, hl => by
    simp only [List.length_cons] at hl
    refine W.for_cons (by kernel_rfl) ?_
    refine W.fix (lo' := loLe R ks vs (some (.own (.lst done))) (some (.pv (r.v .int))) pa sp st) (by kernel_rfl) ?_
    refine W.jump 5 (led_pre k r) ?_
    refine W.expE (by kernel_rfl) (app_eq (x := "made") (l := done) (p := r.v (wv ks vs)) (by kernel_rfl) (by kernel_rfl) (led_arg (k + 38) r) (by omega)) rfl (W.nil (by kernel_rfl) ?_)
    refine W.to (y := Ev.forGo "row" sLe ((T (k + 60)).ss sLe (bLr.drop 0)) (rs.map fun r => r.v .int) (loLe R ks vs (some (.own (.lst (done ++ [r.v (wv ks vs)])))) (some (.pv (r.v .int))) (some (.own (.lst (untup (r.v (wv ks vs)))))) (some (.pv (.lst (r.spots.map .int)))) (lastOr st r.spots))) ?_ ?_
    · refine congrArg (Ev.forGo "row" sLe ((T (k + 60)).ss sLe (bLr.drop 0)) (rs.map fun r => r.v .int)) ?_
      kernel_rfl
    refine W.mono (led_go k rs (done ++ [r.v (wv ks vs)]) _ _ _ _ (by simp only [List.length_append, List.length_cons, List.length_nil]; omega)) ?_
    rintro f lo' ⟨a, b, c, d, h1, h2⟩
    exact ⟨a, b, c, d, h1, by rw [h2, List.append_assoc]; rfl⟩
theorem led_run (k : Nat) {ks : List Int} {vs : List PV} (rs : List LRow) (hl : rs.length < 2 ^ 10) :
    tc (k + 70) "_law_led" none [.lst (rs.map fun r => r.v .int), .dcti ks vs] = .ok (.pv (.lst (rs.map fun r => r.v (wv ks vs)))) none := by
  refine C.run (lo := loLe (.lst (rs.map fun r => r.v .int)) ks vs none none none none none) rfl (by kernel_rfl) ?_
  refine W.pur (lo' := loLe (.lst (rs.map fun r => r.v .int)) ks vs (some (.own (.lst []))) none none none none) (by kernel_rfl) (by kernel_rfl) ?_
  refine W.forE (x := "row") (items := rs.map fun r => r.v .int) (lo' := loLe (.lst (rs.map fun r => r.v .int)) ks vs (some (.own (.lst []))) none none none none) (by kernel_rfl) (by kernel_rfl) ?_ ?_
  · show R.lift (small (rs.map fun r => r.v .int)) _ = _
    unfold small
    rw [if_pos (by simp only [List.length_map]; omega)]; rfl
  refine W.imp (led_go (k + 8) rs [] none none none none (by simp only [List.length_nil]; omega)) ?_ False.elim
  rintro f lo' ⟨a, b, c, d, rfl, rfl⟩
  rw [List.nil_append]
  refine K.next (W.out (f := .ret (.pv (.lst (rs.map fun r => r.v (wv ks vs))))) (lo' := outLo (ts (k + 69) sLe (nth bLe 2) (loLe (.lst (rs.map fun r => r.v .int)) ks vs (some (.own (.lst (rs.map fun r => r.v (wv ks vs))))) a b c d))) (by kernel_rfl) (by kernel_rfl) (by intro h; cases h) rfl)

/-! ### the plain laws of asm -/
theorem lk_map (f : Nat → Nat) : ∀ (al : List (Nat × Nat)) (n : Nat), lk (al.map fun p => (p.1, f p.2)) n = (lk al n).map f
  | [], _ => rfl
  | (a, b) :: r, n => by
    show (if a = n then some (f b) else lk (r.map fun p => (p.1, f p.2)) n) = (if a = n then some b else lk r n).map f
    by_cases e : a = n
    · rw [if_pos e, if_pos e]; rfl
    · rw [if_neg e, if_neg e]; exact lk_map f r n
/-- labels move with the address -/
theorem la_shift (s : Nat) : ∀ (bs : List BRow) (al : List (Nat × Nat)) (a : Nat), laGo bs (al.map fun p => (p.1, p.2 + s)) (a + s) = (laGo bs al a).map fun al' => al'.map fun p => (p.1, p.2 + s)
  | [], al, a => rfl
  | .row r :: t, al, a => by
    show laGo t _ (a + s + 1) = (laGo t al (a + 1)).map _
    rw [show a + s + 1 = (a + 1) + s by omega]
    exact la_shift s t al (a + 1)
  | .lab n :: t, al, a => by
    show (if (lk _ n).isSome then none else laGo t (_ ++ [(n, a + s)]) (a + s)) = (if (lk al n).isSome then none else laGo t (al ++ [(n, a)]) a).map _
    rw [lk_map (· + s), Option.isSome_map]
    by_cases e : (lk al n).isSome = true
    · rw [if_pos e, if_pos e]; rfl
    · rw [if_neg e, if_neg e]
      have := la_shift s t (al ++ [(n, a)]) a
      rw [List.map_append] at this
      exact this
theorem Row.res_map {γ δ ε : Type} (f : γ → Option δ) (g : δ → ε) (r : Row γ) : r.res (fun x => (f x).map g) = (r.res f).map (Row.map g) := by
  cases r with
  | tr a => simp only [Row.res]; cases f a <;> rfl
  | ret a => simp only [Row.res]; cases f a <;> rfl
  | tru a => simp only [Row.res]; cases f a <;> rfl
  | term a b c d => simp only [Row.res]; cases f a <;> cases f b <;> cases f c <;> cases f d <;> rfl
  | con0 a => simp only [Row.res]; cases f a <;> rfl
  | con1 a b => simp only [Row.res]; cases f a <;> cases f b <;> rfl
  | con2 a b c => simp only [Row.res]; cases f a <;> cases f b <;> cases f c <;> rfl
  | str a b => simp only [Row.res]; cases f a <;> cases f b <;> rfl
  | call => rfl
  | pro => rfl
theorem Row.res_congr {γ δ : Type} {f g : γ → Option δ} (r : Row γ) (h : ∀ x ∈ r.goals, f x = g x) : r.res f = r.res g := by
  cases r with
  | tr a => simp only [Row.res, h a (by simp [Row.goals])]
  | ret a => simp only [Row.res, h a (by simp [Row.goals])]
  | tru a => simp only [Row.res, h a (by simp [Row.goals])]
  | term a b c d => simp only [Row.res, h a (by simp [Row.goals]), h b (by simp [Row.goals]), h c (by simp [Row.goals]), h d (by simp [Row.goals])]
  | con0 a => simp only [Row.res, h a (by simp [Row.goals])]
  | con1 a b => simp only [Row.res, h a (by simp [Row.goals]), h b (by simp [Row.goals])]
  | con2 a b c => simp only [Row.res, h a (by simp [Row.goals]), h b (by simp [Row.goals]), h c (by simp [Row.goals])]
  | str a b => simp only [Row.res, h a (by simp [Row.goals]), h b (by simp [Row.goals])]
  | call => rfl
  | pro => rfl
theorem Row.res_pre {γ δ ε : Type} (f : δ → Option ε) (g : γ → δ) (r : Row γ) : (r.map g).res f = r.res fun x => f (g x) := by
  cases r <;> rfl
theorem Row.goals_map {γ δ : Type} (g : γ → δ) (r : Row γ) : (r.map g).goals = r.goals.map g := by
  cases r <;> rfl
theorem Row.map_map {γ δ ε : Type} (f : δ → ε) (g : γ → δ) (r : Row γ) : (r.map g).map f = r.map fun x => f (g x) := by
  cases r <;> rfl
theorem Row.map_congr {γ δ : Type} {f g : γ → δ} (r : Row γ) (h : ∀ x ∈ r.goals, f x = g x) : r.map f = r.map g := by
  cases r with
  | tr a => simp only [Row.map, h a (by simp [Row.goals])]
  | ret a => simp only [Row.map, h a (by simp [Row.goals])]
  | tru a => simp only [Row.map, h a (by simp [Row.goals])]
  | term a b c d => simp only [Row.map, h a (by simp [Row.goals]), h b (by simp [Row.goals]), h c (by simp [Row.goals]), h d (by simp [Row.goals])]
  | con0 a => simp only [Row.map, h a (by simp [Row.goals])]
  | con1 a b => simp only [Row.map, h a (by simp [Row.goals]), h b (by simp [Row.goals])]
  | con2 a b c => simp only [Row.map, h a (by simp [Row.goals]), h b (by simp [Row.goals]), h c (by simp [Row.goals])]
  | str a b => simp only [Row.map, h a (by simp [Row.goals]), h b (by simp [Row.goals])]
  | call => rfl
  | pro => rfl
/-- the goals of what a row becomes -/
theorem Row.res_goals {γ δ : Type} {f : γ → Option δ} {r : Row γ} {r' : Row δ} (h : r.res f = some r') : ∀ y ∈ r'.goals, ∃ x ∈ r.goals, f x = some y := by
  cases r <;> simp only [Row.res, Option.bind_eq_some_iff, Option.map_eq_some_iff, Option.some.injEq] at h
  case call => subst h; intro y hy; cases hy
  case pro => subst h; intro y hy; cases hy
  case tr | ret | tru | con0 =>
    obtain ⟨a, ha, rfl⟩ := h
    intro y hy
    simp only [Row.goals, List.mem_cons, List.not_mem_nil, or_false] at hy
    subst hy
    exact ⟨_, by simp [Row.goals], ha⟩
  case con1 | str =>
    obtain ⟨a, ha, b, hb, rfl⟩ := h
    intro y hy
    simp only [Row.goals, List.mem_cons, List.not_mem_nil, or_false] at hy
    rcases hy with rfl | rfl
    · exact ⟨_, by simp [Row.goals], ha⟩
    · exact ⟨_, by simp [Row.goals], hb⟩
  case con2 =>
    obtain ⟨a, ha, b, hb, c, hc, rfl⟩ := h
    intro y hy
    simp only [Row.goals, List.mem_cons, List.not_mem_nil, or_false] at hy
    rcases hy with rfl | rfl | rfl
    · exact ⟨_, by simp [Row.goals], ha⟩
    · exact ⟨_, by simp [Row.goals], hb⟩
    · exact ⟨_, by simp [Row.goals], hc⟩
  case term =>
    obtain ⟨a, ha, b, hb, c, hc, d, hd, rfl⟩ := h
    intro y hy
    simp only [Row.goals, List.mem_cons, List.not_mem_nil, or_false] at hy
    rcases hy with rfl | rfl | rfl | rfl
    · exact ⟨_, by simp [Row.goals], ha⟩
    · exact ⟨_, by simp [Row.goals], hb⟩
    · exact ⟨_, by simp [Row.goals], hc⟩
    · exact ⟨_, by simp [Row.goals], hd⟩
end Mine
set_option maxHeartbeats 400000
set_option linter.unusedSimpArgs false
namespace Mine
open PySem

theorem mapM_congr {α β : Type} {f g : α → Option β} : ∀ (l : List α), (∀ a ∈ l, f a = g a) → l.mapM f = l.mapM g
  | [], _ => rfl
  | a :: l, h => by
    rw [List.mapM_cons, List.mapM_cons, h a List.mem_cons_self, mapM_congr l fun b hb => h b (List.mem_cons_of_mem _ hb)]
theorem mapM_app {α β : Type} (f : α → Option β) : ∀ (l m : List α), (l ++ m).mapM f = (l.mapM f).bind fun a => (m.mapM f).map fun b => a ++ b
  | [], m => by
    rw [List.nil_append]
    show _ = (m.mapM f).map fun b => b
    cases m.mapM f <;> rfl
  | a :: l, m => by
    rw [List.cons_append, List.mapM_cons, List.mapM_cons, mapM_app f l m]
    cases f a with
    | none => rfl
    | some b =>
      cases l.mapM f with
      | none => rfl
      | some c => cases m.mapM f <;> rfl
theorem mapM_len {α β : Type} {f : α → Option β} : ∀ {l : List α} {r : List β}, l.mapM f = some r → r.length = l.length
  | [], r, h => by cases h; rfl
  | a :: l, r, h => by
    rw [List.mapM_cons] at h
    cases e : f a with
    | none => rw [e] at h; cases h
    | some b =>
      rw [e] at h
      cases e2 : l.mapM f with
      | none => rw [e2] at h; cases h
      | some c => rw [e2] at h; cases h; rw [List.length_cons, List.length_cons, mapM_len e2]
theorem mapM_mem {α β : Type} {f : α → Option β} : ∀ {l : List α} {r : List β}, l.mapM f = some r → ∀ y ∈ r, ∃ x ∈ l, f x = some y
  | [], r, h => by cases h; intro y hy; cases hy
  | a :: l, r, h => by
    rw [List.mapM_cons] at h
    cases e : f a with
    | none => rw [e] at h; cases h
    | some b =>
      rw [e] at h
      cases e2 : l.mapM f with
      | none => rw [e2] at h; cases h
      | some c =>
        rw [e2] at h; cases h
        intro y hy
        rcases List.mem_cons.mp hy with rfl | hy
        · exact ⟨a, List.mem_cons_self, e⟩
        · obtain ⟨x, hx, e3⟩ := mapM_mem e2 y hy
          exact ⟨x, List.mem_cons_of_mem _ hx, e3⟩
theorem asm_len {bs : List BRow} {b : Nat} {c : List (Row Nat)} (h : asm bs b = some c) : c.length = (rowsOf bs).length := by
  unfold asm at h
  obtain ⟨al, _, h⟩ := Option.bind_eq_some_iff.mp h
  exact mapM_len h
/-- a moved address -/
noncomputable def mv (s : Nat) (a : Nat) : Nat := if a = 2 then 2 else a + s
theorem asm_shift {bs : List BRow} {low : Nat} (s : Nat) (h3 : 3 ≤ low) : asm bs (low + s) = (asm bs low).map (List.map (Row.map (mv s))) := by
  unfold asm
  have e := la_shift s bs [] low
  rw [List.map_nil] at e
  rw [e]
  cases ha : laGo bs [] low with
  | none => rfl
  | some al =>
    show (rowsOf bs).mapM (fun r => r.res (rs (al.map fun p => (p.1, p.2 + s)))) = Option.map (List.map (Row.map (mv s))) ((rowsOf bs).mapM fun r => r.res (rs al))
    rw [← mapM_map]
    refine mapM_congr _ fun r _ => ?_
    rw [← Row.res_map]
    refine Row.res_congr r fun x _ => ?_
    cases x with
    | none => rfl
    | some n =>
      show lk _ n = (lk al n).map (mv s)
      rw [lk_map (· + s)]
      cases hx : lk al n with
      | none => rfl
      | some a =>
        rcases la_bound bs [] low ha n a hx with h | h
        · cases h
        · show some (a + s) = some (mv s a)
          rw [mv, if_neg (by omega)]
/-- the addresses within -/
theorem asm_goals {bs : List BRow} {low : Nat} {c : List (Row Nat)} (F : Fit bs) (h : asm bs low = some c) : ∀ r ∈ c, ∀ a ∈ r.goals, a = 2 ∨ (low ≤ a ∧ a < low + (rowsOf bs).length) := by
  unfold asm at h
  obtain ⟨al, ha, h⟩ := Option.bind_eq_some_iff.mp h
  intro r hr a hga
  obtain ⟨x, _, e⟩ := mapM_mem h r hr
  obtain ⟨g, _, e2⟩ := Row.res_goals e a hga
  cases g with
  | none => exact .inl (Option.some.inj e2).symm
  | some n =>
    obtain ⟨i, q, hbs⟩ := F.last
    rw [hbs] at ha ⊢
    rcases la_end i q [] low ha n a e2 with h | h
    · cases h
    · exact .inr h
noncomputable def wayA (low high many : Nat) : List (Nat × Nat) := (List.range many).map fun i => (low + i, high + i)
theorem wayA_succ (low high many : Nat) : wayA low high (many + 1) = wayA low high many ++ [(low + many, high + many)] := by
  unfold wayA
  rw [List.range_succ, List.map_append]; rfl
theorem lk_way (low high : Nat) : ∀ (many a : Nat), lk (wayA low high many) a = if low ≤ a ∧ a < low + many then some (high + (a - low)) else none
  | 0, a => by
    rw [if_neg (by omega)]; rfl
  | m + 1, a => by
    rw [wayA_succ, lk_app, lk_way low high m a]
    by_cases h1 : low ≤ a ∧ a < low + m
    · rw [if_pos h1, if_pos (c := low ≤ a ∧ a < low + (m + 1)) (by omega)]; rfl
    · rw [if_neg h1]
      by_cases h2 : low + m = a
      · rw [if_pos h2, if_pos (by omega)]
        show some (high + m) = _
        rw [show a - low = m by omega]
      · rw [if_neg h2, if_neg (by omega)]; rfl
theorem wv_lk (al : List (Nat × Nat)) (a : Nat) : wv (ksA al) (vsA al) (Int.ofNat a) = nat ((lk al a).getD a) := by
  unfold wv
  rw [look_lk]
  cases lk al a <;> rfl
theorem cod_P (r : Row Nat) : r.cod = ((r.map Int.ofNat).map PV.int).codP := by cases r <;> rfl
noncomputable def goalI : Option Nat → Int
  | none => Int.negSucc 0
  | some n => Int.ofNat n
theorem enc_P (r : Row (Option Nat)) : r.enc = ((r.map goalI).map PV.int).encP := by
  cases r with
  | tr a => cases a <;> rfl
  | ret a => cases a <;> rfl
  | tru a => cases a <;> rfl
  | term a b c d => cases a <;> cases b <;> cases c <;> cases d <;> rfl
  | con0 a => cases a <;> rfl
  | con1 a b => cases a <;> cases b <;> rfl
  | con2 a b c => cases a <;> cases b <;> cases c <;> rfl
  | str a b => cases a <;> cases b <;> rfl
  | call => rfl
  | pro => rfl
/-- the code led along a way is the code at the other address -/
theorem code_way {bs : List BRow} {low s : Nat} {c : List (Row Nat)} (F : Fit bs) (h3 : 3 ≤ low) (h : asm bs low = some c) (r : Row Nat) (hr : r ∈ c) :
    (LRow.cod (r.map Int.ofNat)).v (wv (ksA (wayA low (low + s) (rowsOf bs).length)) (vsA (wayA low (low + s) (rowsOf bs).length))) = (r.map (mv s)).cod := by
  show (((r.map Int.ofNat).map _).codP : PV) = _
  rw [cod_P, Row.map_map, Row.map_map, Row.map_map]
  refine congrArg Row.codP (Row.map_congr r fun a ha => ?_)
  show wv _ _ (Int.ofNat a) = _
  rw [wv_lk, lk_way]
  rcases asm_goals F h r hr a ha with rfl | h
  · rw [if_neg (by omega)]; rfl
  · rw [if_pos h]
    show nat (low + s + (a - low)) = nat (mv s a)
    rw [mv, if_neg (by omega), show low + s + (a - low) = a + s by omega]

/-! ### exchanged names -/
noncomputable def ren (n : Nat) : Nat := 60 - n
noncomputable def BRow.ren : BRow → BRow
  | .row r => .row (r.map (Option.map Mine.ren))
  | .lab n => .lab (Mine.ren n)
theorem lk_ren : ∀ (al : List (Nat × Nat)) (n : Nat), n < 8 → (∀ p ∈ al, p.1 < 8) → lk (al.map fun p => (ren p.1, p.2)) (ren n) = lk al n
  | [], _, _, _ => rfl
  | (a, b) :: r, n, hn, h => by
    have ha : a < 8 := h _ List.mem_cons_self
    show (if ren a = ren n then some b else lk (r.map fun p => (ren p.1, p.2)) (ren n)) = (if a = n then some b else lk r n)
    have e : ren a = ren n ↔ a = n := by unfold ren; omega
    by_cases e2 : a = n
    · rw [if_pos e2, if_pos (e.mpr e2)]
    · rw [if_neg e2, if_neg (fun q => e2 (e.mp q)), lk_ren r n hn fun p hp => h p (List.mem_cons_of_mem _ hp)]
theorem la_ren : ∀ (bs : List BRow) (al : List (Nat × Nat)) (a : Nat), (∀ n, .lab n ∈ bs → n < 8) → (∀ p ∈ al, p.1 < 8) →
    laGo (bs.map BRow.ren) (al.map fun p => (ren p.1, p.2)) a = (laGo bs al a).map (fun al' => al'.map fun p => (ren p.1, p.2)) ∧ ∀ al', laGo bs al a = some al' → ∀ p ∈ al', p.1 < 8
  | [], al, a, _, h => ⟨rfl, fun al' e => by cases e; exact h⟩
  | .row r :: t, al, a, hb, h => la_ren t al (a + 1) (fun n hn => hb n (List.mem_cons_of_mem _ hn)) h
  | .lab n :: t, al, a, hb, h => by
    have hn := hb n List.mem_cons_self
    show (if (lk (al.map fun p => (ren p.1, p.2)) (ren n)).isSome then none else laGo (t.map BRow.ren) ((al.map fun p => (ren p.1, p.2)) ++ [(ren n, a)]) a) = (if (lk al n).isSome then none else laGo t (al ++ [(n, a)]) a).map _ ∧ ∀ al', (if (lk al n).isSome then none else laGo t (al ++ [(n, a)]) a) = some al' → _
    rw [lk_ren al n hn h]
    by_cases e : (lk al n).isSome = true
    · rw [if_pos e, if_pos e]
      exact ⟨rfl, fun al' e => by cases e⟩
    · rw [if_neg e, if_neg e]
      have ih := la_ren t (al ++ [(n, a)]) a (fun n hn => hb n (List.mem_cons_of_mem _ hn)) (by
        intro p hp
        rcases List.mem_append.mp hp with hp | hp
        · exact h p hp
        · rw [List.mem_singleton.mp hp]; exact hn)
      rw [List.map_append] at ih
      exact ih
theorem rowsOf_ren (bs : List BRow) : rowsOf (bs.map BRow.ren) = (rowsOf bs).map (Row.map (Option.map ren)) := by
  unfold rowsOf
  rw [List.filterMap_map, List.map_filterMap]
  refine congrArg (fun f => List.filterMap f bs) (funext fun b => ?_)
  cases b <;> rfl
theorem mapM_pre {α β γ : Type} (f : β → Option γ) (g : α → β) : ∀ (l : List α), (l.map g).mapM f = l.mapM fun a => f (g a)
  | [] => rfl
  | a :: l => by rw [List.map_cons, List.mapM_cons, List.mapM_cons, mapM_pre f g l]
theorem mem_rows {bs : List BRow} {r : Row (Option Nat)} (h : r ∈ rowsOf bs) : .row r ∈ bs := by
  obtain ⟨y, hy, e⟩ := List.mem_filterMap.mp h
  cases y with
  | lab n => cases e
  | row r' => cases e; exact hy
theorem asm_ren {bs : List BRow} {b : Nat} (hl : ∀ n, .lab n ∈ bs → n < 8) (hg : ∀ r, .row r ∈ bs → ∀ x ∈ r.goals, ∀ n, x = some n → n < 8) : asm (bs.map BRow.ren) b = asm bs b := by
  unfold asm
  obtain ⟨h1, h2⟩ := la_ren bs [] b hl (fun p hp => absurd hp List.not_mem_nil)
  rw [List.map_nil] at h1
  rw [h1]
  cases ha : laGo bs [] b with
  | none => rfl
  | some al =>
    show (rowsOf (bs.map BRow.ren)).mapM _ = (rowsOf bs).mapM _
    rw [rowsOf_ren, mapM_pre]
    refine mapM_congr _ fun r hr => ?_
    rw [Row.res_pre]
    refine Row.res_congr r fun x hx => ?_
    cases x with
    | none => rfl
    | some n => exact lk_ren al n (hg r (mem_rows hr) _ hx n rfl) (h2 al ha)

/-! ### two blocks -/
theorem la_app : ∀ (xs ys : List BRow) (al : List (Nat × Nat)) (a : Nat), laGo (xs ++ ys) al a = (laGo xs al a).bind fun al' => laGo ys al' (a + (rowsOf xs).length)
  | [], ys, al, a => rfl
  | .row r :: t, ys, al, a => by
    show laGo (t ++ ys) al (a + 1) = (laGo t al (a + 1)).bind fun al' => laGo ys al' (a + ((rowsOf t).length + 1))
    rw [la_app t ys al (a + 1)]
    rw [show a + ((rowsOf t).length + 1) = a + 1 + (rowsOf t).length by omega]
  | .lab n :: t, ys, al, a => by
    show (if (lk al n).isSome then none else laGo (t ++ ys) (al ++ [(n, a)]) a) = (if (lk al n).isSome then none else laGo t (al ++ [(n, a)]) a).bind fun al' => laGo ys al' (a + (rowsOf t).length)
    by_cases e : (lk al n).isSome = true
    · rw [if_pos e, if_pos e]; rfl
    · rw [if_neg e, if_neg e]; exact la_app t ys _ a
theorem lk_or : ∀ (al bl : List (Nat × Nat)) (n : Nat), lk (al ++ bl) n = (lk al n).or (lk bl n)
  | [], bl, n => rfl
  | (a, b) :: r, bl, n => by
    show (if a = n then some b else lk (r ++ bl) n) = (if a = n then some b else lk r n).or _
    by_cases e : a = n
    · rw [if_pos e, if_pos e]; rfl
    · rw [if_neg e, if_neg e]; exact lk_or r bl n
theorem la_front (al1 : List (Nat × Nat)) : ∀ (ys : List BRow) (al : List (Nat × Nat)) (a : Nat), (∀ n, .lab n ∈ ys → lk al1 n = none) → laGo ys (al1 ++ al) a = (laGo ys al a).map fun al' => al1 ++ al'
  | [], al, a, _ => rfl
  | .row r :: t, al, a, h => la_front al1 t al (a + 1) fun n hn => h n (List.mem_cons_of_mem _ hn)
  | .lab n :: t, al, a, h => by
    show (if (lk (al1 ++ al) n).isSome then none else laGo t (al1 ++ al ++ [(n, a)]) a) = (if (lk al n).isSome then none else laGo t (al ++ [(n, a)]) a).map _
    rw [lk_or, h n List.mem_cons_self, Option.none_or]
    by_cases e : (lk al n).isSome = true
    · rw [if_pos e, if_pos e]; rfl
    · rw [if_neg e, if_neg e, List.append_assoc]
      exact la_front al1 t _ a fun n hn => h n (List.mem_cons_of_mem _ hn)
theorem la_mem : ∀ (bs : List BRow) (al : List (Nat × Nat)) (a : Nat) {al' : List (Nat × Nat)}, laGo bs al a = some al' → ∀ n x, lk al' n = some x → lk al n = some x ∨ .lab n ∈ bs
  | [], al, a, al', h, n, x, hx => by cases h; exact .inl hx
  | .row r :: t, al, a, al', h, n, x, hx => by
    rcases la_mem t al (a + 1) h n x hx with h1 | h1
    · exact .inl h1
    · exact .inr (List.mem_cons_of_mem _ h1)
  | .lab m :: t, al, a, al', h, n, x, hx => by
    have h : (if (lk al m).isSome then none else laGo t (al ++ [(m, a)]) a) = some al' := h
    split at h
    · cases h
    · rcases la_mem t _ a h n x hx with h1 | h1
      · rw [lk_app] at h1
        by_cases e : m = n
        · subst e; exact .inr List.mem_cons_self
        · rw [if_neg e, Option.or_none] at h1; exact .inl h1
      · exact .inr (List.mem_cons_of_mem _ h1)
theorem asm_app {xs ys : List BRow} {b p q : Nat} (hpq : p ≠ q) (X : BlockOK p xs) (Y : BlockOK q ys) :
    asm (xs ++ ys) b = (asm xs b).bind fun c1 => (asm ys (b + c1.length)).map fun c2 => c1 ++ c2 := by
  have hx : ∀ c1, asm xs b = some c1 → c1.length = (rowsOf xs).length := fun c1 h => asm_len h
  have e0 : ((asm xs b).bind fun c1 => (asm ys (b + c1.length)).map fun c2 => c1 ++ c2) = ((asm xs b).bind fun c1 => (asm ys (b + (rowsOf xs).length)).map fun c2 => c1 ++ c2) := by
    cases h : asm xs b with
    | none => rfl
    | some c1 => show (asm ys (b + c1.length)).map _ = _; rw [hx c1 h]; rfl
  rw [e0]
  unfold asm
  rw [la_app]
  cases ha : laGo xs [] b with
  | none => rfl
  | some al1 =>
    have hk1 : ∀ n, n % 2 = q → lk al1 n = none := by
      intro n hn
      cases h : lk al1 n with
      | none => rfl
      | some x =>
        rcases la_mem xs [] b ha n x h with h | h
        · cases h
        · have := (X.labs n h).2
          omega
    have hf := la_front al1 ys [] (b + (rowsOf xs).length) fun n hn => hk1 n (Y.labs n hn).2
    rw [List.append_nil] at hf
    rw [Option.bind_some, Option.bind_some, hf]
    cases hb : laGo ys [] (b + (rowsOf xs).length) with
    | none =>
      show none = ((rowsOf xs).mapM fun r : Row (Option Nat) => r.res (rs al1)).bind fun _ => (none : Option (List (Row Nat)))
      cases (rowsOf xs).mapM (fun r : Row (Option Nat) => r.res (rs al1)) <;> rfl
    | some al2 =>
      show (rowsOf (xs ++ ys)).mapM (fun r : Row (Option Nat) => r.res (rs (al1 ++ al2))) = ((rowsOf xs).mapM fun r : Row (Option Nat) => r.res (rs al1)).bind fun c1 => ((rowsOf ys).mapM fun r : Row (Option Nat) => r.res (rs al2)).map fun c2 => c1 ++ c2
      rw [rowsOf_app, mapM_app]
      have e1 : (rowsOf xs).mapM (fun r : Row (Option Nat) => r.res (rs (al1 ++ al2))) = (rowsOf xs).mapM fun r : Row (Option Nat) => r.res (rs al1) := by
        refine mapM_congr _ fun r hr => Row.res_congr r fun x hx => ?_
        cases x with
        | none => rfl
        | some n =>
          show lk _ n = lk al1 n
          rw [lk_or]
          cases h : lk al2 n with
          | none => rw [Option.or_none]
          | some y =>
            rcases la_mem ys [] _ hb n y h with h | h
            · cases h
            · have h1 := (Y.labs n h).2
              have h2 := (X.gls r (mem_rows hr) _ hx n rfl).2
              omega
      have e2 : (rowsOf ys).mapM (fun r : Row (Option Nat) => r.res (rs (al1 ++ al2))) = (rowsOf ys).mapM fun r : Row (Option Nat) => r.res (rs al2) := by
        refine mapM_congr _ fun r hr => Row.res_congr r fun x hx => ?_
        cases x with
        | none => rfl
        | some n =>
          show lk _ n = lk al2 n
          rw [lk_or, hk1 n (Y.gls r (mem_rows hr) _ hx n rfl).2, Option.none_or]
      rw [e1, e2]
end Mine
set_option maxHeartbeats 400000
set_option linter.unusedSimpArgs false
namespace Mine
open PySem

/-! ### == of a tree with itself -/
noncomputable def gdF (f : PV → Bool) : PV → Bool
  | .none => true
  | .bool _ => true
  | .int _ => true
  | .str _ => true
  | .txt _ => false
  | .tup l => l.all f
  | .lst l => l.all f
  | .dcti _ vs => vs.all f
  | .dcts _ _ => false
  | .dctt _ vs => vs.all f
noncomputable def gd : Nat → PV → Bool
  | 0 => fun _ => false
  | n + 1 => gdF (gd n)
theorem eqvs_refl {f : PV → PV → Option Bool} {l : List PV} (h : ∀ x ∈ l, f x x = some true) : eqvs f l l = some true := by
  induction l with
  | nil => rfl
  | cons a l ih =>
    show (match f a a with | some true => eqvs f l l | r => r) = _
    rw [h a List.mem_cons_self]
    exact ih fun x hx => h x (List.mem_cons_of_mem _ hx)
theorem eqv_refl (n : Nat) : ∀ (p : PV), gd n p = true → eqv n p p = some true := by
  induction n with
  | zero => exact fun _ h => nomatch h
  | succ n ih =>
    intro p h
    have hall : ∀ l : List PV, l.all (gd n) = true → eqvs (eqv n) l l = some true := fun l hl => eqvs_refl fun x hx => ih x (List.all_eq_true.mp hl x hx)
    have key : ∀ {p : Prop} [Decidable p] {l : List PV} {x : Option Bool}, p → l.all (gd n) = true → (if p then eqT (eqvs (eqv n) l l) else x) = some true := fun hp hl => by rw [if_pos hp, hall _ hl]; rfl
    cases p with
    | none => rfl
    | bool b => show some (b == b) = _; rw [beq_self_eq_true]
    | int i => show some (i == i) = _; rw [beq_self_eq_true]
    | str s => show some (s == s) = _; rw [beq_self_eq_true]
    | txt => cases h
    | tup l => exact hall l h
    | lst l => exact key (p := l.length = l.length) rfl h
    | dcti ks vs => exact key (p := ks = ks) rfl h
    | dcts => cases h
    | dctt ks vs => exact key (p := ks = ks) rfl h
theorem gd_cod (r : Row Nat) : gd 11 r.cod = true := by cases r <;> rfl
theorem gd_enc (b : BRow) : gd 10 b.enc = true := by
  cases b with
  | lab n => rfl
  | row r => rw [show (BRow.row r).enc = r.enc from rfl, enc_P]; cases r <;> rfl
theorem codes_refl (c : List (Row Nat)) : eqD (codesV c) (codesV c) = some true :=
  eqv_refl 12 _ (List.all_eq_true.mpr fun x hx => by obtain ⟨r, _, rfl⟩ := List.mem_map.mp hx; exact gd_cod r)
theorem kept_refl (a b : List BRow) : eqD (.lst [.lst (brV a), .lst (brV b)]) (.lst [.lst (brV a), .lst (brV b)]) = some true := by
  have key : ∀ bs : List BRow, gd 11 (.lst (brV bs)) = true := fun bs => List.all_eq_true.mpr fun x hx => by obtain ⟨r, _, rfl⟩ := List.mem_map.mp hx; exact gd_enc r
  refine eqv_refl 12 _ (List.all_eq_true.mpr fun x hx => ?_)
  simp only [List.mem_cons, List.not_mem_nil, or_false] at hx
  rcases hx with rfl | rfl
  · exact key a
  · exact key b
theorem made_ne (o : Option (List (Row Nat))) : cmp .NotEq (madeV o) (madeV o) = some false := by
  cases o with
  | none => rfl
  | some c =>
    show (eqD (codesV c) (codesV c)).map (!·) = _
    rw [codes_refl]; rfl

/-! ### or, and -/
noncomputable def boE (i : Nat) (e : Expr) : Expr := xBoolOp dE e fun _ es _ => eth es i
noncomputable def isBO (op : BoolOp) (e : Expr) : Bool := xBoolOp false e fun o es _ => hd1 false es fun _ r => one false r fun _ => decide (o = op)
theorem isBO_inv {op : BoolOp} {e : Expr} (h : isBO op e = true) : ∃ a b q, e = .BoolOp op [a, b] q := by
  obtain ⟨o, es, q, h1, h⟩ := xBoolOp_inv tf h
  obtain ⟨a, r, h2, h⟩ := hd1_inv tf h
  obtain ⟨b, h3, h⟩ := one_inv tf h
  exact ⟨a, b, q, by rw [h1, h2, h3, of_decide_eq_true h]⟩
section
variable {k : Nat} {sc : Scope} {e : Expr} {lo lo' : Lo}
theorem or_eq {c : Bool} {lo'' : Lo} (hi : isBO .Or e = true) (h1 : tb k sc (boE 0 e) lo = .ok false lo') (h2 : tb k sc (boE 1 e) lo' = .ok c lo'') : tb (k + 1) sc e lo = .ok c lo'' := by
  obtain ⟨a, b, q, rfl⟩ := isBO_inv hi
  have h1 : (T k).b sc a lo = .ok false lo' := h1
  have h2 : (T k).b sc b lo' = .ok c lo'' := h2
  show R.bind ((T k).b sc a) (fun t => match BoolOp.Or, t with | .And, false => .ret false | .Or, true => .ret true | _, _ => (T k).b sc b) lo = _
  unfold R.bind
  rw [h1]
  exact h2
theorem and_val {c : Bool} {lo'' : Lo} (hi : isBO .And e = true) (h1 : te k sc (boE 0 e) lo = .ok (.pv (.bool true)) lo') (h2 : te k sc (boE 1 e) lo' = .ok (.pv (.bool c)) lo'') : te (k + 1) sc e lo = .ok (.pv (.bool c)) lo'' := by
  obtain ⟨a, b, q, rfl⟩ := isBO_inv hi
  have h1 : (T k).pvE sc a lo = .ok (.bool true) lo' := by
    have h1 : te k sc a lo = .ok (.pv (.bool true)) lo' := h1
    unfold te at h1
    unfold Ev.pvE R.bind
    rw [h1]; rfl
  have h2 : (T k).pvE sc b lo' = .ok (.bool c) lo'' := by
    have h2 : te k sc b lo' = .ok (.pv (.bool c)) lo'' := h2
    unfold te at h2
    unfold Ev.pvE R.bind
    rw [h2]; rfl
  have key : (T k).boolE sc .And [a, b] lo = .ok (.bool c) lo'' := by
    show (R.bind ((T k).pvE sc a) _) lo = _
    unfold R.bind
    rw [h1]
    exact h2
  show (R.bind ((T k).boolE sc .And [a, b]) fun p => (R.ret (LV.pv p) : R LV)) lo = _
  unfold R.bind
  rw [key]; rfl
end
theorem evs2 {k : Nat} {sc : Scope} {es : List Expr} {lo : Lo} {p q : LV} (h0 : isElt es 0 = true) (h1 : isElt es 1 = true) (h2 : decide (es.length ≤ 2) = true) (e0 : te k sc (eth es 0) lo = .ok p lo) (e1 : te k sc (eth es 1) lo = .ok q lo) : (T k).evs sc (es.drop 0) lo = .ok [p.toPV, q.toPV] lo :=
  W.get (W.evs h0 (W.ok e0 (W.evs h1 (W.ok e1 (W.evs_nil h2 ⟨rfl, rfl⟩)))))
end Mine
set_option maxHeartbeats 400000
set_option linter.unusedSimpArgs false
namespace Mine
open PySem

section
variable {k : Nat} {sc : Scope} {e : Expr} {lo lo' lo'' : Lo}
theorem user_ok2 {g : Str} {ps : List PV} {v : LV} (hi : isUser sc g e = true) (hp : (T k).evs sc ((eltsOf e).drop 0) lo = .ok ps lo') (hc : tc k g none ps = .ok v none) : te (k + 1) sc e lo = .ok v lo' := by
  rw [user_of2 hi hp]
  unfold Ev.userE
  unfold tc at hc
  rw [hc]
theorem evs22 {es : List Expr} {p q : LV} (h0 : isElt es 0 = true) (h1 : isElt es 1 = true) (h2 : decide (es.length ≤ 2) = true) (e0 : te k sc (eth es 0) lo = .ok p lo') (e1 : te k sc (eth es 1) lo' = .ok q lo'') : (T k).evs sc (es.drop 0) lo = .ok [p.toPV, q.toPV] lo'' :=
  W.get (W.evs h0 (W.ok e0 (W.evs h1 (W.ok e1 (W.evs_nil h2 ⟨rfl, rfl⟩)))))
end

/-! ### law -/
noncomputable abbrev sLw : Scope := scD "law"
noncomputable abbrev bLw : List Stmt := bD "law"
noncomputable abbrev bLp : List Stmt := bodyOf (nth bLw 8)
structure LwH where
  S : PV
  l : List PV
  A : List BRow
  B : List BRow
  low : Nat
  s : Nat
noncomputable def LwH.high (H : LwH) : Nat := H.low + H.s
noncomputable def keptV (A B : List BRow) : MO := .lst [.lst (brV A), .lst (brV B)]
noncomputable def loLw (H : LwH) (nm ro co sh ma wa pl fi bo se : Option LV) : Lo := [V "script" H.S, O "figures" (.lst H.l), V "one" (.lst (brV H.A)), V "other" (.lst (brV H.B)), V "low" (nat H.low), V "high" (nat (H.low + H.s)), O "kept" (keptV H.A H.B), ("names", nm), V "number" (nat 7), ("rows", ro), ("code", co), ("shifted", sh), ("many", ma), ("way", wa), ("place", pl), ("first", fi), ("both", bo), ("second", se)]
noncomputable def nmA : List (Nat × Nat) := [(0, 60), (1, 59), (2, 58), (3, 57), (4, 56), (5, 55), (6, 54), (7, 53)]
theorem nm_wv {n : Nat} (h : n < 8) : wv (ksA nmA) (vsA nmA) (Int.ofNat n) = nat (ren n) := by
  rw [wv_lk]
  match n, h with
  | 0, _ | 1, _ | 2, _ | 3, _ | 4, _ | 5, _ | 6, _ | 7, _ => rfl
noncomputable def BRow.toL : BRow → LRow
  | .row r => .enc (r.map goalI)
  | .lab n => .lab (Int.ofNat n)
theorem brV_L (bs : List BRow) : brV bs = (bs.map BRow.toL).map fun r => r.v .int := by
  unfold brV
  rw [List.map_map]
  refine congrArg (fun f => List.map f bs) (funext fun b => ?_)
  cases b with
  | row r => exact enc_P r
  | lab n => rfl
theorem ren_L {bs : List BRow} (hl : ∀ n, .lab n ∈ bs → n < 8) (hg : ∀ r, .row r ∈ bs → ∀ x ∈ r.goals, ∀ n, x = some n → n < 8) : ((bs.map BRow.toL).map fun r => r.v (wv (ksA nmA) (vsA nmA))) = brV (bs.map BRow.ren) := by
  unfold brV
  rw [List.map_map, List.map_map]
  refine List.map_congr_left fun b hb => ?_
  cases b with
  | row r =>
    show ((r.map goalI).map (wv (ksA nmA) (vsA nmA))).encP = (r.map (Option.map ren)).enc
    rw [enc_P, Row.map_map, Row.map_map, Row.map_map]
    refine congrArg Row.encP (Row.map_congr r fun x hx => ?_)
    cases x with
    | none => rfl
    | some n => exact nm_wv (hg r hb _ hx n rfl)
  | lab n =>
    show PV.tup [.str "label", wv (ksA nmA) (vsA nmA) (Int.ofNat n)] = labV (ren n)
    rw [nm_wv (hl n hb)]; rfl
theorem fit_of {p : Nat} {bs : List BRow} (B : BlockOK p bs) : Fit bs :=
  ⟨fun n h => by have := (B.labs n h).1; omega, fun r h x hx n e => by have := (B.gls r h x hx n e).1; omega, by have := B.len; omega, by obtain ⟨i, e⟩ := B.last; exact ⟨i, _, e⟩⟩
theorem fit_ren {p : Nat} {bs : List BRow} (B : BlockOK p bs) : Fit (bs.map BRow.ren) := by
  refine ⟨fun n h => ?_, fun r h x hx n e => ?_, by rw [List.length_map]; have := B.len; omega, ?_⟩
  · obtain ⟨b, hb, e⟩ := List.mem_map.mp h
    cases b with
    | row r => cases e
    | lab m => cases e; unfold ren; omega
  · obtain ⟨b, hb, e'⟩ := List.mem_map.mp h
    cases b with
    | lab m => cases e'
    | row r' =>
      cases e'
      rw [Row.goals_map] at hx
      obtain ⟨y, hy, e2⟩ := List.mem_map.mp hx
      subst e
      cases y with
      | none => cases e2
      | some m => cases e2; unfold ren; omega
  · obtain ⟨i, e⟩ := B.last
    exact ⟨i.map BRow.ren, _, by rw [e, List.map_append]; rfl⟩
theorem fit_app {p q : Nat} {a b : List BRow} (A : BlockOK p a) (B : BlockOK q b) : Fit (a ++ b) := by
  refine ⟨fun n h => ?_, fun r h x hx n e => ?_, by rw [List.length_append]; have := A.len; have := B.len; omega, ?_⟩
  · rcases List.mem_append.mp h with h | h
    · exact (fit_of A).labs n h
    · exact (fit_of B).labs n h
  · rcases List.mem_append.mp h with h | h
    · exact (fit_of A).goals r h x hx n e
    · exact (fit_of B).goals r h x hx n e
  · obtain ⟨i, e⟩ := B.last
    exact ⟨a ++ i, _, by rw [e, List.append_assoc]⟩
noncomputable def nmOk2 (nm : LV) : Prop := nm = .own (.dcti (ksA nmA) (vsA nmA)) ∨ nm = .pv (dA nmA)
theorem range_eq (n : Nat) (h : n < 2 ^ 10) : Ev.rangeOf (nat n) = some ((List.range' 0 n).map fun i => .int (Int.ofNat i)) := by
  unfold Ev.rangeOf nat
  have h2 : (0 : Int) ≤ Int.ofNat n ∧ Int.ofNat n < 2 ^ 20 := ⟨Int.natCast_nonneg n, by
    have : (n : Int) < 2 ^ 20 := by omega
    exact this⟩
  simp only []
  rw [if_pos h2, List.range_eq_range']; rfl
theorem ne_nat {a b : Nat} (h : a = b) : cmp .NotEq (nat a) (nat b) = some false := by
  subst h
  show some (Int.ofNat a != Int.ofNat a) = _
  rw [bne_self_eq_false]
section
variable {H : LwH} {C : List BRow} {p : Nat} (hC : BlockOK p C)
include hC
/-- _law_made(_law_led(rows, names), low) != code -/
theorem lp_ren (k : Nat) {nm : LV} {sh ma wa pl fi bo se : Option LV} (hnm : nmOk2 nm) :
    tb (k + 150) sLw (boE 1 (testOf (nth bLp 2))) (loLw H (some nm) (some (.pv (.lst (brV C)))) (some (.pv (madeV (asm C H.low)))) sh ma wa pl fi bo se) = .ok false (loLw H (some (.pv (dA nmA))) (some (.pv (.lst (brV C)))) (some (.pv (madeV (asm C H.low)))) sh ma wa pl fi bo se) := by
  refine cmp_eq2 (lo' := loLw H (some (.pv (dA nmA))) (some (.pv (.lst (brV C)))) (some (.pv (madeV (asm C H.low)))) sh ma wa pl fi bo se) (op := .NotEq) (x := .pv (madeV (asm C H.low))) (y := .pv (madeV (asm C H.low))) (by kernel_rfl) (rd_eq (v := .pv (madeV (asm C H.low))) (by kernel_rfl) ?_) (by kernel_rfl) rfl rfl (made_ne _)
  have hm := made_ok (k + 18) (b := H.low) (fit_ren hC)
  rw [asm_ren (fun n h => (hC.labs n h).1) (fun r h x hx n e => (hC.gls r h x hx n e).1)] at hm
  refine user_ok2 (g := "_law_made") (ps := [.lst (brV (C.map BRow.ren)), nat H.low]) (by kernel_rfl) ?_ hm
  refine evs22 (p := .pv (.lst (brV (C.map BRow.ren)))) (q := .pv (nat H.low)) (lo' := loLw H (some (.pv (dA nmA))) (some (.pv (.lst (brV C)))) (some (.pv (madeV (asm C H.low)))) sh ma wa pl fi bo se) (by kernel_rfl) (by kernel_rfl) (by kernel_rfl) ?_ (by kernel_rfl)
  have hl := led_run (k + 77) (ks := ksA nmA) (vs := vsA nmA) (C.map BRow.toL) (by rw [List.length_map]; have := hC.len; omega)
  rw [← brV_L, ren_L (fun n h => (hC.labs n h).1) (fun r h x hx n e => (hC.gls r h x hx n e).1)] at hl
  refine user_ok2 (g := "_law_led") (ps := [.lst (brV C), dA nmA]) (by kernel_rfl) ?_ hl
  rcases hnm with rfl | rfl <;> kernel_rfl
/-- the first test of a turn -/
theorem lp_same (k : Nat) {nm : Option LV} {ro ma wa pl fi bo se : Option LV} (o : Option (List (Row Nat))) (f : List (Row Nat) → List (Row Nat)) :
    tb (k + 150) sLw (boE 0 (testOf (nth bLp 2))) (loLw H nm ro (some (.pv (madeV o))) (some (.pv (madeV (o.map f)))) ma wa pl fi bo se) = .ok false (loLw H nm ro (some (.pv (madeV o))) (some (.pv (madeV (o.map f)))) ma wa pl fi bo se) := by
  cases o <;> kernel_rfl
noncomputable abbrev bCo : List Stmt := thenOf (nth bLp 3)
/-- the way's loop -/
theorem lp_way (k : Nat) {nm ro co sh ma fi bo se : Option LV} : ∀ (n j : Nat) (pl : Option LV), j + n < 2 ^ 10 →
    W (Ev.forGo "place" sLw ((T (k + 30)).ss sLw ((bodyOf (nth bCo 2)).drop 0)) ((List.range' j n).map fun i => .int (Int.ofNat i)) (loLw H nm ro co sh ma (some (.own (.dcti (ksA (wayA H.low (H.low + H.s) j)) (vsA (wayA H.low (H.low + H.s) j))))) pl fi bo se))
      (fun f lo' => ∃ pl', f = .next ∧ lo' = loLw H nm ro co sh ma (some (.own (.dcti (ksA (wayA H.low (H.low + H.s) (j + n))) (vsA (wayA H.low (H.low + H.s) (j + n)))))) pl' fi bo se) False
  | 0, j, pl, _ => W.for_nil ⟨pl, rfl, rfl⟩
  | n + 1, j, pl, hj => by
    rw [List.range'_succ, List.map_cons]
    refine W.for_cons (by kernel_rfl) ?_
    refine W.fix (lo' := loLw H nm ro co sh ma (some (.own (.dcti (ksA (wayA H.low (H.low + H.s) j)) (vsA (wayA H.low (H.low + H.s) j))))) (some (.pv (nat j))) fi bo se) (by kernel_rfl) ?_
    refine W.sub (x := "way") (by kernel_rfl) (by kernel_rfl) (W.ok (a := .pv (nat (H.low + H.s + j))) (lo := loLw H nm ro co sh ma (some (.own (.dcti (ksA (wayA H.low (H.low + H.s) j)) (vsA (wayA H.low (H.low + H.s) j))))) (some (.pv (nat j))) fi bo se) (by kernel_rfl) ⟨.dcti (ksA (wayA H.low (H.low + H.s) j)) (vsA (wayA H.low (H.low + H.s) j)), nat (H.low + j), .dcti (ksA (wayA H.low (H.low + H.s) (j + 1))) (vsA (wayA H.low (H.low + H.s) (j + 1))), by kernel_rfl, by kernel_rfl, ?_, W.nil (by kernel_rfl) ?_⟩)
    · show (if (ksA (wayA H.low (H.low + H.s) j)).length < 2 ^ 20 then some (MO.dcti (put (ksA (wayA H.low (H.low + H.s) j)) (vsA (wayA H.low (H.low + H.s) j)) (Int.ofNat (H.low + j)) (nat (H.low + H.s + j))).1 (put (ksA (wayA H.low (H.low + H.s) j)) (vsA (wayA H.low (H.low + H.s) j)) (Int.ofNat (H.low + j)) (nat (H.low + H.s + j))).2) else none) = _
      rw [if_pos (by simp only [ksA, wayA, List.length_map, List.length_range]; omega), put_new (by simp only [ksA, vsA, List.length_map]) (by rw [look_lk, lk_way, if_neg (by omega)]; rfl), (dA_app _ _ _).1, (dA_app _ _ _).2, wayA_succ]
    refine W.to (y := Ev.forGo "place" sLw ((T (k + 30)).ss sLw ((bodyOf (nth bCo 2)).drop 0)) ((List.range' (j + 1) n).map fun i => .int (Int.ofNat i)) (loLw H nm ro co sh ma (some (.own (.dcti (ksA (wayA H.low (H.low + H.s) (j + 1))) (vsA (wayA H.low (H.low + H.s) (j + 1)))))) (some (.pv (nat j))) fi bo se)) ?_ ?_
    · refine congrArg (Ev.forGo "place" sLw ((T (k + 30)).ss sLw ((bodyOf (nth bCo 2)).drop 0)) ((List.range' (j + 1) n).map fun i => .int (Int.ofNat i))) ?_
      kernel_rfl
    rw [show j + (n + 1) = (j + 1) + n by omega]
    exact lp_way k n (j + 1) _ (by omega)
/-- many -/
theorem lp_many (k : Nat) {nm co sh ma wa pl fi bo se : Option LV} :
    te (k + 30) sLw (valOf (nth bCo 0)) (loLw H nm (some (.pv (.lst (brV C)))) co sh ma wa pl fi bo se) = .ok (.pv (nat (rowsOf C).length)) (loLw H nm (some (.pv (.lst (brV C)))) co sh ma wa pl fi bo se) := by
  have hl := hC.len
  have hr : (rowsOf C).length < 2 ^ 10 := Nat.lt_of_le_of_lt (List.length_filterMap_le _ _) (by omega)
  refine W.get (W.b1 (g := "len") (by kernel_rfl) (by kernel_rfl) ?_)
  refine W.lcomp (x := "row") (v := .pv (.lst (brV C))) (items := brV C) (lo' := loLw H nm (some (.pv (.lst (brV C)))) co sh ma wa pl fi bo se) (by kernel_rfl) (by kernel_rfl) rfl (by simp only [List.length_map]; omega) ?_
  refine W.ok (comp_filter BRow.enc BRow.rowV C ?_) ⟨.pv (nat (rowsOf C).length), ?_, rfl, rfl⟩
  · intro x _
    cases x with
    | row r => cases r <;> kernel_rfl
    | lab n => kernel_rfl
  · show bcall "len" (.lst (C.filterMap BRow.rowV)) = _
    rw [rowV_eq, len_eq (by simp only [List.length_map]; omega), List.length_map]; rfl
noncomputable def ownW (H : LwH) (C : List BRow) : Option LV := some (.own (.dcti (ksA (wayA H.low (H.low + H.s) (rowsOf C).length)) (vsA (wayA H.low (H.low + H.s) (rowsOf C).length))))
noncomputable def pvW (H : LwH) (C : List BRow) : Option LV := some (.pv (dA (wayA H.low (H.low + H.s) (rowsOf C).length)))
/-- len(code) != many -/
theorem lp_c0 (k : Nat) {c : List (Row Nat)} {m : Nat} (hc : c.length = m) (hm : m < 2 ^ 10) {nm ro sh wa pl fi bo se : Option LV} :
    tb (k + 30) sLw (boE 0 (testOf (nth bCo 3))) (loLw H nm ro (some (.pv (codesV c))) sh (some (.pv (nat m))) wa pl fi bo se) = .ok false (loLw H nm ro (some (.pv (codesV c))) sh (some (.pv (nat m))) wa pl fi bo se) := by
  refine cmp_eq (op := .NotEq) (x := .pv (nat c.length)) (y := .pv (nat m)) (by kernel_rfl) (rd_eq (v := .pv (nat c.length)) (by kernel_rfl) (b1_eq (g := "len") (x := .pv (codesV c)) (p := codesV c) (by kernel_rfl) (by kernel_rfl) rfl ?_)) (by kernel_rfl) rfl rfl (ne_nat hc)
  unfold codesV
  rw [len_eq (by simp only [List.length_map]; omega), List.length_map]; rfl
theorem led_code {s : Nat} {c : List (Row Nat)} (h3 : 3 ≤ H.low) (ha : asm C H.low = some c) :
    ((c.map fun r => LRow.cod (r.map Int.ofNat)).map fun r => r.v (wv (ksA (wayA H.low (H.low + s) (rowsOf C).length)) (vsA (wayA H.low (H.low + s) (rowsOf C).length)))) = (c.map (Row.map (mv s))).map Row.cod := by
  rw [List.map_map, List.map_map]
  refine List.map_congr_left fun r hr => ?_
  exact code_way (fit_of hC) h3 ha r hr
/-- _law_led(code, way) != shifted -/
theorem lp_c1 (k : Nat) (h3 : 3 ≤ H.low) {c : List (Row Nat)} (ha : asm C H.low = some c) {nm ro ma pl fi bo se : Option LV} :
    tb (k + 150) sLw (boE 1 (testOf (nth bCo 3))) (loLw H nm ro (some (.pv (codesV c))) (some (.pv (codesV (c.map (Row.map (mv H.s)))))) ma (ownW H C) pl fi bo se) = .ok false (loLw H nm ro (some (.pv (codesV c))) (some (.pv (codesV (c.map (Row.map (mv H.s)))))) ma (pvW H C) pl fi bo se) := by
  have hl := hC.len
  have hr : (rowsOf C).length < 2 ^ 9 := Nat.lt_of_le_of_lt (List.length_filterMap_le _ _) (by omega)
  have hc := asm_len ha
  refine cmp_eq2 (lo' := loLw H nm ro (some (.pv (codesV c))) (some (.pv (codesV (c.map (Row.map (mv H.s)))))) ma (pvW H C) pl fi bo se) (op := .NotEq) (x := .pv (codesV (c.map (Row.map (mv H.s))))) (y := .pv (codesV (c.map (Row.map (mv H.s))))) (by kernel_rfl) (rd_eq (v := .pv (codesV (c.map (Row.map (mv H.s))))) (by kernel_rfl) ?_) (by kernel_rfl) rfl rfl (made_ne (some _))
  have hled := led_run (k + 78) (ks := ksA (wayA H.low (H.low + H.s) (rowsOf C).length)) (vs := vsA (wayA H.low (H.low + H.s) (rowsOf C).length)) (c.map fun r => LRow.cod (r.map Int.ofNat)) (by rw [List.length_map]; omega)
  have e1 : ((c.map fun r => LRow.cod (r.map Int.ofNat)).map fun r => r.v .int) = c.map Row.cod := by
    rw [List.map_map]
    refine List.map_congr_left fun r _ => ?_
    exact (cod_P r).symm
  rw [e1, led_code hC h3 ha] at hled
  exact user_ok2 (g := "_law_led") (ps := [codesV c, dA (wayA H.low (H.low + H.s) (rowsOf C).length)]) (by kernel_rfl) (by kernel_rfl) hled
/-- a turn over a block -/
theorem lp_turn (k : Nat) (h3 : 3 ≤ H.low) {nm : LV} {co sh ma wa pl fi bo se : Option LV} (hnm : nmOk2 nm) :
    W ((T (k + 160)).ss sLw (bLp.drop 0) (loLw H (some nm) (some (.pv (.lst (brV C)))) co sh ma wa pl fi bo se))
      (fun f lo' => ∃ co' sh' ma' wa' pl', f = .next ∧ lo' = loLw H (some (.pv (dA nmA))) (some (.pv (.lst (brV C)))) co' sh' ma' wa' pl' fi bo se) False := by
  have hl := hC.len
  have hr : (rowsOf C).length < 2 ^ 9 := Nat.lt_of_le_of_lt (List.length_filterMap_le _ _) (by omega)
  refine W.asgE (x := "code") (by kernel_rfl) (by kernel_rfl) (user_ok2 (g := "_law_made") (ps := [.lst (brV C), nat H.low]) (lo' := loLw H (some nm) (some (.pv (.lst (brV C)))) co sh ma wa pl fi bo se) (by kernel_rfl) (by kernel_rfl) (made_ok (k + 28) (b := H.low) (fit_of hC))) ?_
  refine W.fix (lo' := loLw H (some nm) (some (.pv (.lst (brV C)))) (some (.pv (madeV (asm C H.low)))) sh ma wa pl fi bo se) (by kernel_rfl) ?_
  refine W.asgE (x := "shifted") (by kernel_rfl) (by kernel_rfl) (user_ok2 (g := "_law_made") (ps := [.lst (brV C), nat (H.low + H.s)]) (lo' := loLw H (some nm) (some (.pv (.lst (brV C)))) (some (.pv (madeV (asm C H.low)))) sh ma wa pl fi bo se) (by kernel_rfl) (by kernel_rfl) (made_ok (k + 28) (b := H.low + H.s) (fit_of hC))) ?_
  rw [asm_shift H.s h3]
  refine W.fix (lo' := loLw H (some nm) (some (.pv (.lst (brV C)))) (some (.pv (madeV (asm C H.low)))) (some (.pv (madeV ((asm C H.low).map (List.map (Row.map (mv H.s))))))) ma wa pl fi bo se) (by kernel_rfl) ?_
  refine W.iff (c := false) (by kernel_rfl) (or_eq (by kernel_rfl) (lp_same hC (k + 8) _ _) (lp_ren hC (k + 8) hnm)) (W.nil (by kernel_rfl) (K.next ?_))
  cases ha : asm C H.low with
  | none =>
    refine W.iff (c := false) (lo' := loLw H (some (.pv (dA nmA))) (some (.pv (.lst (brV C)))) (some (.pv (madeV none))) (some (.pv (madeV none))) ma wa pl fi bo se) (by kernel_rfl) (by kernel_rfl) (W.nil (by kernel_rfl) (K.next (W.nil (by kernel_rfl) ?_)))
    exact ⟨_, _, _, _, _, rfl, rfl⟩
  | some c =>
    have hc := asm_len ha
    refine W.iff (c := true) (lo' := loLw H (some (.pv (dA nmA))) (some (.pv (.lst (brV C)))) (some (.pv (codesV c))) (some (.pv (codesV (c.map (Row.map (mv H.s)))))) ma wa pl fi bo se) (by kernel_rfl) (by kernel_rfl) ?_
    refine W.asgE (x := "many") (by kernel_rfl) (by kernel_rfl) (lp_many hC (k + 128)) ?_
    refine W.pur (lo' := loLw H (some (.pv (dA nmA))) (some (.pv (.lst (brV C)))) (some (.pv (codesV c))) (some (.pv (codesV (c.map (Row.map (mv H.s)))))) (some (.pv (nat (rowsOf C).length))) (some (.own (.dcti [] []))) pl fi bo se) (by kernel_rfl) (by kernel_rfl) ?_
    refine W.for (x := "place") (by kernel_rfl) (by kernel_rfl) (W.range (by kernel_rfl) (W.ok (a := .pv (nat (rowsOf C).length)) (lo := loLw H (some (.pv (dA nmA))) (some (.pv (.lst (brV C)))) (some (.pv (codesV c))) (some (.pv (codesV (c.map (Row.map (mv H.s)))))) (some (.pv (nat (rowsOf C).length))) (some (.own (.dcti [] []))) pl fi bo se) (by kernel_rfl) ⟨_, range_eq _ (by omega), ?_⟩))
    refine W.imp (lp_way hC (k + 128) (rowsOf C).length 0 pl (by omega)) ?_ False.elim
    rintro f lo' ⟨pl', rfl, rfl⟩
    rw [Nat.zero_add (rowsOf C).length]
    refine K.next ?_
    refine W.fix (lo' := loLw H (some (.pv (dA nmA))) (some (.pv (.lst (brV C)))) (some (.pv (codesV c))) (some (.pv (codesV (c.map (Row.map (mv H.s)))))) (some (.pv (nat (rowsOf C).length))) (ownW H C) pl' fi bo se) rfl ?_
    refine W.iff (c := false) (by kernel_rfl) (or_eq (by kernel_rfl) (lp_c0 hC (k + 127) hc (by omega)) (lp_c1 hC (k + 7) h3 ha)) (W.nil (by kernel_rfl) (K.next (W.nil (by kernel_rfl) (K.next (W.nil (by kernel_rfl) ?_)))))
    exact ⟨_, _, _, _, _, rfl, rfl⟩
end
end Mine
set_option maxHeartbeats 400000
set_option linter.unusedSimpArgs false
namespace Mine
open PySem

theorem list_eq {l : List PV} (h : l.length < 2 ^ 20) : bcall "list" (.lst l) = some (.own (.lst l)) := by
  unfold bcall
  rw [if_neg (by decide +kernel), if_pos rfl]
  show (if l.length < 2 ^ 20 then some (LV.own (MO.lst l)) else none) = _
  rw [if_pos h]
theorem cat_eq {a b : List PV} (h : a.length + b.length < 2 ^ 20) : binop .Add (.lst a) (.lst b) = some (.own (.lst (a ++ b))) := by
  show (if a.length + b.length < 2 ^ 20 then some (LV.own (MO.lst (a ++ b))) else none) = _
  rw [if_pos h]
noncomputable def loP (S fg on ot lw hg ke nm nb : Option LV) : Lo := [("script", S), ("figures", fg), ("one", on), ("other", ot), ("low", lw), ("high", hg), ("kept", ke), ("names", nm), ("number", nb), U "rows", U "code", U "shifted", U "many", U "way", U "place", U "first", U "both", U "second"]
theorem lw_names (k : Nat) {H : LwH} : (T (k + 40)).ss sLw ((bLw.drop 6).take 2) (loP (some (.pv H.S)) (some (.own (.lst H.l))) (some (.pv (.lst (brV H.A)))) (some (.pv (.lst (brV H.B)))) (some (.pv (nat H.low))) (some (.pv (nat (H.low + H.s)))) (some (.own (keptV H.A H.B))) none none) =
    .ok .next (loLw H (some (.own (.dcti (ksA nmA) (vsA nmA)))) none none none none none none none none none) := by kernel_rfl
section
variable {H : LwH} (hA : BlockOK 0 H.A) (hB : BlockOK 1 H.B) (h3 : 3 ≤ H.low)
include hA hB
/-- the blocks are as they were -/
theorem lw_kept (k : Nat) {e : Expr} {nm ro co sh ma wa pl fi bo se : Option LV} (he : isCmp .Eq e = true) (h1 : notName (cmpL e) = true) (h2 : te (k + 28) sLw (cmpL e) (loLw H nm ro co sh ma wa pl fi bo se) = .ok (.own (keptV H.A H.B)) (loLw H nm ro co sh ma wa pl fi bo se)) (h4 : (T (k + 28)).rdE sLw (cmpR e) (loLw H nm ro co sh ma wa pl fi bo se) = .ok (.var "kept") (loLw H nm ro co sh ma wa pl fi bo se)) :
    te (k + 29) sLw e (loLw H nm ro co sh ma wa pl fi bo se) = .ok (.pv (.bool true)) (loLw H nm ro co sh ma wa pl fi bo se) :=
  cmpe_eq (op := .Eq) (x := .pv (keptV H.A H.B).pv) (y := .var "kept") (p := .lst [.lst (brV H.A), .lst (brV H.B)]) (q := .lst [.lst (brV H.A), .lst (brV H.B)]) he (rd_eq h1 h2) h4 rfl (by kernel_rfl) (kept_refl H.A H.B)
noncomputable abbrev eN : Expr := valOf (nth (thenOf (nth bLw 13)) 0)
noncomputable abbrev eY : Expr := valOf (nth bLw 14)
theorem lw_none (k : Nat) {nm ro co sh ma wa pl fi : Option LV} :
    te (k + 30) sLw eN (loLw H nm ro co sh ma wa pl fi (some (.pv .none)) (some (.pv .none))) = .ok (.pv (.bool true)) (loLw H nm ro co sh ma wa pl fi (some (.pv .none)) (some (.pv .none))) :=
  and_val (by kernel_rfl) (by kernel_rfl) (lw_kept hA hB k (by kernel_rfl) (by kernel_rfl) (by kernel_rfl) (by kernel_rfl))
theorem lw_some (k : Nat) {c1 c2 : List (Row Nat)} (h1 : c1.length < 2 ^ 10) (h2 : c2.length < 2 ^ 10) {nm ro co sh ma wa pl : Option LV} :
    te (k + 30) sLw eY (loLw H nm ro co sh ma wa pl (some (.pv (codesV c1))) (some (.pv (codesV (c1 ++ c2)))) (some (.pv (codesV c2)))) = .ok (.pv (.bool true)) (loLw H nm ro co sh ma wa pl (some (.pv (codesV c1))) (some (.pv (codesV (c1 ++ c2)))) (some (.pv (codesV c2)))) := by
  refine and_val (by kernel_rfl) ?_ (lw_kept hA hB k (by kernel_rfl) (by kernel_rfl) (by kernel_rfl) (by kernel_rfl))
  have e : codesV (c1 ++ c2) = .lst (c1.map Row.cod ++ c2.map Row.cod) := by unfold codesV; rw [List.map_append]
  refine cmpe_eq (op := .Eq) (x := .pv (codesV (c1 ++ c2))) (y := .pv (.lst (c1.map Row.cod ++ c2.map Row.cod))) (by kernel_rfl) (by kernel_rfl) (rd_eq (v := .own (.lst (c1.map Row.cod ++ c2.map Row.cod))) (by kernel_rfl) (binop_eq (op := .Add) (p := codesV c1) (q := codesV c2) (by kernel_rfl) (by kernel_rfl) (by kernel_rfl) (cat_eq (by simp only [List.length_map]; omega)))) rfl rfl ?_
  rw [← e]
  exact codes_refl _
include h3
/-- from the loop's end on -/
theorem lw_end (k : Nat) {nm ro co sh ma wa pl fi bo se : Option LV} : W ((T (k + 160)).ss sLw (bLw.drop 9) (loLw H nm ro co sh ma wa pl fi bo se)) (fun f _ => f = .ret (.pv (.bool true))) False := by
  have lA := hA.len
  have lB := hB.len
  refine W.asgE (x := "first") (by kernel_rfl) (by kernel_rfl) (user_ok2 (g := "_law_made") (ps := [.lst (brV H.A), nat H.low]) (lo' := loLw H nm ro co sh ma wa pl fi bo se) (by kernel_rfl) (by kernel_rfl) (made_ok (k + 28) (b := H.low) (fit_of hA))) ?_
  refine W.fix (lo' := loLw H nm ro co sh ma wa pl (some (.pv (madeV (asm H.A H.low)))) bo se) (by kernel_rfl) ?_
  refine W.asgE (x := "both") (by kernel_rfl) (by kernel_rfl) (user_ok2 (g := "_law_made") (ps := [.lst (brV (H.A ++ H.B)), nat H.low]) (lo' := loLw H nm ro co sh ma wa pl (some (.pv (madeV (asm H.A H.low)))) bo se) (by kernel_rfl) ?_ (made_ok (k + 28) (b := H.low) (fit_app hA hB))) ?_
  · have e : brV (H.A ++ H.B) = brV H.A ++ brV H.B := by unfold brV; rw [List.map_append]
    rw [e]
    exact evs2 (p := .own (.lst (brV H.A ++ brV H.B))) (q := .pv (nat H.low)) (by kernel_rfl) (by kernel_rfl) (by kernel_rfl) (binop_eq (op := .Add) (p := .lst (brV H.A)) (q := .lst (brV H.B)) (by kernel_rfl) (by kernel_rfl) (by kernel_rfl) (cat_eq (by simp only [List.length_map]; omega))) (by kernel_rfl)
  rw [asm_app (by decide) hA hB]
  cases h1 : asm H.A H.low with
  | none =>
    refine W.fix (lo' := loLw H nm ro co sh ma wa pl (some (.pv .none)) (some (.pv .none)) se) (by kernel_rfl) ?_
    refine W.pur (lo' := loLw H nm ro co sh ma wa pl (some (.pv .none)) (some (.pv .none)) (some (.pv .none))) (by kernel_rfl) (by kernel_rfl) ?_
    refine W.iff (c := false) (lo' := loLw H nm ro co sh ma wa pl (some (.pv .none)) (some (.pv .none)) (some (.pv .none))) (by kernel_rfl) (by kernel_rfl) (W.nil (by kernel_rfl) (K.next ?_))
    refine W.iff (c := true) (lo' := loLw H nm ro co sh ma wa pl (some (.pv .none)) (some (.pv .none)) (some (.pv .none))) (by kernel_rfl) (by kernel_rfl) ?_
    exact W.rtnE (by kernel_rfl) (lw_none hA hB (k + 128)) rfl
  | some c1 =>
    have hc1 := asm_len h1
    have hr1 : (rowsOf H.A).length ≤ H.A.length := List.length_filterMap_le _ _
    rw [Option.bind_some]
    refine W.fix (lo' := loLw H nm ro co sh ma wa pl (some (.pv (codesV c1))) (some (.pv (madeV ((asm H.B (H.low + c1.length)).map fun c2 => c1 ++ c2)))) se) (by kernel_rfl) ?_
    refine W.pur (lo' := loLw H nm ro co sh ma wa pl (some (.pv (codesV c1))) (some (.pv (madeV ((asm H.B (H.low + c1.length)).map fun c2 => c1 ++ c2)))) (some (.pv .none))) (by kernel_rfl) (by kernel_rfl) ?_
    refine W.iff (c := true) (lo' := loLw H nm ro co sh ma wa pl (some (.pv (codesV c1))) (some (.pv (madeV ((asm H.B (H.low + c1.length)).map fun c2 => c1 ++ c2)))) (some (.pv .none))) (by kernel_rfl) (by kernel_rfl) ?_
    refine W.asgE (x := "second") (by kernel_rfl) (by kernel_rfl) (user_ok2 (g := "_law_made") (ps := [.lst (brV H.B), nat (H.low + c1.length)]) (lo' := loLw H nm ro co sh ma wa pl (some (.pv (codesV c1))) (some (.pv (madeV ((asm H.B (H.low + c1.length)).map fun c2 => c1 ++ c2)))) (some (.pv .none))) (by kernel_rfl) ?_ (made_ok (k + 27) (b := H.low + c1.length) (fit_of hB))) (W.nil (by kernel_rfl) (K.next ?_))
    · refine evs2 (p := .pv (.lst (brV H.B))) (q := .pv (nat (H.low + c1.length))) (by kernel_rfl) (by kernel_rfl) (by kernel_rfl) (by kernel_rfl) (binop_eq (op := .Add) (p := nat H.low) (q := nat c1.length) (by kernel_rfl) (by kernel_rfl) (pv_eq (v := .pv (nat c1.length)) (b1_eq (g := "len") (x := .pv (codesV c1)) (p := codesV c1) (by kernel_rfl) (by kernel_rfl) rfl ?_)) (by kernel_rfl))
      unfold codesV
      rw [len_eq (by simp only [List.length_map]; omega), List.length_map]; rfl
    cases h2 : asm H.B (H.low + c1.length) with
    | none =>
      refine W.fix (lo' := loLw H nm ro co sh ma wa pl (some (.pv (codesV c1))) (some (.pv .none)) (some (.pv .none))) (by kernel_rfl) ?_
      refine W.iff (c := true) (lo' := loLw H nm ro co sh ma wa pl (some (.pv (codesV c1))) (some (.pv .none)) (some (.pv .none))) (by kernel_rfl) (by kernel_rfl) ?_
      exact W.rtnE (by kernel_rfl) (lw_none hA hB (k + 128)) rfl
    | some c2 =>
      have hc2 := asm_len h2
      have hr2 : (rowsOf H.B).length ≤ H.B.length := List.length_filterMap_le _ _
      refine W.fix (lo' := loLw H nm ro co sh ma wa pl (some (.pv (codesV c1))) (some (.pv (codesV (c1 ++ c2)))) (some (.pv (codesV c2)))) (by kernel_rfl) ?_
      refine W.iff (c := false) (lo' := loLw H nm ro co sh ma wa pl (some (.pv (codesV c1))) (some (.pv (codesV (c1 ++ c2)))) (some (.pv (codesV c2)))) (by kernel_rfl) (by kernel_rfl) (W.nil (by kernel_rfl) (K.next ?_))
      exact W.rtnE (by kernel_rfl) (lw_some hA hB (k + 129) (by omega) (by omega)) rfl
/-- from the loop over both blocks on -/
theorem lw_loop (k : Nat) : W ((T (k + 170)).ss sLw (bLw.drop 8) (loLw H (some (.own (.dcti (ksA nmA) (vsA nmA)))) none none none none none none none none none)) (fun f _ => f = .ret (.pv (.bool true))) False := by
  refine W.forE (x := "rows") (items := [.lst (brV H.A), .lst (brV H.B)]) (lo' := loLw H (some (.own (.dcti (ksA nmA) (vsA nmA)))) none none none none none none none none none) (by kernel_rfl) (by kernel_rfl) (by kernel_rfl) ?_
  refine W.for_cons (by kernel_rfl) ?_
  refine W.fix (lo' := loLw H (some (.own (.dcti (ksA nmA) (vsA nmA)))) (some (.pv (.lst (brV H.A)))) none none none none none none none none) (by kernel_rfl) ?_
  refine W.imp (lp_turn hA (k + 9) h3 (.inl rfl)) ?_ False.elim
  rintro f lo' ⟨co, sh, ma, wa, pl, rfl, rfl⟩
  refine W.for_cons (by kernel_rfl) ?_
  refine W.fix (lo' := loLw H (some (.pv (dA nmA))) (some (.pv (.lst (brV H.B)))) co sh ma wa pl none none none) (by kernel_rfl) ?_
  refine W.imp (lp_turn hB (k + 9) h3 (.inr rfl)) ?_ False.elim
  rintro f lo' ⟨co, sh, ma, wa, pl, rfl, rfl⟩
  refine W.for_nil (K.next ?_)
  exact lw_end hA hB h3 (k + 10)
end
theorem law_run (k : Nat) (ns : List Int) (h : ns.length ≤ 63) : W ((T (k + 200)).ss sLw (bLw.drop 0) (loP (some (.pv (.lst (ns.map .int)))) none none none none none none none none)) (fun f _ => f = .ret (.pv (.bool true))) False := by
  obtain ⟨v, ⟨l0, rfl, hF0⟩, hf⟩ := figs_run (k + 148) ns h
  refine W.asgE (x := "figures") (by kernel_rfl) (by kernel_rfl) (user_ok2 (g := "_law_figures") (ps := [.lst (ns.map .int)]) (lo' := loP (some (.pv (.lst (ns.map .int)))) none none none none none none none none) (by kernel_rfl) (by kernel_rfl) hf) ?_
  generalize PV.lst (ns.map .int) = S
  refine W.fix (lo' := loP (some (.pv S)) (some (.own (.lst l0))) none none none none none none none) (by kernel_rfl) ?_
  obtain ⟨v, m', ⟨A, l1, rfl, hA, rfl, hF1⟩, hb⟩ := block_run (k + 108) (odd := 0) hF0 (by decide)
  refine W.asg (x := "one") (by kernel_rfl) (by kernel_rfl) (W.lend (g := "_law_block") (by kernel_rfl) (by kernel_rfl) (by kernel_rfl) hb ?_)
  refine W.fix (lo' := loP (some (.pv S)) (some (.own (.lst l1))) (some (.pv (.lst (brV A)))) none none none none none none) (by kernel_rfl) ?_
  obtain ⟨v, m', ⟨B, l2, rfl, hB, rfl, hF2⟩, hb⟩ := block_run (k + 108) (odd := 1) hF1 (by decide)
  refine W.asg (x := "other") (by kernel_rfl) (by kernel_rfl) (W.lend (g := "_law_block") (by kernel_rfl) (by kernel_rfl) (by kernel_rfl) hb ?_)
  refine W.fix (lo' := loP (some (.pv S)) (some (.own (.lst l2))) (some (.pv (.lst (brV A)))) (some (.pv (.lst (brV B)))) none none none none none) (by kernel_rfl) ?_
  refine W.asg (x := "low") (by kernel_rfl) (by kernel_rfl) (W.bin (op := .Add) (by kernel_rfl) (W.ok (a := .pv (.int 3)) (lo := loP (some (.pv S)) (some (.own (.lst l2))) (some (.pv (.lst (brV A)))) (some (.pv (.lst (brV B)))) none none none none none) (by kernel_rfl) ?_))
  refine W.draw (l := l2) (m := 30) (by kernel_rfl) (by kernel_rfl) hF2 (by kernel_rfl) (by decide) (fun d l3 hd hF3 => ⟨.pv (nat (3 + d)), by kernel_rfl, ?_⟩)
  refine W.fix (lo' := loP (some (.pv S)) (some (.own (.lst l3))) (some (.pv (.lst (brV A)))) (some (.pv (.lst (brV B)))) (some (.pv (nat (3 + d)))) none none none none) (by kernel_rfl) ?_
  refine W.asg (x := "high") (by kernel_rfl) (by kernel_rfl) (W.bin (op := .Add) (by kernel_rfl) (W.ok (a := .pv (nat (3 + d + 1))) (lo := loP (some (.pv S)) (some (.own (.lst l3))) (some (.pv (.lst (brV A)))) (some (.pv (.lst (brV B)))) (some (.pv (nat (3 + d)))) none none none none) (by kernel_rfl) ?_))
  refine W.draw (l := l3) (m := 900) (by kernel_rfl) (by kernel_rfl) hF3 (by kernel_rfl) (by decide) (fun d2 l4 hd2 hF4 => ⟨.pv (nat (3 + d + 1 + d2)), by kernel_rfl, ?_⟩)
  rw [show 3 + d + 1 + d2 = (3 + d) + (1 + d2) by omega]
  refine W.fix (lo' := loP (some (.pv S)) (some (.own (.lst l4))) (some (.pv (.lst (brV A)))) (some (.pv (.lst (brV B)))) (some (.pv (nat (3 + d)))) (some (.pv (nat ((3 + d) + (1 + d2))))) none none none) (by kernel_rfl) ?_
  have lA := hA.len
  have lB := hB.len
  refine W.asg (x := "kept") (by kernel_rfl) (by kernel_rfl) (W.list (by kernel_rfl) (W.evs (by kernel_rfl) (W.ok (b1_eq (g := "list") (x := .pv (.lst (brV A))) (p := .lst (brV A)) (by kernel_rfl) (by kernel_rfl) rfl (list_eq (by simp only [List.length_map]; omega))) (W.evs (by kernel_rfl) (W.ok (b1_eq (g := "list") (x := .pv (.lst (brV B))) (p := .lst (brV B)) (by kernel_rfl) (by kernel_rfl) rfl (list_eq (by simp only [List.length_map]; omega))) (W.evs_nil (by kernel_rfl) ?_))))))
  let H : LwH := ⟨S, l4, A, B, 3 + d, 1 + d2⟩
  refine W.fix (lo' := loP (some (.pv H.S)) (some (.own (.lst H.l))) (some (.pv (.lst (brV H.A)))) (some (.pv (.lst (brV H.B)))) (some (.pv (nat H.low))) (some (.pv (nat (H.low + H.s)))) (some (.own (keptV H.A H.B))) none none) (by kernel_rfl) ?_
  have key := ss_take (k := k + 200) (sc := sLw) (bLw.drop 6) 2 (lw_names (k + 160) (H := H))
  refine W.to key ?_
  rw [List.drop_drop]
  exact lw_loop (H := H) hA hB (by show 3 ≤ 3 + d; omega) (k + 30)
end Mine
open PySem PyProof.Rows PySem.W
theorem Mine.law_true (ns : List Int) (h : ns.length ≤ 63) : ∃ lo', (Mine.evN Mine.bodyL 300).ss Mine.lawD.scope Mine.lawD.body (Mine.lawLo ns) = .ok (.ret (.pv (.bool true))) lo' := by
  have key := Mine.law_run 100 ns h
  have e : Mine.lawLo ns = Mine.loP (some (.pv (.lst (ns.map .int)))) none none none none none none none none := by kernel_rfl
  rw [e]
  have key : Mine.W ((Mine.T 300).ss Mine.lawD.scope Mine.lawD.body (Mine.loP (some (.pv (.lst (ns.map .int)))) none none none none none none none none)) (fun f _ => f = .ret (.pv (.bool true))) False := key
  cases q : (Mine.T 300).ss Mine.lawD.scope Mine.lawD.body (Mine.loP (some (.pv (.lst (ns.map .int)))) none none none none none none none none) with
  | ok f lo =>
    rw [q] at key
    obtain rfl : f = .ret (.pv (.bool true)) := key.1
    exact ⟨lo, rfl⟩
  | exc => rw [q] at key; exact key.1.elim
  | fail => rw [q] at key; exact key.1.elim
set_option maxHeartbeats 8000000 in
theorem PySem.Challenge.cw_rh0070_01_holds : PySem.Challenge.rw_rh0070_01.Holds := by
  w_on
  refine holds_law (by kernel_rfl) fun said => ?_
  refine holds_open (q := Mine.viewL) (loose := Mine.looseL) (XP := XL Mine.viewL []) (YP := fun _ => Mine.saysL) Mine.leftL (fun _ _ e => Mine.says_of e) (fun _ _ _ x k => Mine.says_keeps x k) (fun s e => xl_of s (Bool.and_eq_true_iff.mp e).1) XL.keeps (by rfl) (by rfl) (by rfl) (fun s e => recFacts_of (Bool.and_eq_true_iff.mp e).2) (by rfl) (by first | assumption | decide +kernel) (by decide +kernel) ⟨rfl, rfl, rfl, rfl, rfl, by decide +kernel⟩ ?hw ?hc
  case hw => w_witness2
  case hc =>
    intro w s₀ s₁ mg mb G Y fa o pm cd doc dV kV ho hd hcd hD hmg hg args vals as hpre hlay hrd hwl hlo
    have X := (Ground.X G).1
    have V := (Ground.X G).2
    refine Ground.open G ?_
    intro T B D TE TW
    try (refine guard_noD D (by decide +kernel) ?_; clear D)
    obtain ⟨_, _, M⟩ := bmod_of_top T
    have TA := at_of_top T
    try (obtain ⟨_, _, he, B0⟩ := based_of_top T rfl hmg ho hd; have he' : cd = _ := he; subst he'; clear he)
    clear hmg
    wrow_args hpre hlay hrd hwl hlo
    first | refine callC_kw (enter_call ?_) | refine enter_call ?_ | refine callC_kw (enter_callW ?_) | refine enter_callW ?_
    w_top on
    try refine codeAny_mono ?_ (fun _ _ g => GoodW.toG g)
    have K0 := below_caller (Top.heap T)
    w_call any ho hd hcd hD T F
    clear hd TA
    k_drop
    rename Top _ _ _ _ _ _ => T
    rename Well _ _ _ _ => W
    rename Fr _ _ _ _ => F
    rename ¬ _ < _ => hn
    obtain ⟨lo', hrun⟩ := Mine.law_true _ (Int.not_lt.mp hn |> Int.ofNat_le.mp)
    refine Mine.law_entry (name := _) T Y W F ?_ ?_ ?_ hrun ?_
    · rfl
    · exact hg
    · rfl
    · intro s' m' F g o
      refine goodW_bool F g (fun _ => rfl) ?_ o
      first | wrow_post | exact postW_of (by wrow_shape) (w_eq_bool (w_res rfl) w_lit) (by w_fin) | with_unfolding_all rfl
