import PyProof.Rows.All
import Wide.All
import OpenK.AllK
import Wide.FinOn
import Lean
import PySem.Challenge.RW_pq1328_01
set_option Elab.async false
set_option maxRecDepth 100000
set_option linter.unusedVariables false
set_option linter.unusedSimpArgs false

namespace Mini
open PySem

inductive AV where
  | none
  | bool (b : Bool)
  | int (i : Int)
  | str (s : Str)
  | list (xs : List AV)
  | tup (xs : List AV)
  | rng (a b c : Int)
  | vec (k : Str) (its ats : AV)
  | dict (ks : List Str) (vs : List AV)
  | null
  | miss

inductive LV where
  | tree (t : AV)
  | mlist (xs : List AV)
  | mvec (k : Str) (its ats : AV)
  | mdict (ks : List Str) (vs : List AV)

noncomputable def LV.frz : LV → AV
  | .tree t => t
  | .mlist xs => .list xs
  | .mvec k i a => .vec k i a
  | .mdict ks vs => .dict ks vs

noncomputable def o1 {α β : Type} (x : Option α) (f : α → Option β) : Option β := match x with
  | some v => f v
  | Option.none => Option.none
noncomputable def o2 {α β γ : Type} (x : Option (α × β)) (f : α → β → Option γ) : Option γ := match x with
  | some p => f p.1 p.2
  | Option.none => Option.none

theorem o1_some {α β : Type} {x : Option α} {f : α → Option β} {z : β} (h : o1 x f = some z) : ∃ v, x = some v ∧ f v = some z := by
  cases x with
  | none => cases h
  | some v => exact ⟨v, rfl, h⟩
theorem o2_some {α β γ : Type} {x : Option (α × β)} {f : α → β → Option γ} {z : γ} (h : o2 x f = some z) : ∃ a b, x = some (a, b) ∧ f a b = some z := by
  cases x with
  | none => cases h
  | some v => exact ⟨v.1, v.2, rfl, h⟩
theorem if_some {α : Type} {p : Prop} [Decidable p] {x : Option α} {y : α} (h : (if p then x else none) = some y) : p ∧ x = some y := by
  by_cases q : p
  · rw [if_pos q] at h; exact ⟨q, h⟩
  · rw [if_neg q] at h; cases h

theorem if_some3 {α : Type} {p : Prop} [Decidable p] {x z : Option α} {y : α} (h : (if p then x else z) = some y) : (p ∧ x = some y) ∨ (¬p ∧ z = some y) := by
  by_cases q : p
  · rw [if_pos q] at h; exact .inl ⟨q, h⟩
  · rw [if_neg q] at h; exact .inr ⟨q, h⟩

mutual
noncomputable def AV.same : AV → AV → Bool
  | .none, .none => true
  | .int a, .int b => a == b
  | .str a, .str b => a == b
  | .list xs, .list ys => AV.sameL xs ys
  | _, _ => false
noncomputable def AV.sameL : List AV → List AV → Bool
  | [], [] => true
  | x :: xs, y :: ys => AV.same x y && AV.sameL xs ys
  | _, _ => false
end

mutual
noncomputable def AV.eqable : Nat → AV → Bool
  | _, .none => true
  | _, .int _ => true
  | _, .str s => PyData.strOk s
  | n + 1, .list xs => AV.eqableL n xs
  | _, _ => false
noncomputable def AV.eqableL : Nat → List AV → Bool
  | _, [] => true
  | n, x :: xs => AV.eqable n x && AV.eqableL n xs
end

abbrev St := List (Str × LV)
abbrev Names := List (Str × NameKind)

noncomputable def put : St → Str → LV → St
  | [], x, v => [(x, v)]
  | (y, u) :: r, x, v => if y = x then (x, v) :: r else (y, u) :: put r x v

noncomputable def notDebug (x : Str) : Bool := !(x == ("__debug__" : Str))
noncomputable def isVar (ns : Names) (x : Str) : Bool := match ns.lookup x with
  | some .local => notDebug x
  | some .cell => notDebug x
  | _ => false
noncomputable def isGlob (ns : Names) (x : Str) : Bool := match ns.lookup x with
  | some .globalImplicit => notDebug x
  | _ => false

noncomputable def getV (ns : Names) (σ : St) (x : Str) : Option LV := if isVar ns x then σ.lookup x else Option.none

inductive Flw where
  | next
  | brk
  | ret (v : LV)
  | retv (x : Str) (v : LV)

structure FDef where
  params : List Str
  body : List Stmt
  scope : Scope

structure Interp where
  E : Names → Expr → St → Option (LV × St)
  T : Names → Expr → St → Option (Bool × St)
  B : Names → Str → List Stmt → St → Option (Flw × St)
  C : Str → List LV → Option (Flw × LV)

noncomputable def lim : Nat := 65536

noncomputable def plainE : Expr → Bool
  | .Set _ _ _ => false
  | .Starred _ _ => false
  | .Slice _ _ _ _ => false
  | .SetComp _ _ _ _ => false
  | .DictComp _ _ _ _ _ => false
  | _ => true
noncomputable def isNil {α : Type} : List α → Bool
  | [] => true
  | _ => false
noncomputable def isName : Expr → Bool
  | .Name _ _ => true
  | _ => false
noncomputable def notSuper : Expr → Bool
  | .Call f args kw _ => !(isName f && isNil args && isNil kw)
  | _ => true
noncomputable def isIdx : Expr → Bool
  | .Name _ _ => true
  | .Constant _ _ _ => true
  | .Subscript _ _ _ => true
  | _ => false

noncomputable def nameOf : Expr → Option Str
  | .Name x _ => some x
  | _ => Option.none
noncomputable def evE (I : Interp) (ns : Names) (e : Expr) (σ : St) : Option (AV × St) := if plainE e then (o2 (I.E ns e σ) fun v σ' => some (v.frz, σ')) else Option.none

noncomputable def evArgs (I : Interp) (ns : Names) : List Expr → St → Option (List AV × St)
  | [], σ => some ([], σ)
  | e :: es, σ => o2 (evE I ns e σ) fun v σ' => (o2 (evArgs I ns es σ') fun vs σ'' => some (v :: vs, σ''))

noncomputable def eqAV (a b : AV) : Option Bool := if AV.eqable 6 a && AV.eqable 6 b then some (AV.same a b) else Option.none

noncomputable def asInt : AV → Option Int
  | .int i => some i
  | _ => Option.none
noncomputable def asList : AV → Option (List AV)
  | .list xs => some xs
  | _ => Option.none
noncomputable def asStr : AV → Option Str
  | .str s => some s
  | _ => Option.none
noncomputable def asDict : AV → Option (List Str × List AV)
  | .dict ks vs => some (ks, vs)
  | _ => Option.none
noncomputable def int2 {α : Type} (f : Int → Int → Option α) (a b : AV) : Option α := o1 (asInt a) fun x => (o1 (asInt b) fun y => f x y)
noncomputable def addAV (a b : AV) : Option LV := match a with
  | .int x => (o1 (asInt b) fun y => some (.tree (.int (x + y))))
  | .str x => (o1 (asStr b) fun y => if x.length + y.length ≤ 1000 then some (.tree (.str (x ++ y))) else Option.none)
  | .list xs => (o1 (asList b) fun ys => if xs.length + ys.length ≤ lim then some (.mlist (xs ++ ys)) else Option.none)
  | _ => Option.none
noncomputable def opBin (op : Operator) (a b : AV) : Option LV := match op with
  | .Add => addAV a b
  | .Sub => int2 (fun x y => some (.tree (.int (x - y)))) a b
  | .Mult => int2 (fun x y => if x.natAbs < 2 ^ 60 ∧ y.natAbs < 2 ^ 60 then some (.tree (.int (x * y))) else Option.none) a b
  | .Mod => int2 (fun x y => if 0 < y then some (.tree (.int (x % y))) else Option.none) a b
  | .FloorDiv => int2 (fun x y => if 0 < y ∧ y < 2 ^ 20 then some (.tree (.int (x / y))) else Option.none) a b
  | _ => Option.none

noncomputable def isNone : AV → Bool
  | .none => true
  | _ => false

noncomputable def isC (f : Bool → Bool) (a b : AV) : Option Bool := match isNone b with
  | true => some (f (isNone a))
  | false => Option.none
noncomputable def inC (f : Bool → Bool) (a b : AV) : Option Bool := o1 (asStr a) fun k => (o1 (asDict b) fun p => some (f (p.1.contains k)))
noncomputable def opCmp (op : CmpOp) (a b : AV) : Option Bool := match op with
  | .Is => isC (fun x => x) a b
  | .IsNot => isC (fun x => !x) a b
  | .Eq => eqAV a b
  | .NotEq => (eqAV a b).map (!·)
  | .Lt => int2 (fun x y => some (decide (x < y))) a b
  | .LtE => int2 (fun x y => some (decide (x ≤ y))) a b
  | .Gt => int2 (fun x y => some (decide (y < x))) a b
  | .GtE => int2 (fun x y => some (decide (y ≤ x))) a b
  | .In => inC (fun x => x) a b
  | .NotIn => inC (fun x => !x) a b

noncomputable def dictGet (k : Str) : List Str → List AV → Option AV
  | x :: xs, v :: vs => if x = k then some v else dictGet k xs vs
  | _, _ => Option.none
noncomputable def dictPut (k : Str) (v : AV) : List Str → List AV → List Str × List AV
  | x :: xs, u :: us => if x = k then (x :: xs, v :: us) else let r := dictPut k v xs us; (x :: r.1, u :: r.2)
  | _, _ => ([k], [v])

noncomputable def idx (i : Int) : Bool := decide (0 ≤ i) && decide (i.toNat.log2 < 40)
noncomputable def subL (xs : List AV) (i : Int) : Option AV := if idx i = true then xs[i.toNat]? else Option.none
noncomputable def subStr (s : Str) (i : Int) : Option AV := if idx i = true then (o1 (s.cps[i.toNat]?) fun c => some (.str ⟨#[c]⟩)) else Option.none
noncomputable def subAV (a b : AV) : Option AV := match a with
  | .list xs => (o1 (asInt b) fun i => subL xs i)
  | .tup xs => (o1 (asInt b) fun i => subL xs i)
  | .str s => (o1 (asInt b) fun i => subStr s i)
  | .dict ks vs => (o1 (asStr b) fun k => dictGet k ks vs)
  | _ => Option.none

noncomputable def attrAV (a : Str) : AV → Option AV
  | .vec k i t => if a = "kind" then some (.str k) else if a = "items" then some i else if a = "attrs" then some t else Option.none
  | .null => if a = "kind" then some (.str "NULL") else if a = "attrs" then some .none else Option.none
  | .miss => if a = "kind" then some (.str "missing") else if a = "attrs" then some .none else Option.none
  | _ => Option.none

noncomputable def truth : AV → Option Bool
  | .bool b => some b
  | _ => Option.none

noncomputable def lenAV : AV → Option Nat
  | .list xs => some xs.length
  | .dict ks _ => some ks.length
  | _ => Option.none

noncomputable def rngList (a b c : Int) : Option (List AV) :=
  if a.natAbs ≤ lim ∧ b.natAbs ≤ lim then
    if c = 1 then some ((List.range (b - a).toNat).map fun (i : Nat) => AV.int (a + i))
    else if c = -1 then some ((List.range (a - b).toNat).map fun (i : Nat) => AV.int (a - i))
    else Option.none
  else Option.none

noncomputable def iterOf : AV → Option (List AV)
  | .list xs => some xs
  | .rng a b c => rngList a b c
  | _ => Option.none

noncomputable def digit (i : Int) : Str := ⟨#[48 + i.toNat]⟩

noncomputable def one {α : Type} (f : AV → Option α) (vs : List AV) : Option α := match vs with
  | [v] => f v
  | _ => Option.none
noncomputable def lenOf (v : AV) : Option LV := o1 (lenAV v) fun n => if n ≤ lim then some (.tree (.int n)) else Option.none
noncomputable def bLen (vs : List AV) : Option LV := one lenOf vs
noncomputable def rng3 (c : AV) (a b : Int) : Option LV := o1 (asInt c) fun z => if z = -1 then some (.tree (.rng a b z)) else Option.none
noncomputable def rng1 (a : AV) : Option LV := o1 (asInt a) fun b => some (.tree (.rng 0 b 1))
noncomputable def bRange (vs : List AV) : Option LV := match vs with
  | [a] => rng1 a
  | [a, b] => int2 (fun x y => some (.tree (.rng x y 1))) a b
  | [a, b, c] => int2 (fun x y => rng3 c x y) a b
  | _ => Option.none
noncomputable def lstV (v : AV) : Option LV := match v with
  | .list xs => if xs.length ≤ lim then some (.mlist xs) else Option.none
  | .rng a b c => (o1 (rngList a b c) fun xs => some (.mlist xs))
  | .dict ks _ => if ks.length ≤ lim then some (.mlist (ks.map .str)) else Option.none
  | _ => Option.none
noncomputable def bList (vs : List AV) : Option LV := one lstV vs
noncomputable def strV (v : AV) : Option LV := o1 (asInt v) fun i => if 0 ≤ i ∧ i < 10 then some (.tree (.str (digit i))) else Option.none
noncomputable def bStr (vs : List AV) : Option LV := one strV vs
noncomputable def bVector (vs : List AV) : Option LV := match vs with
  | [k, its] => (o1 (asStr k) fun k => some (.mvec k its .none))
  | _ => Option.none
noncomputable def bNull : List AV → Option LV
  | [] => some (.tree .null)
  | _ => Option.none
noncomputable def bMissing : List AV → Option LV
  | [] => some (.tree .miss)
  | _ => Option.none

noncomputable def builtin1 (f : Str) (vs : List AV) : Option LV :=
  if f = "len" then bLen vs
  else if f = "range" then bRange vs
  else if f = "list" then bList vs
  else if f = "str" then bStr vs
  else if f = "Vector" then bVector vs
  else if f = "Null" then bNull vs
  else if f = "Missing" then bMissing vs
  else Option.none

noncomputable def isBuiltin (f : Str) : Bool := f = "len" || f = "range" || f = "list" || f = "str" || f = "Vector" || f = "Null" || f = "Missing"
noncomputable def inout (f : Str) : Bool := f = "_law_card" || f = "named" || f = "share" || f = "put_shape" || f = "put_dropped"

noncomputable def owned : LV → Bool
  | .tree _ => false
  | _ => true

noncomputable def forL (body : St → Option (Flw × St)) (x : Str) : List AV → St → Option (Flw × St)
  | [], σ => some (.next, σ)
  | v :: vs, σ => o2 (body (put σ x (.tree v))) fun f σ' => (match f with
    | .next => forL body x vs σ'
    | .brk => some (.next, σ')
    | .ret v => some (.ret v, σ')
    | .retv y v => some (.retv y v, σ'))

noncomputable def tests (I : Interp) (ns : Names) : List Expr → St → Option (Bool × St)
  | [], σ => some (true, σ)
  | e :: es, σ => o2 (I.T ns e σ) fun c σ' => (match c with
    | true => tests I ns es σ'
    | false => some (false, σ'))

noncomputable def compL (step : AV → St → Option (List AV × St)) : List AV → St → Option (List AV × St)
  | [], σ => some ([], σ)
  | v :: vs, σ => o2 (step v σ) fun us σ' => (o2 (compL step vs σ') fun ws σ'' => some (us ++ ws, σ''))

noncomputable def compRow (I : Interp) (ns : Names) (elt : Expr) (x : Str) (ifs : List Expr) (v : AV) (σ : St) : Option (List AV × St) := o2 (tests I ns ifs (put σ x (.tree v))) fun c σ' => (match c with
  | true => (o2 (evE I ns elt σ') fun t σ'' => some ([t], σ''))
  | false => some ([], σ'))

noncomputable def compNest (I : Interp) (ns : Names) (elt : Expr) (x y : Str) (it : Expr) (ifs : List Expr) (v : AV) (σ : St) : Option (List AV × St) := o2 (evE I ns it (put σ x (.tree v))) fun t σ' => (o1 (iterOf t) fun its => compL (compRow I ns elt y ifs) its σ')

noncomputable def isZero (n : Int) : Bool := decide (n = 0)
noncomputable def comp1 (I : Interp) (ns : Names) (elt : Expr) (g : Comprehension) (items : List AV) (σ : St) : Option (List AV × St) := o1 (nameOf g.target) fun x => (match isZero g.is_async with
    | true => compL (compRow I ns elt x g.ifs) items σ
    | false => Option.none)
noncomputable def comp2 (I : Interp) (ns : Names) (elt : Expr) (g h : Comprehension) (items : List AV) (σ : St) : Option (List AV × St) := o1 (nameOf g.target) fun x => (o1 (nameOf h.target) fun y => (match isZero g.is_async && isNil g.ifs && isZero h.is_async && plainE h.iter with
      | true => compL (compNest I ns elt x y h.iter h.ifs) items σ
      | false => Option.none))
noncomputable def compIn (I : Interp) (ns : Names) (elt : Expr) (gens : List Comprehension) (items : List AV) (σ : St) : Option (List AV × St) := match gens with
  | [g] => comp1 I ns elt g items σ
  | [g, h] => comp2 I ns elt g h items σ
  | _ => Option.none

noncomputable def tgtOk (sc : Scope) (x : Str) : Bool := notDebug x && (match sc.names.lookup x with
  | some .local => true
  | some .cell => true
  | _ => false)
noncomputable def tgtIn (sc : Scope) (e : Expr) : Bool := match nameOf e with
  | some x => tgtOk sc x
  | Option.none => false
noncomputable def gensOk (sc : Scope) (gs : List Comprehension) : Bool := gs.all fun g => tgtIn sc g.target

noncomputable def freeIn (sc : Scope) (ns : Names) (x : Str) : Bool := match sc.names.lookup x, ns.lookup x with
  | some .free, some .cell => true
  | _, _ => false
noncomputable def scopeOk (sc : Scope) (ns : Names) : Bool := sc.kind == .function && !sc.isGenerator && !sc.isCoroutine &&
  sc.names.all (fun x => sc.names.lookup x.1 == some x.2) && (sc.names.map (·.1)).eraseDups.length == sc.names.length &&
  sc.names.all (fun x => x.2 != .free || ns.lookup x.1 == some .cell)
noncomputable def compNames (sc : Scope) : Names := sc.names.map fun (n, k) => if k == .free then (n, .cell) else (n, k)
noncomputable def backIn (sc : Scope) (ns : Names) (σ σ' : St) : St := σ.map fun (n, v) => if freeIn sc ns n then (n, (σ'.lookup n).getD v) else (n, v)

noncomputable def backOk (sc : Scope) (ns : Names) (σ σ' : St) : Bool := σ.all fun p => !freeIn sc ns p.1 || (σ'.lookup p.1).isSome

noncomputable def isListD : Expr → Bool
  | .List es _ => isNil es
  | _ => false

noncomputable def setSelf (x : Str) (σ : St) (v : LV) : LV × St := (.tree v.frz, put σ x (.tree v.frz))

noncomputable def ownNamed (ns : Names) (σ : St) (e : Expr) : Option (Str × LV) := o1 (nameOf e) fun x => (o1 (getV ns σ x) fun v => (match owned v with
      | true => some (x, v)
      | false => Option.none))

noncomputable def isVecL : LV → Bool
  | .tree t => (match t with
    | .vec _ _ _ => true
    | _ => false)
  | .mvec _ _ _ => true
  | _ => false
noncomputable def isinst1 (ns : Names) (σ : St) (x c : Str) : Option (LV × St) := if c = "Vector" ∧ isGlob ns c then (o1 (getV ns σ x) fun v => (match isVecL v with
    | true => some (.tree (.bool true), σ)
    | false => Option.none)) else Option.none
noncomputable def isinstE (ns : Names) (σ : St) (args : List Expr) : Option (LV × St) := match args with
  | [a, b] => (o1 (nameOf a) fun x => (o1 (nameOf b) fun c => isinst1 ns σ x c))
  | _ => Option.none

noncomputable def inoutName (I : Interp) (ns : Names) (f : Str) (x : Str) (rest : List Expr) (σ : St) : Option (LV × St) := o2 (evArgs I ns rest σ) fun vs σ₁ => (o1 (getV ns σ₁ x) fun v => if owned v then (o2 (I.C f (v :: vs.map .tree)) fun fl o => (match fl with
      | .retv _ _ => some (setSelf x σ₁ o)
      | .ret r => some (r, put σ₁ x o)
      | .next => some (.tree .none, put σ₁ x o)
      | .brk => Option.none)) else Option.none)

noncomputable def inoutTemp (I : Interp) (ns : Names) (f : Str) (e : Expr) (rest : List Expr) (σ : St) : Option (LV × St) := o2 (I.E ns e σ) fun v σ₀ => if owned v ∧ plainE e then (o2 (evArgs I ns rest σ₀) fun vs σ₁ => (o2 (I.C f (v :: vs.map .tree)) fun fl o => (match fl with
      | .retv _ _ => some (o, σ₁)
      | .ret r => some (r, σ₁)
      | .next => some (.tree .none, σ₁)
      | .brk => Option.none))) else Option.none

noncomputable def inoutE (I : Interp) (ns : Names) (f : Str) (e : Expr) (rest : List Expr) (σ : St) : Option (LV × St) := match ownNamed ns σ e with
  | some p => inoutName I ns f p.1 rest σ
  | Option.none => inoutTemp I ns f e rest σ
noncomputable def builtE (I : Interp) (ns : Names) (f : Str) (args : List Expr) (σ : St) : Option (LV × St) := o2 (evArgs I ns args σ) fun vs σ₁ => (o1 (builtin1 f vs) fun r => some (r, σ₁))
noncomputable def userE (I : Interp) (ns : Names) (f : Str) (args : List Expr) (σ : St) : Option (LV × St) := o2 (evArgs I ns args σ) fun vs σ₁ => (o2 (I.C f (vs.map .tree)) fun fl _ => (match fl with
      | .ret r => some (r, σ₁)
      | .next => some (.tree .none, σ₁)
      | .retv _ _ => Option.none
      | .brk => Option.none))

noncomputable def callE (I : Interp) (ns : Names) (f : Str) (args : List Expr) (σ : St) : Option (LV × St) :=
  if f = "isinstance" then isinstE ns σ args
  else if isBuiltin f then builtE I ns f args σ
  else if inout f then (match args with
    | e :: rest => inoutE I ns f e rest σ
    | [] => Option.none)
  else userE I ns f args σ

noncomputable def ownList : LV → Option (List AV)
  | .mlist xs => some xs
  | _ => Option.none
noncomputable def appE (I : Interp) (ns : Names) (x : Str) (e : Expr) (σ : St) : Option (LV × St) := o1 (getV ns σ x) fun v => (o1 (ownList v) fun _ => (o2 (evE I ns e σ) fun t σ₁ => (o1 (getV ns σ₁ x) fun w => (o1 (ownList w) fun ys => if ys.length ≤ lim then some (.tree .none, put σ₁ x (.mlist (ys ++ [t]))) else Option.none))))
noncomputable def popE (ns : Names) (x : Str) (σ : St) : Option (LV × St) := o1 (getV ns σ x) fun v => (o1 (ownList v) fun ys => if ys.length ≤ lim then (o1 (ys.getLast?) fun t => some (.tree t, put σ x (.mlist ys.dropLast))) else Option.none)
noncomputable def revE (ns : Names) (x : Str) (σ : St) : Option (LV × St) := o1 (getV ns σ x) fun v => (o1 (ownList v) fun ys => if ys.length ≤ lim then some (.tree .none, put σ x (.mlist ys.reverse)) else Option.none)
noncomputable def methE (I : Interp) (ns : Names) (x m : Str) (args : List Expr) (σ : St) : Option (LV × St) := match args with
  | [e] => if m = "append" then appE I ns x e σ else Option.none
  | [] => if m = "pop" then popE ns x σ else if m = "reverse" then revE ns x σ else Option.none
  | _ => Option.none

noncomputable def compE (I : Interp) (ns : Names) (elt : Expr) (gens : List Comprehension) (sc : Scope) (σ : St) : Option (LV × St) := match gens with
  | g :: _ => if scopeOk sc ns ∧ gensOk sc gens = true then (o2 (evE I ns g.iter σ) fun t σ₁ => (o1 (iterOf t) fun its => (o2 (compIn I (compNames sc) elt gens its (σ₁.filter fun x => freeIn sc ns x.1)) fun vs σ₂ => if vs.length ≤ lim ∧ backOk sc ns σ₁ σ₂ = true then some (.mlist vs, backIn sc ns σ₁ σ₂) else Option.none))) else Option.none
  | [] => Option.none

noncomputable def sliceOf : Expr → Option Expr
  | .Slice lo up st _ => (match lo, up, st with
    | Option.none, some u, Option.none => some u
    | _, _, _ => Option.none)
  | _ => Option.none
noncomputable def strOf : Expr → Option Str
  | .Constant c _ _ => (match c with
    | .str k => some k
    | _ => Option.none)
  | _ => Option.none

noncomputable def constE (c : Const) (σ : St) : Option (LV × St) := match c with
  | .none => some (.tree .none, σ)
  | .bool b => some (.tree (.bool b), σ)
  | .int i => some (.tree (.int i), σ)
  | .str s => some (.tree (.str s), σ)
  | _ => Option.none
noncomputable def nameE (ns : Names) (x : Str) (σ : St) : Option (LV × St) := o1 (getV ns σ x) fun v => (match owned v with
    | true => some (setSelf x σ v)
    | false => some (v, σ))
noncomputable def binE (I : Interp) (ns : Names) (l : Expr) (op : Operator) (r : Expr) (σ : St) : Option (LV × St) := o2 (evE I ns l σ) fun a σ₁ => (o2 (evE I ns r σ₁) fun b σ₂ => (o1 (opBin op a b) fun v => some (v, σ₂)))
noncomputable def asBool : LV → Option Bool
  | .tree t => (match t with
    | .bool b => some b
    | _ => Option.none)
  | _ => Option.none
noncomputable def andE (I : Interp) (ns : Names) (a b : Expr) (σ : St) : Option (LV × St) := o2 (I.E ns a σ) fun v σ₁ => (o1 (asBool v) fun c => (match c with
    | true => I.E ns b σ₁
    | false => some (.tree (.bool false), σ₁)))
noncomputable def boolE (I : Interp) (ns : Names) (op : BoolOp) (es : List Expr) (σ : St) : Option (LV × St) := match op with
  | .And => (match es with
    | [a, b] => andE I ns a b σ
    | _ => Option.none)
  | .Or => Option.none
noncomputable def negE (I : Interp) (ns : Names) (x : Expr) (σ : St) : Option (LV × St) := o2 (evE I ns x σ) fun a σ₁ => (o1 (asInt a) fun i => some (.tree (.int (-i)), σ₁))
noncomputable def unE (I : Interp) (ns : Names) (op : UnaryOp) (x : Expr) (σ : St) : Option (LV × St) := match op with
  | .USub => negE I ns x σ
  | _ => Option.none
noncomputable def ownL (ns : Names) (σ : St) (e : Expr) : Option (Str × List AV) := o1 (nameOf e) fun x => (o1 (getV ns σ x) fun v => (o1 (ownList v) fun xs => some (x, xs)))
noncomputable def cmpG (I : Interp) (ns : Names) (l : Expr) (op : CmpOp) (r : Expr) (σ : St) : Option (LV × St) := o2 (evE I ns l σ) fun a σ₁ => (o2 (evE I ns r σ₁) fun b σ₂ => (o1 (opCmp op a b) fun v => some (.tree (.bool v), σ₂)))
noncomputable def isEq : CmpOp → Bool
  | .Eq => true
  | _ => false
noncomputable def cmp1 (I : Interp) (ns : Names) (l : Expr) (op : CmpOp) (r : Expr) (σ : St) : Option (LV × St) :=
  match isEq op && isListD r with
  | true => (match ownL ns σ l with
    | some p => if AV.eqable 6 (.list p.2) then some (.tree (.bool (AV.sameL p.2 [])), σ) else Option.none
    | Option.none => cmpG I ns l op r σ)
  | false => cmpG I ns l op r σ
noncomputable def cmpE (I : Interp) (ns : Names) (l : Expr) (ops : List CmpOp) (rs : List Expr) (σ : St) : Option (LV × St) := match ops with
  | [op] => (match rs with
    | [r] => cmp1 I ns l op r σ
    | _ => Option.none)
  | _ => Option.none
noncomputable def ifE (I : Interp) (ns : Names) (t b o : Expr) (σ : St) : Option (LV × St) := o2 (I.T ns t σ) fun c σ₁ => (match c with
    | true => I.E ns b σ₁
    | false => I.E ns o σ₁)
noncomputable def listE (I : Interp) (ns : Names) (es : List Expr) (σ : St) : Option (LV × St) := o2 (evArgs I ns es σ) fun vs σ₁ => if vs.length ≤ lim then some (.mlist vs, σ₁) else Option.none
noncomputable def tupE (I : Interp) (ns : Names) (es : List Expr) (σ : St) : Option (LV × St) := o2 (evArgs I ns es σ) fun vs σ₁ => if vs.length ≤ lim then some (.tree (.tup vs), σ₁) else Option.none
noncomputable def dict1 (I : Interp) (ns : Names) (k : Str) (e : Expr) (σ : St) : Option (LV × St) := o2 (evE I ns e σ) fun t σ₁ => some (.mdict [k] [t], σ₁)
noncomputable def dictE (I : Interp) (ns : Names) (ks : List (Option Expr)) (es : List Expr) (σ : St) : Option (LV × St) := match ks with
  | [] => (match es with
    | [] => some (.mdict [] [], σ)
    | _ => Option.none)
  | [ko] => (o1 (ko) fun k => (o1 (strOf k) fun k => (match es with
        | [e] => dict1 I ns k e σ
        | _ => Option.none)))
  | _ => Option.none
noncomputable def takeE (xs : List AV) (k : Int) (σ : St) : Option (LV × St) := if 0 ≤ k ∧ k < 2 ^ 40 ∧ xs.length ≤ lim then some (.mlist (xs.take k.toNat), σ) else Option.none
noncomputable def sliceOwn (I : Interp) (ns : Names) (x : Str) (u : Expr) (σ : St) : Option (LV × St) := o2 (evE I ns u σ) fun a σ₁ => (o1 (asInt a) fun k => (o1 (getV ns σ₁ x) fun v => (o1 (ownList v) fun xs => takeE xs k σ₁)))
noncomputable def sliceG (I : Interp) (ns : Names) (v u : Expr) (σ : St) : Option (LV × St) := o2 (evE I ns v σ) fun t σ₁ => (o1 (asList t) fun xs => (o2 (evE I ns u σ₁) fun a σ₂ => (o1 (asInt a) fun k => takeE xs k σ₂)))
noncomputable def sliceE (I : Interp) (ns : Names) (v u : Expr) (σ : St) : Option (LV × St) := match ownL ns σ v with
  | some p => sliceOwn I ns p.1 u σ
  | Option.none => sliceG I ns v u σ
noncomputable def subOwn (I : Interp) (ns : Names) (x : Str) (i : Expr) (σ : St) : Option (LV × St) := o2 (evE I ns i σ) fun a σ₁ => (o1 (asInt a) fun k => (o1 (getV ns σ₁ x) fun v => (o1 (ownList v) fun ys => (o1 (subAV (.list ys) (.int k)) fun t => some (.tree t, σ₁)))))
noncomputable def subG (I : Interp) (ns : Names) (v i : Expr) (σ : St) : Option (LV × St) := o2 (evE I ns v σ) fun a σ₁ => (o2 (evE I ns i σ₁) fun b σ₂ => (o1 (subAV a b) fun t => some (.tree t, σ₂)))
noncomputable def idxE (I : Interp) (ns : Names) (v i : Expr) (σ : St) : Option (LV × St) := if isIdx i then (match ownL ns σ v with
  | some p => subOwn I ns p.1 i σ
  | Option.none => subG I ns v i σ) else Option.none
noncomputable def subE (I : Interp) (ns : Names) (v i : Expr) (σ : St) : Option (LV × St) := match sliceOf i with
  | some u => sliceE I ns v u σ
  | Option.none => idxE I ns v i σ
noncomputable def attrE (I : Interp) (ns : Names) (v : Expr) (a : Str) (σ : St) : Option (LV × St) := if notSuper v then (o2 (evE I ns v σ) fun t σ₁ => (o1 (attrAV a t) fun u => some (.tree u, σ₁))) else Option.none
noncomputable def getE (I : Interp) (ns : Names) (o e : Expr) (σ : St) : Option (LV × St) := o2 (evE I ns o σ) fun t σ₁ => (o2 (asDict t) fun ks vs => (o2 (evE I ns e σ₁) fun u σ₂ => (o1 (asStr u) fun k => some (.tree ((dictGet k ks vs).getD .none), σ₂))))
noncomputable def acallE (I : Interp) (ns : Names) (o : Expr) (m : Str) (apos : Pos) (args : List Expr) (pos : Pos) (σ : St) : Option (LV × St) := match nameOf o with
  | some x => if apos.endLine == pos.line then methE I ns x m args σ else Option.none
  | Option.none => (match args with
    | [e] => if m = "get" ∧ (apos.endLine == pos.line) = true ∧ notSuper o = true then getE I ns o e σ else Option.none
    | _ => Option.none)
noncomputable def callX (I : Interp) (ns : Names) (f : Expr) (args : List Expr) (kw : List Keyword) (pos : Pos) (σ : St) : Option (LV × St) := match kw with
  | [] => (match f with
    | .Name f _ => if isGlob ns f ∧ args.length < 10 then callE I ns f args σ else Option.none
    | .Attribute o m apos => acallE I ns o m apos args pos σ
    | _ => Option.none)
  | _ => Option.none

noncomputable def stepE (I : Interp) (ns : Names) (e : Expr) (σ : St) : Option (LV × St) := match e with
  | .Constant c _ _ => constE c σ
  | .Name x _ => nameE ns x σ
  | .BinOp l op r _ => binE I ns l op r σ
  | .BoolOp op es _ => boolE I ns op es σ
  | .UnaryOp op x _ => unE I ns op x σ
  | .Compare l ops rs _ => cmpE I ns l ops rs σ
  | .IfExp t b o _ => ifE I ns t b o σ
  | .List es _ => listE I ns es σ
  | .Tuple es _ _ => tupE I ns es σ
  | .Dict ks es _ => dictE I ns ks es σ
  | .Subscript v i _ => subE I ns v i σ
  | .Attribute v a _ => attrE I ns v a σ
  | .Call f args kw pos => callX I ns f args kw pos σ
  | .ListComp elt gens sc _ => compE I ns elt gens sc σ
  | _ => Option.none

noncomputable def goOn (op : BoolOp) (b : Bool) : Bool := match op with
  | .And => b
  | .Or => !b
noncomputable def isAnd (op : BoolOp) : Bool := match op with
  | .And => true
  | .Or => false
noncomputable def allT (I : Interp) (ns : Names) (op : BoolOp) : List Expr → St → Option (Bool × St)
  | [], σ => some (isAnd op, σ)
  | e :: es, σ => o2 (I.T ns e σ) fun b σ' => (match goOn op b with
    | true => allT I ns op es σ'
    | false => some (b, σ'))

noncomputable def single {α : Type} : List α → Bool
  | [_] => true
  | _ => false
noncomputable def isNot (op : UnaryOp) : Bool := match op with
  | .Not => true
  | _ => false
noncomputable def tOk : Expr → Bool
  | .UnaryOp op _ _ => !isNot op
  | .BoolOp _ _ _ => false
  | .IfExp _ _ _ _ => false
  | .Compare _ ops rs _ => single ops && single rs
  | _ => true

noncomputable def valT (I : Interp) (ns : Names) (e : Expr) (σ : St) : Option (Bool × St) := if tOk e then (o2 (I.E ns e σ) fun v σ' => (o1 (asBool v) fun b => some (b, σ'))) else Option.none
noncomputable def notT (I : Interp) (ns : Names) (x : Expr) (σ : St) : Option (Bool × St) := o2 (I.T ns x σ) fun b σ' => some (!b, σ')
noncomputable def unT (I : Interp) (ns : Names) (op : UnaryOp) (x e : Expr) (σ : St) : Option (Bool × St) := match isNot op with
  | true => notT I ns x σ
  | false => valT I ns e σ
noncomputable def stepT (I : Interp) (ns : Names) (e : Expr) (σ : St) : Option (Bool × St) := match e with
  | .UnaryOp op x p => unT I ns op x (.UnaryOp op x p) σ
  | .BoolOp op es _ => allT I ns op es σ
  | e => valT I ns e σ

noncomputable def isComp : Expr → Bool
  | .ListComp _ _ _ _ => true
  | _ => false

noncomputable def evA (I : Interp) (ns : Names) : Expr → St → Option (LV × St)
  | .ListComp elt gens sc _, σ => compE I ns elt gens sc σ
  | e, σ => I.E ns e σ

noncomputable def vecOf : LV → Option (Str × AV × AV)
  | .mvec k i t => some (k, i, t)
  | _ => Option.none
noncomputable def dictOfL : LV → Option (List Str × List AV)
  | .mdict ks vs => some (ks, vs)
  | _ => Option.none
noncomputable def attrStore (ns : Names) (x a : Str) (v : LV) (σ₁ : St) : Option (Flw × St) := o1 (getV ns σ₁ x) fun u => (o1 (vecOf u) fun p =>
    if a = "attrs" then (o2 (dictOfL v) fun ks vs => some (.next, put σ₁ x (.mvec p.1 p.2.1 (.dict ks vs))))
    else if a = "shared" then (o1 (asBool v) fun _ => some (.next, put σ₁ x (.mvec p.1 p.2.1 p.2.2)))
    else Option.none)

noncomputable def setS (I : Interp) (ns : Names) (fx x : Str) (e : Expr) (σ : St) : Option (Flw × St) := if isVar ns x ∧ x ≠ fx ∧ plainE e then (o2 (evA I ns e σ) fun v σ₁ => some (.next, put σ₁ x v)) else Option.none
noncomputable def attrS (I : Interp) (ns : Names) (x a : Str) (e : Expr) (σ : St) : Option (Flw × St) := if plainE e ∧ isComp e = false then (o2 (I.E ns e σ) fun v σ₁ => attrStore ns x a v σ₁) else Option.none
noncomputable def keyPut (ns : Names) (x key : Str) (v : AV) (σ₁ : St) : Option (Flw × St) := o1 (getV ns σ₁ x) fun u => (o1 (vecOf u) fun p => (o2 (asDict p.2.2) fun ks vs =>
  if ks.length < 100 ∧ ks.contains key = false then some (.next, put σ₁ x (.mvec p.1 p.2.1 (.dict (ks ++ [key]) (vs ++ [v])))) else Option.none))
noncomputable def keyS (I : Interp) (ns : Names) (x a key : Str) (e : Expr) (σ : St) : Option (Flw × St) := if a = "attrs" ∧ isComp e = false then (o2 (evE I ns e σ) fun v σ₁ => keyPut ns x key v σ₁) else Option.none
noncomputable def dotOf : Expr → Option (Str × Str)
  | .Attribute o a _ => (o1 (nameOf o) fun x => some (x, a))
  | _ => Option.none
noncomputable def tgtS (I : Interp) (ns : Names) (fx : Str) (t : Expr) (e : Expr) (σ : St) : Option (Flw × St) := match t with
  | .Name x _ => setS I ns fx x e σ
  | .Attribute o a _ => (o1 (nameOf o) fun x => attrS I ns x a e σ)
  | .Subscript o i _ => (o2 (dotOf o) fun x a => (o1 (strOf i) fun key => keyS I ns x a key e σ))
  | _ => Option.none
noncomputable def assignS (I : Interp) (ns : Names) (fx : Str) (ts : List Expr) (e : Expr) (σ : St) : Option (Flw × St) := match ts with
  | [t] => tgtS I ns fx t e σ
  | _ => Option.none
noncomputable def isAdd : Operator → Bool
  | .Add => true
  | _ => false
noncomputable def asIntL : LV → Option Int
  | .tree t => asInt t
  | _ => Option.none
noncomputable def aug1 (I : Interp) (ns : Names) (fx x : Str) (e : Expr) (σ : St) : Option (Flw × St) := if x ≠ fx then (o1 (getV ns σ x) fun u => (o1 (asIntL u) fun a => (o2 (evE I ns e σ) fun v σ₁ => (o1 (asInt v) fun b => some (.next, put σ₁ x (.tree (.int (a + b)))))))) else Option.none
noncomputable def augS (I : Interp) (ns : Names) (fx : Str) (t : Expr) (op : Operator) (e : Expr) (σ : St) : Option (Flw × St) := o1 (nameOf t) fun x => (match isAdd op with
    | true => aug1 I ns fx x e σ
    | false => Option.none)
noncomputable def exprS (I : Interp) (ns : Names) (e : Expr) (σ : St) : Option (Flw × St) := if plainE e ∧ isComp e = false then (o2 (I.E ns e σ) fun _ σ₁ => some (.next, σ₁)) else Option.none
noncomputable def ifS (I : Interp) (ns : Names) (fx : Str) (t : Expr) (b o : List Stmt) (σ : St) : Option (Flw × St) := o2 (I.T ns t σ) fun c σ₁ => (match c with
    | true => I.B ns fx b σ₁
    | false => I.B ns fx o σ₁)
noncomputable def for1 (I : Interp) (ns : Names) (fx x : Str) (it : Expr) (body : List Stmt) (σ : St) : Option (Flw × St) := if isVar ns x ∧ x ≠ fx then (o2 (evE I ns it σ) fun t σ₁ => (o1 (iterOf t) fun its => forL (I.B ns fx body) x its σ₁)) else Option.none
noncomputable def forS (I : Interp) (ns : Names) (fx : Str) (t : Expr) (it : Expr) (body els : List Stmt) (σ : St) : Option (Flw × St) := o1 (nameOf t) fun x => (match els with
    | [] => for1 I ns fx x it body σ
    | _ => Option.none)
noncomputable def ret1 (I : Interp) (ns : Names) (e : Expr) (σ : St) : Option (Flw × St) := match ownNamed ns σ e with
  | some p => some (.retv p.1 p.2, σ)
  | Option.none => (o2 (I.E ns e σ) fun v σ₁ => some (.ret v, σ₁))
noncomputable def retS (I : Interp) (ns : Names) (eo : Option Expr) (σ : St) : Option (Flw × St) := match eo with
  | Option.none => some (.ret (.tree .none), σ)
  | some e => ret1 I ns e σ

noncomputable def stepS (I : Interp) (ns : Names) (fx : Str) (st : Stmt) (σ : St) : Option (Flw × St) := match st with
  | .Assign ts e _ => assignS I ns fx ts e σ
  | .AugAssign t op e _ => augS I ns fx t op e σ
  | .Expr e _ => exprS I ns e σ
  | .If t b o _ => ifS I ns fx t b o σ
  | .For t it body els _ => forS I ns fx t it body els σ
  | .Return eo _ => retS I ns eo σ
  | .Break _ => some (.brk, σ)
  | _ => Option.none

noncomputable def stepB (I : Interp) (ns : Names) (fx : Str) : List Stmt → St → Option (Flw × St)
  | [], σ => some (.next, σ)
  | s :: r, σ => o2 (stepS I ns fx s σ) fun f σ₁ => (match f with
    | .next => stepB I ns fx r σ₁
    | .brk => some (.brk, σ₁)
    | .ret v => some (.ret v, σ₁)
    | .retv x v => some (.retv x v, σ₁))

noncomputable def endC (p : Str) (f : Flw) : Flw := match f with
  | .retv x v => if x = p then .retv x v else .ret v
  | .next => .next
  | .brk => .brk
  | .ret v => .ret v
noncomputable def isBrk (f : Flw) : Bool := match f with
  | .brk => true
  | _ => false

noncomputable def runD (I : Interp) (d : FDef) (args : List LV) : Option (Flw × LV) := match d.params with
  | p :: _ => (o2 (I.B d.scope.names p d.body (d.params.zip args)) fun fl σ => (match isBrk fl with
    | true => Option.none
    | false => (o1 (σ.lookup p) fun v => some (endC p fl, v))))
  | [] => (o2 (I.B d.scope.names "" d.body []) fun fl _ => (match isBrk fl with
    | true => Option.none
    | false => some (endC "" fl, .tree .none)))
noncomputable def stepC (tab : Str → Option FDef) (I : Interp) (f : Str) (args : List LV) : Option (Flw × LV) := o1 (tab f) fun d => if args.length = d.params.length then runD I d args else Option.none

noncomputable def step (tab : Str → Option FDef) (I : Interp) : Interp where
  E := stepE I
  T := stepT I
  B := stepB I
  C := stepC tab I

noncomputable def botI : Interp where
  E := fun _ _ _ => Option.none
  T := fun _ _ _ => Option.none
  B := fun _ _ _ _ => Option.none
  C := fun _ _ => Option.none

noncomputable def interp (tab : Str → Option FDef) : Nat → Interp
  | 0 => botI
  | n + 1 => step tab (interp tab n)

end Mini

namespace Mini
open PySem PySem.W PySem.Calls PyProof.Rows

abbrev FzM := Addr → Option Obj

structure Base where
  prog : Program
  w : World
  base : Heap
  mg : Str → Option Value
  mb : Str → Option Value
  CV : Addr
  CN : Addr
  CM : Addr

variable (b : Base)

def ent (p : Params) (k : Str) (t : Tok) (v : Value) : DictEntry := ⟨PyData.keyHash p k, .str k t, v⟩
def vecEs (p : Params) (t0 t1 t2 t3 t4 : Tok) (vk vi va vs vl : Value) : List DictEntry :=
  [ent p "kind" t0 vk, ent p "items" t1 vi, ent p "attrs" t2 va, ent p "shared" t3 vs, ent p "loose" t4 vl]
def twoEs (p : Params) (t0 t1 : Tok) (vk va : Value) : List DictEntry := [ent p "kind" t0 vk, ent p "attrs" t1 va]
def tupOf (vs : List Value) (n : Nat) : Obj := { cls := .type "tuple", data := .seq vs.toArray n }
def rngOf (a b c : Int) (t u v : Tok) : Obj := { cls := .type "range", dict := none, data := .fields #[.int a t, .int b u, .int c v], slots := #[] }

mutual
inductive Den (Fz : FzM) : Value → AV → Prop
  | none : Den Fz .none .none
  | bool (x : Bool) : Den Fz (.bool x) (.bool x)
  | int (i : Int) (t : Tok) : Den Fz (.int i t) (.int i)
  | str (x : Str) (t : Tok) : Den Fz (.str x t) (.str x)
  | list {a : Addr} {vs : List Value} {n : Nat} {xs : List AV} : Fz a = some (listOf vs.toArray n) → DenL Fz vs xs → Den Fz (.ref a) (.list xs)
  | tup {a : Addr} {vs : List Value} {n : Nat} {xs : List AV} : Fz a = some (tupOf vs n) → DenL Fz vs xs → Den Fz (.ref a) (.tup xs)
  | rng {a : Addr} {x y z : Int} {t u v : Tok} : Fz a = some (rngOf x y z t u v) → Den Fz (.ref a) (.rng x y z)
  | vec {a d : Addr} {k : Str} {tk t0 t1 t2 t3 t4 : Tok} {n : Nat} {vi va vs vl : Value} {its ats : AV} :
      Fz a = some (instObj b.CV d) → Fz d = some (dictOf (vecEs b.w.params t0 t1 t2 t3 t4 (.str k tk) vi va vs vl) n) → Den Fz vi its → Den Fz va ats → Den Fz (.ref a) (.vec k its ats)
  | dict {a : Addr} {o : Obj} {kvs : List (Str × Value)} {xs : List AV} : Fz a = some o → o.IsDictOf (strKind b.prog b.w) kvs → (a == sysModules) = false → DenL Fz (kvs.map (·.2)) xs → Den Fz (.ref a) (.dict (kvs.map (·.1)) xs)
  | null {a d : Addr} {tk t0 t1 : Tok} {n : Nat} : Fz a = some (instObj b.CN d) → Fz d = some (dictOf (twoEs b.w.params t0 t1 (.str "NULL" tk) .none) n) → Den Fz (.ref a) .null
  | miss {a d : Addr} {tk t0 t1 : Tok} {n : Nat} : Fz a = some (instObj b.CM d) → Fz d = some (dictOf (twoEs b.w.params t0 t1 (.str "missing" tk) .none) n) → Den Fz (.ref a) .miss
inductive DenL (Fz : FzM) : List Value → List AV → Prop
  | nil : DenL Fz [] []
  | cons {v : Value} {vs : List Value} {x : AV} {xs : List AV} : Den Fz v x → DenL Fz vs xs → DenL Fz (v :: vs) (x :: xs)
end

variable {b}
def FzLe (Fz Fz' : FzM) : Prop := ∀ a o, Fz a = some o → Fz' a = some o
theorem FzLe.refl (Fz : FzM) : FzLe Fz Fz := fun _ _ e => e
theorem FzLe.trans {F G H : FzM} (x : FzLe F G) (y : FzLe G H) : FzLe F H := fun a o e => y a o (x a o e)

mutual
theorem Den.mono {Fz Fz' : FzM} (h : FzLe Fz Fz') : ∀ {v : Value} {x : AV}, Den b Fz v x → Den b Fz' v x
  | _, _, .none => .none
  | _, _, .bool x => .bool x
  | _, _, .int i t => .int i t
  | _, _, .str x t => .str x t
  | _, _, .list e r => .list (h _ _ e) (DenL.mono h r)
  | _, _, .tup e r => .tup (h _ _ e) (DenL.mono h r)
  | _, _, .rng e => .rng (h _ _ e)
  | _, _, .vec e1 e2 r1 r2 => .vec (h _ _ e1) (h _ _ e2) (Den.mono h r1) (Den.mono h r2)
  | _, _, .dict e i s r => .dict (h _ _ e) i s (DenL.mono h r)
  | _, _, .null e1 e2 => .null (h _ _ e1) (h _ _ e2)
  | _, _, .miss e1 e2 => .miss (h _ _ e1) (h _ _ e2)
theorem DenL.mono {Fz Fz' : FzM} (h : FzLe Fz Fz') : ∀ {vs : List Value} {xs : List AV}, DenL b Fz vs xs → DenL b Fz' vs xs
  | _, _, .nil => .nil
  | _, _, .cons d r => .cons (Den.mono h d) (DenL.mono h r)
end

theorem DenL.length {Fz : FzM} : ∀ {vs : List Value} {xs : List AV}, DenL b Fz vs xs → vs.length = xs.length
  | _, _, .nil => rfl
  | _, _, .cons _ r => by rw [List.length_cons, List.length_cons, DenL.length r]
theorem DenL.append {Fz : FzM} : ∀ {vs ws : List Value} {xs ys : List AV}, DenL b Fz vs xs → DenL b Fz ws ys → DenL b Fz (vs ++ ws) (xs ++ ys)
  | _, _, _, _, .nil, k => k
  | _, _, _, _, .cons d r, k => .cons d (DenL.append r k)
theorem DenL.one {Fz : FzM} {v : Value} {x : AV} (d : Den b Fz v x) : DenL b Fz [v] [x] := .cons d .nil
theorem DenL.get {Fz : FzM} : ∀ {vs : List Value} {xs : List AV} {k : Nat} {x : AV}, DenL b Fz vs xs → xs[k]? = some x → ∃ v, vs[k]? = some v ∧ Den b Fz v x
  | _, _, _, _, .nil, e => by simp at e
  | _, _, 0, _, .cons d _, e => by simp at e; subst e; exact ⟨_, rfl, d⟩
  | _, _, k + 1, _, .cons _ r, e => by simp at e; exact DenL.get (k := k) r e
theorem DenL.getN {Fz : FzM} : ∀ {vs : List Value} {xs : List AV} {k : Nat} {v : Value}, DenL b Fz vs xs → vs[k]? = some v → ∃ x, xs[k]? = some x ∧ Den b Fz v x
  | _, _, _, _, .nil, e => by simp at e
  | _, _, 0, _, .cons d _, e => by simp at e; subst e; exact ⟨_, rfl, d⟩
  | _, _, k + 1, _, .cons _ r, e => by simp at e; exact DenL.getN (k := k) r e
theorem DenL.take {Fz : FzM} : ∀ {vs : List Value} {xs : List AV} (k : Nat), DenL b Fz vs xs → DenL b Fz (vs.take k) (xs.take k)
  | _, _, _, .nil => by simp; exact .nil
  | _, _, 0, .cons _ _ => .nil
  | _, _, k + 1, .cons d r => by simp; exact .cons d (DenL.take k r)
theorem DenL.reverse {Fz : FzM} : ∀ {vs : List Value} {xs : List AV}, DenL b Fz vs xs → DenL b Fz vs.reverse xs.reverse
  | _, _, .nil => .nil
  | _, _, .cons d r => by simp only [List.reverse_cons]; exact (DenL.reverse r).append (.one d)

inductive AOwn (b : Base) (Fz : FzM) (h : Heap) : Value → AV → List Addr → Prop
  | none : AOwn b Fz h .none .none []
  | dict {a : Addr} {o : Obj} {kvs : List (Str × Value)} {xs : List AV} : h.get? a = some o → o.IsDictOf (strKind b.prog b.w) kvs → (a == sysModules) = false → DenL b Fz (kvs.map (·.2)) xs → AOwn b Fz h (.ref a) (.dict (kvs.map (·.1)) xs) [a]

inductive Own (b : Base) (Fz : FzM) (h : Heap) : Value → LV → List Addr → Prop
  | tree {v : Value} {t : AV} : Den b Fz v t → Own b Fz h v (.tree t) []
  | mlist {a : Addr} {vs : List Value} {n : Nat} {xs : List AV} : h.get? a = some (listOf vs.toArray n) → DenL b Fz vs xs → Own b Fz h (.ref a) (.mlist xs) [a]
  | mdict {a : Addr} {o : Obj} {kvs : List (Str × Value)} {xs : List AV} : h.get? a = some o → o.IsDictOf (strKind b.prog b.w) kvs → (a == sysModules) = false → DenL b Fz (kvs.map (·.2)) xs →
      Own b Fz h (.ref a) (.mdict (kvs.map (·.1)) xs) [a]
  | mvec {a d : Addr} {k : Str} {tk t0 t1 t2 t3 t4 : Tok} {n : Nat} {vi va vs vl : Value} {its ats : AV} {fa : List Addr} :
      h.get? a = some (instObj b.CV d) → h.get? d = some (dictOf (vecEs b.w.params t0 t1 t2 t3 t4 (.str k tk) vi va vs vl) n) → Den b Fz vi its → AOwn b Fz h va ats fa → a ≠ d → a ∉ fa → d ∉ fa →
      Own b Fz h (.ref a) (.mvec k its ats) (a :: d :: fa)

def Keep (P : Addr → Prop) (h h' : Heap) : Prop := ∀ a o, ¬ P a → h.get? a = some o → h'.get? a = some o
theorem Keep.refl (P : Addr → Prop) (h : Heap) : Keep P h h := fun _ _ _ e => e

theorem AOwn.keep {Fz Fz' : FzM} {h h' : Heap} {v : Value} {t : AV} {fp : List Addr} (x : AOwn b Fz h v t fp) (hz : FzLe Fz Fz') (hk : ∀ a o, a ∈ fp → h.get? a = some o → h'.get? a = some o) : AOwn b Fz' h' v t fp := by
  cases x with
  | none => exact .none
  | dict e i s r => exact .dict (hk _ _ (.head _) e) i s (r.mono hz)
theorem Own.keep {Fz Fz' : FzM} {h h' : Heap} {v : Value} {t : LV} {fp : List Addr} (x : Own b Fz h v t fp) (hz : FzLe Fz Fz') (hk : ∀ a o, a ∈ fp → h.get? a = some o → h'.get? a = some o) : Own b Fz' h' v t fp := by
  cases x with
  | tree d => exact .tree (d.mono hz)
  | mlist e r => exact .mlist (hk _ _ (.head _) e) (r.mono hz)
  | mdict e i s r => exact .mdict (hk _ _ (.head _) e) i s (r.mono hz)
  | mvec e1 e2 r1 r2 n1 n2 n3 => exact .mvec (hk _ _ (.head _) e1) (hk _ _ (.tail _ (.head _)) e2) (r1.mono hz) (r2.keep hz fun a o m => hk a o (.tail _ (.tail _ m))) n1 n2 n3

def fzAdd (Fz : FzM) (h : Heap) (fp : List Addr) : FzM := fun a => if a ∈ fp then h.get? a else Fz a
theorem fzAdd_le {Fz : FzM} {h : Heap} {fp : List Addr} (hf : ∀ a ∈ fp, Fz a = none) : FzLe Fz (fzAdd Fz h fp) := fun a o e => by
  unfold fzAdd
  by_cases m : a ∈ fp
  · rw [hf a m] at e; cases e
  · rw [if_neg m]; exact e
theorem fzAdd_at {Fz : FzM} {h : Heap} {fp : List Addr} {a : Addr} (m : a ∈ fp) : fzAdd Fz h fp a = h.get? a := if_pos m
theorem fzAdd_nil (Fz : FzM) (h : Heap) : fzAdd Fz h [] = Fz := by funext a; unfold fzAdd; simp

theorem Own.freeze {Fz : FzM} {h : Heap} {v : Value} {t : LV} {fp : List Addr} (x : Own b Fz h v t fp) (hf : ∀ a ∈ fp, Fz a = none) : Den b (fzAdd Fz h fp) v t.frz := by
  have le := fzAdd_le (h := h) hf
  cases x with
  | tree d => exact d.mono le
  | mlist e r => exact .list ((fzAdd_at (.head _)).trans e) (r.mono le)
  | mdict e i s r => exact .dict ((fzAdd_at (.head _)).trans e) i s (r.mono le)
  | mvec e1 e2 r1 r2 n1 n2 n3 =>
    refine .vec ((fzAdd_at (.head _)).trans e1) ((fzAdd_at (.tail _ (.head _))).trans e2) (r1.mono le) ?_
    cases r2 with
    | none => exact .none
    | dict e i s r => exact .dict ((fzAdd_at (.tail _ (.tail _ (.head _)))).trans e) i s (r.mono le)

theorem Own.live {Fz : FzM} {h : Heap} {v : Value} {t : LV} {fp : List Addr} (x : Own b Fz h v t fp) : ∀ a ∈ fp, ∃ o, h.get? a = some o := by
  intro a m
  cases x with
  | tree d => cases m
  | mlist e r => rw [List.mem_singleton.mp m]; exact ⟨_, e⟩
  | mdict e i s r => rw [List.mem_singleton.mp m]; exact ⟨_, e⟩
  | mvec e1 e2 r1 r2 n1 n2 n3 =>
    rcases List.mem_cons.mp m with rfl | m
    · exact ⟨_, e1⟩
    rcases List.mem_cons.mp m with rfl | m
    · exact ⟨_, e2⟩
    cases r2 with
    | none => cases m
    | dict e i s r => rw [List.mem_singleton.mp m]; exact ⟨_, e⟩

structure Frame (env : Env) (ns : Names) (bd : Str → Option Value) (h : Heap) : Prop where
  loc : ∃ m, h.Ns env.locals m ∧ ∀ x, ns.lookup x = some .local → m x = bd x
  cell : ∀ x, ns.lookup x = some .cell → ∃ c, env.cells.lookup x = some c ∧ h.IsCell c (bd x)

def slotAt (env : Env) (ns : Names) (a : Addr) : Prop := a = env.locals ∨ ∃ x, ns.lookup x = some .cell ∧ env.cells.lookup x = some a

theorem Frame.keep {env : Env} {ns : Names} {bd : Str → Option Value} {h h' : Heap} (F : Frame env ns bd h) (hk : ∀ a o, slotAt env ns a → h.get? a = some o → h'.get? a = some o) : Frame env ns bd h' := by
  obtain ⟨⟨m, hm, e⟩, hc⟩ := F
  refine ⟨⟨m, ?_, e⟩, fun x hx => ?_⟩
  · obtain ⟨o, es, ep, ho, r⟩ := hm
    exact ⟨o, es, ep, hk _ _ (.inl rfl) ho, r⟩
  · obtain ⟨c, hl, o, ho, r⟩ := hc x hx
    exact ⟨c, hl, o, hk _ _ (.inr ⟨x, hx, hl⟩) ho, r⟩

structure EnvOk (b : Base) (env : Env) (ns : Names) : Prop where
  kind : env.scope.kind = .function
  names : env.scope.names = ns
  globals : env.globals = mainGlobals
  builtins : env.builtins = builtinsNs
  apart : ∀ x y c, ns.lookup x = some .cell → ns.lookup y = some .cell → env.cells.lookup x = some c → env.cells.lookup y = some c → x = y
  off : ∀ x c, ns.lookup x = some .cell → env.cells.lookup x = some c → c ≠ env.locals

structure Rel (b : Base) (Fz : FzM) (env : Env) (ns : Names) (σ : St) (bd : Str → Option Value) (fp : Str → List Addr) (h : Heap) : Prop where
  fz : ∀ a o, Fz a = some o → h.get? a = some o
  base : ∀ a o, b.base.get? a = some o → Fz a = some o
  frame : Frame env ns bd h
  slotFree : ∀ a, slotAt env ns a → Fz a = none
  var : ∀ x v, σ.lookup x = some v → ∃ u, bd x = some u ∧ Own b Fz h u v (fp x)
  fpOff : ∀ x, σ.lookup x = none → fp x = []
  fpFree : ∀ x a, a ∈ fp x → Fz a = none ∧ ¬ slotAt env ns a
  apart : ∀ x y a, x ≠ y → a ∈ fp x → a ∉ fp y

def inFp (fp : Str → List Addr) (a : Addr) : Prop := ∃ x, a ∈ fp x

structure Stp (P : Addr → Prop) (s : Shared) (Fz : FzM) (s' : Shared) (Fz' : FzM) : Prop where
  same : ∃ h tk, s' = { s with heap := h, toks := tk }
  keep : ∀ a o, ¬ P a → s.heap.get? a = some o → s'.heap.get? a = some o
  le : FzLe Fz Fz'
  new : ∀ a o, Fz' a = some o → Fz a = some o ∨ s.heap.get? a = none ∨ P a

theorem Stp.refl (P : Addr → Prop) (s : Shared) (Fz : FzM) : Stp P s Fz s Fz := ⟨⟨_, _, rfl⟩, fun _ _ _ e => e, .refl _, fun _ _ e => .inl e⟩

theorem Stp.trans {P Q : Addr → Prop} {s s₁ s₂ : Shared} {Fz Fz₁ Fz₂ : FzM} (x : Stp P s Fz s₁ Fz₁) (y : Stp Q s₁ Fz₁ s₂ Fz₂) (hq : ∀ a, Q a → P a ∨ s.heap.get? a = none) : Stp P s Fz s₂ Fz₂ := by
  obtain ⟨h₁, t₁, rfl⟩ := x.same
  obtain ⟨h₂, t₂, rfl⟩ := y.same
  refine ⟨⟨h₂, t₂, rfl⟩, fun a o hp e => ?_, x.le.trans y.le, fun a o e => ?_⟩
  · refine y.keep a o (fun q => ?_) (x.keep a o hp e)
    rcases hq a q with p | p
    · exact hp p
    · rw [p] at e; cases e
  · rcases y.new a o e with e1 | e1 | e1
    · exact x.new a o e1
    · by_cases hp : P a
      · exact .inr (.inr hp)
      · cases q : s.heap.get? a with
        | none => exact .inr (.inl rfl)
        | some o' => rw [x.keep a o' hp q] at e1; cases e1
    · rcases hq a e1 with p | p
      · exact .inr (.inr p)
      · exact .inr (.inl p)

theorem Stp.weak {P Q : Addr → Prop} {s s' : Shared} {Fz Fz' : FzM} (x : Stp P s Fz s' Fz') (h : ∀ a, P a → Q a) : Stp Q s Fz s' Fz' :=
  ⟨x.same, fun a o hq e => x.keep a o (fun p => hq (h a p)) e, x.le, fun a o e => (x.new a o e).imp_right (·.imp_right (h a))⟩

def EPost (b : Base) (env : Env) (ns : Names) (bd : Str → Option Value) (s : Shared) (Fz : FzM) (fp : Str → List Addr) (r : LV) (σ' : St) (v : Value) (s' : Shared) : Prop :=
  ∃ Fz' fp' fv, Stp (inFp fp) s Fz s' Fz' ∧ (∀ a, inFp fp' a → inFp fp a ∨ s.heap.get? a = none) ∧ Rel b Fz' env ns σ' bd fp' s'.heap ∧ Own b Fz' s'.heap v r fv ∧
    (∀ a ∈ fv, Fz' a = none ∧ ¬ slotAt env ns a ∧ (∀ x, a ∉ fp' x) ∧ (s.heap.get? a = none ∨ inFp fp a))

end Mini

namespace Mini
open PySem PySem.W PySem.Calls PyProof.Rows

variable {b : Base}

structure Room (A : Around) (n : Nat) : Prop where
  handled : A.handled = none
  depth : A.depth + n < 900
  units : A.units + 16 * n < 9000

theorem Room.less {A : Around} {n k : Nat} (r : Room A n) (h : k ≤ n) : Room A k := ⟨r.handled, by have := r.depth; omega, by have := r.units; omega⟩

def NoE : Value → Shared → Prop := fun _ _ => False

theorem Rel.grow {Fz Fz' : FzM} {env : Env} {ns : Names} {σ : St} {bd : Str → Option Value} {fp : Str → List Addr} {h h' : Heap} (R : Rel b Fz env ns σ bd fp h)
    (hk : ∀ a o, h.get? a = some o → h'.get? a = some o) (le : FzLe Fz Fz') (hz : ∀ a o, Fz' a = some o → h'.get? a = some o) (hn : ∀ a o, Fz' a = some o → Fz a = some o ∨ h.get? a = none) :
    Rel b Fz' env ns σ bd fp h' := by
  have slotLive : ∀ a, slotAt env ns a → ∃ o, h.get? a = some o := by
    rintro a (rfl | ⟨x, hx, hc⟩)
    · obtain ⟨m, ⟨o, _, _, ho, _⟩, _⟩ := R.frame.loc
      exact ⟨o, ho⟩
    · obtain ⟨c, hl, o, ho, _⟩ := R.frame.cell x hx
      rw [hc] at hl; cases hl
      exact ⟨o, ho⟩
  refine ⟨hz, fun a o e => le _ _ (R.base a o e), R.frame.keep fun a o _ e => hk a o e, fun a ha => ?_, fun x v e => ?_, R.fpOff, fun x a m => ⟨?_, (R.fpFree x a m).2⟩, R.apart⟩
  · cases q : Fz' a with
    | none => rfl
    | some o =>
      rcases hn a o q with e | e
      · rw [R.slotFree a ha] at e; cases e
      · obtain ⟨o', ho'⟩ := slotLive a ha
        rw [e] at ho'; cases ho'
  · obtain ⟨u, hu, hO⟩ := R.var x v e
    exact ⟨u, hu, hO.keep le fun a o _ e => hk a o e⟩
  · cases q : Fz' a with
    | none => rfl
    | some o =>
      rcases hn a o q with e | e
      · rw [(R.fpFree x a m).1] at e; cases e
      · cases z : σ.lookup x with
        | none => rw [R.fpOff x z] at m; cases m
        | some v =>
          obtain ⟨u, _, hO⟩ := R.var x v z
          obtain ⟨o', ho'⟩ := hO.live a m
          rw [e] at ho'; cases ho'

theorem Rel.fpLive {Fz : FzM} {env : Env} {ns : Names} {σ : St} {bd : Str → Option Value} {fp : Str → List Addr} {h : Heap} (R : Rel b Fz env ns σ bd fp h) {x : Str} {a : Addr} (m : a ∈ fp x) : ∃ o, h.get? a = some o := by
  cases z : σ.lookup x with
  | none => rw [R.fpOff x z] at m; cases m
  | some v =>
    obtain ⟨u, _, hO⟩ := R.var x v z
    exact hO.live a m

def GPost (b : Base) (s : Shared) (Fz : FzM) (r : LV) (v : Value) (s' : Shared) : Prop :=
  (∃ h tk, s' = { s with heap := h, toks := tk }) ∧ (∀ a o, s.heap.get? a = some o → s'.heap.get? a = some o) ∧
  ∃ Fz' fv, FzLe Fz Fz' ∧ (∀ a o, Fz' a = some o → s'.heap.get? a = some o ∧ (Fz a = some o ∨ s.heap.get? a = none)) ∧ Own b Fz' s'.heap v r fv ∧ ∀ a ∈ fv, s.heap.get? a = none ∧ Fz' a = none

theorem GPost.pure {s s' : Shared} {Fz : FzM} {t : AV} {v : Value} (hs : ∃ tk, s' = { s with toks := tk }) (hz : ∀ a o, Fz a = some o → s.heap.get? a = some o) (d : Den b Fz v t) : GPost b s Fz (.tree t) v s' := by
  obtain ⟨tk, rfl⟩ := hs
  exact ⟨⟨_, _, rfl⟩, fun _ _ e => e, Fz, [], .refl _, fun a o e => ⟨hz a o e, .inl e⟩, .tree d, fun _ m => nomatch m⟩

def TPost (b : Base) (env : Env) (ns : Names) (bd : Str → Option Value) (s : Shared) (Fz : FzM) (fp : Str → List Addr) (t : AV) (σ' : St) (v : Value) (s' : Shared) : Prop :=
  ∃ Fz' fp', Stp (inFp fp) s Fz s' Fz' ∧ (∀ a, inFp fp' a → inFp fp a ∨ s.heap.get? a = none) ∧ Rel b Fz' env ns σ' bd fp' s'.heap ∧ Den b Fz' v t

section
variable {env : Env} {ns : Names} {bd : Str → Option Value} {s s₁ s₂ : Shared} {Fz Fz₁ : FzM} {fp fp₁ : Str → List Addr} {r : LV} {t : AV} {σ σ' : St} {v : Value}

theorem TPost.toE (h : TPost b env ns bd s Fz fp t σ' v s₁) : EPost b env ns bd s Fz fp (.tree t) σ' v s₁ := by
  obtain ⟨Fz', fp', S, n, R, d⟩ := h
  exact ⟨Fz', fp', [], S, n, R, .tree d, fun _ m => nomatch m⟩

theorem EPost.toT (h : EPost b env ns bd s Fz fp r σ' v s₁) : TPost b env ns bd s Fz fp r.frz σ' v s₁ := by
  obtain ⟨Fz', fp', fv, S, n, R, O, D⟩ := h
  have hf : ∀ a ∈ fv, Fz' a = none := fun a m => (D a m).1
  have le := fzAdd_le (h := s₁.heap) hf
  refine ⟨fzAdd Fz' s₁.heap fv, fp', ⟨S.same, S.keep, S.le.trans le, fun a o e => ?_⟩, n, ?_, O.freeze hf⟩
  · unfold fzAdd at e
    by_cases m : a ∈ fv
    · exact .inr ((D a m).2.2.2)
    · rw [if_neg m] at e; exact S.new a o e
  · refine ⟨fun a o e => ?_, fun a o e => le _ _ (R.base a o e), R.frame, fun a ha => ?_, fun x w e => ?_, R.fpOff, fun x a m => ⟨?_, (R.fpFree x a m).2⟩, R.apart⟩
    · unfold fzAdd at e
      by_cases m : a ∈ fv
      · rw [if_pos m] at e; exact e
      · rw [if_neg m] at e; exact R.fz a o e
    · unfold fzAdd
      rw [if_neg fun m => (D a m).2.1 ha]; exact R.slotFree a ha
    · obtain ⟨u, hu, hO⟩ := R.var x w e
      exact ⟨u, hu, hO.keep le fun _ _ _ e => e⟩
    · unfold fzAdd
      rw [if_neg fun q => (D a q).2.2.1 x m]; exact (R.fpFree x a m).1

theorem EPost.after (S : Stp (inFp fp) s Fz s₁ Fz₁) (n : ∀ a, inFp fp₁ a → inFp fp a ∨ s.heap.get? a = none) (h : EPost b env ns bd s₁ Fz₁ fp₁ r σ' v s₂) : EPost b env ns bd s Fz fp r σ' v s₂ := by
  obtain ⟨Fz', fp', fv, S', n', R, O, D⟩ := h
  have hq := n
  have fresh : ∀ a, s₁.heap.get? a = none → inFp fp a ∨ s.heap.get? a = none := fun a e => by
    by_cases p : inFp fp a
    · exact .inl p
    · cases q : s.heap.get? a with
      | none => exact .inr rfl
      | some o => rw [S.keep a o p q] at e; cases e
  refine ⟨Fz', fp', fv, S.trans S' hq, fun a m => ?_, R, O, fun a m => ⟨(D a m).1, (D a m).2.1, (D a m).2.2.1, ?_⟩⟩
  · rcases n' a m with q | q
    · exact n a q
    · exact fresh a q
  · rcases (D a m).2.2.2 with q | q
    · exact (fresh a q).symm
    · exact (hq a q).symm

theorem TPost.after (S : Stp (inFp fp) s Fz s₁ Fz₁) (n : ∀ a, inFp fp₁ a → inFp fp a ∨ s.heap.get? a = none) (h : TPost b env ns bd s₁ Fz₁ fp₁ t σ' v s₂) : TPost b env ns bd s Fz fp t σ' v s₂ :=
  (EPost.after S n h.toE).toT

theorem EPost.ofG (R : Rel b Fz env ns σ bd fp s.heap) (g : GPost b s Fz r v s₁) : EPost b env ns bd s Fz fp r σ v s₁ := by
  obtain ⟨hs, hk, Fz', fv, le, hz, O, D⟩ := g
  have R' := R.grow hk le (fun a o e => (hz a o e).1) (fun a o e => (hz a o e).2)
  refine ⟨Fz', fp, fv, ⟨hs, fun a o _ e => hk a o e, le, fun a o e => (hz a o e).2.imp_right .inl⟩, fun a q => .inl q, R', O, fun a m => ⟨(D a m).2, fun q => ?_, fun x q => ?_, .inl (D a m).1⟩⟩
  · rcases q with rfl | ⟨x, hx, hc⟩
    · obtain ⟨m', ⟨o, _, _, ho, _⟩, _⟩ := R.frame.loc
      rw [(D _ m).1] at ho; cases ho
    · obtain ⟨c, hl, o, ho, _⟩ := R.frame.cell x hx
      rw [hc] at hl; cases hl
      rw [(D _ m).1] at ho; cases ho
  · obtain ⟨o, ho⟩ := R.fpLive q
    rw [(D _ m).1] at ho; cases ho
end
end Mini

namespace Mini
open PySem PySem.W PySem.Calls PyProof.Rows PyProof.V PySem.Spec

variable {b : Base}

mutual
def toPy : AV → PyData
  | .int i => .int i
  | .str s => .str s
  | .list xs => .list (toPyL xs)
  | _ => .none
def toPyL : List AV → List PyData
  | [] => []
  | x :: xs => toPy x :: toPyL xs
end

mutual
theorem reads_of {Fz : FzM} {h : Heap} (hz : ∀ a o, Fz a = some o → h.get? a = some o) : ∀ {v : Value} {x : AV} (n : Nat), Den b Fz v x → AV.eqable n x = true → ∃ as, Reads h v (toPy x) as
  | _, _, _, .none, _ => ⟨[], by simp only [toPy]; exact .none⟩
  | _, _, _, .int i t, _ => ⟨_, by rw [toPy]; exact .int i t⟩
  | _, _, _, .str x t, _ => ⟨_, by rw [toPy]; exact .str x t⟩
  | _, _, 0, .list _ _, hk => by simp [AV.eqable] at hk
  | _, _, n + 1, .list e r, hk => by
    obtain ⟨as, q⟩ := readsL_of hz n r (by simpa [AV.eqable] using hk)
    exact ⟨_, by rw [toPy]; exact reads_list_at (hz _ _ e) rfl rfl (by simpa using q)⟩
  | _, _, n, .bool _, hk => by cases n <;> simp [AV.eqable] at hk
  | _, _, n, .tup _ _, hk => by cases n <;> simp [AV.eqable] at hk
  | _, _, n, .rng _, hk => by cases n <;> simp [AV.eqable] at hk
  | _, _, n, .vec _ _ _ _, hk => by cases n <;> simp [AV.eqable] at hk
  | _, _, n, .dict _ _ _ _, hk => by cases n <;> simp [AV.eqable] at hk
  | _, _, n, .null _ _, hk => by cases n <;> simp [AV.eqable] at hk
  | _, _, n, .miss _ _, hk => by cases n <;> simp [AV.eqable] at hk
theorem readsL_of {Fz : FzM} {h : Heap} (hz : ∀ a o, Fz a = some o → h.get? a = some o) : ∀ {vs : List Value} {xs : List AV} (n : Nat), DenL b Fz vs xs → AV.eqableL n xs = true → ∃ as, ReadsAll h vs (toPyL xs) as
  | _, _, _, .nil, _ => ⟨_, by rw [toPyL]; exact .nil⟩
  | _, _, n, .cons d r, hk => by
    simp only [AV.eqableL, Bool.and_eq_true] at hk
    obtain ⟨as, q⟩ := reads_of hz n d hk.1
    obtain ⟨bs, p⟩ := readsL_of hz n r hk.2
    exact ⟨_, by rw [toPyL]; exact .cons q p⟩
end

mutual
theorem lay_of' : ∀ (n : Nat) (x : AV), AV.eqable n x = true → (toPy x).canLay0 = true ∧ (toPy x).depth ≤ n
  | n, .none, _ => by simp [toPy, PyData.canLay0, PyData.depth]
  | n, .int i, _ => by simp [toPy, PyData.canLay0, PyData.depth]
  | n, .str s, h => by cases n <;> (simp [AV.eqable] at h; simp [toPy, PyData.canLay0, PyData.depth, h])
  | 0, .list xs, h => by simp [AV.eqable] at h
  | n + 1, .list xs, h => by
    have q := layL_of n xs (by simpa [AV.eqable] using h)
    simp only [toPy, PyData.canLay0, PyData.depth, q.1, true_and]
    have := q.2
    omega
  | n, .bool _, h => by cases n <;> simp [AV.eqable] at h
  | n, .tup _, h => by cases n <;> simp [AV.eqable] at h
  | n, .rng _ _ _, h => by cases n <;> simp [AV.eqable] at h
  | n, .vec _ _ _, h => by cases n <;> simp [AV.eqable] at h
  | n, .dict _ _, h => by cases n <;> simp [AV.eqable] at h
  | n, .null, h => by cases n <;> simp [AV.eqable] at h
  | n, .miss, h => by cases n <;> simp [AV.eqable] at h
theorem layL_of : ∀ (n : Nat) (xs : List AV), AV.eqableL n xs = true → PyData.canLayAll0 (toPyL xs) = true ∧ PyData.depthAll (toPyL xs) ≤ n
  | n, [], _ => by simp [toPyL, PyData.canLayAll0, PyData.depthAll]
  | n, x :: xs, h => by
    simp only [AV.eqableL, Bool.and_eq_true] at h
    have h1 := lay_of' n x h.1
    have h2 := layL_of n xs h.2
    simp only [toPyL, PyData.canLayAll0, PyData.depthAll, h1.1, h2.1, Bool.and_self, true_and]
    have a1 := h1.2
    have a2 := h2.2
    omega
end

theorem shaped_of {n : Nat} {x : AV} (h : AV.eqable n x = true) (hn : n ≤ 64) : SeqAt.shaped (toPy x) = true := by
  have q := lay_of' n x h
  unfold SeqAt.shaped; rw [q.1, Bool.true_and]; exact decide_eq_true (Nat.le_trans q.2 hn)

mutual
theorem eqv_same : ∀ (n k : Nat) (x y : AV), AV.eqable n x = true → AV.eqable k y = true → PyData.eqv (toPy x) (toPy y) = AV.same x y
  | n, k, .none, y, _, h => by cases y <;> cases k <;> simp_all [toPy, AV.eqable, PyData.eqv, AV.same]
  | n, k, .int i, y, _, h => by cases y <;> cases k <;> simp_all [toPy, AV.eqable, PyData.eqv, AV.same]
  | n, k, .str s, y, _, h => by cases y <;> cases k <;> simp_all [toPy, AV.eqable, PyData.eqv, AV.same]
  | 0, k, .list xs, y, h, _ => by simp [AV.eqable] at h
  | n + 1, k, .list xs, y, h, h' => by
    cases y with
    | list ys =>
      cases k with
      | zero => simp [AV.eqable] at h'
      | succ k => simp only [toPy, PyData.eqv, AV.same]; exact eqvL_same n k xs ys (by simpa [AV.eqable] using h) (by simpa [AV.eqable] using h')
    | _ => cases k <;> simp_all [toPy, AV.eqable, PyData.eqv, AV.same]
  | n, k, .bool _, y, h, _ => by cases n <;> simp [AV.eqable] at h
  | n, k, .tup _, y, h, _ => by cases n <;> simp [AV.eqable] at h
  | n, k, .rng _ _ _, y, h, _ => by cases n <;> simp [AV.eqable] at h
  | n, k, .vec _ _ _, y, h, _ => by cases n <;> simp [AV.eqable] at h
  | n, k, .dict _ _, y, h, _ => by cases n <;> simp [AV.eqable] at h
  | n, k, .null, y, h, _ => by cases n <;> simp [AV.eqable] at h
  | n, k, .miss, y, h, _ => by cases n <;> simp [AV.eqable] at h
theorem eqvL_same : ∀ (n k : Nat) (xs ys : List AV), AV.eqableL n xs = true → AV.eqableL k ys = true → PyData.eqvAll (toPyL xs) (toPyL ys) = AV.sameL xs ys
  | n, k, [], [], _, _ => by simp [toPyL, PyData.eqvAll, AV.sameL]
  | n, k, [], _ :: _, _, _ => by simp [toPyL, PyData.eqvAll, AV.sameL]
  | n, k, _ :: _, [], _, _ => by simp [toPyL, PyData.eqvAll, AV.sameL]
  | n, k, x :: xs, y :: ys, h, h' => by
    simp only [AV.eqableL, Bool.and_eq_true] at h h'
    simp only [toPyL, PyData.eqvAll, AV.sameL, eqv_same n k x y h.1 h'.1, eqvL_same n k xs ys h.2 h'.2]
end

section
variable {A : Around} {s : Shared} {Fz : FzM} {va vc : Value} {a c : AV}

theorem eq_ok {r : Bool} {Q : Value → Shared → Prop} {E : Value → Shared → Prop} (hu : A.units + 64 < cLine) (hz : ∀ a o, Fz a = some o → s.heap.get? a = some o) (da : Den b Fz va a) (dc : Den b Fz vc c) (h : eqAV a c = some r) (q : Q (.bool r) s) :
    wpAny (model b.prog b.w) A (compareOp .Eq va vc) Q E s := by
  unfold eqAV at h
  split at h
  · rename_i e
    rw [Bool.and_eq_true] at e
    cases h
    obtain ⟨as, ra⟩ := reads_of hz 6 da e.1
    obtain ⟨cs, rc⟩ := reads_of hz 6 dc e.2
    exact eq_dataH ra rc (shaped_of e.1 (by decide)) (shaped_of e.2 (by decide)) hu (by rw [eqv_same 6 6 a c e.1 e.2]; exact q)
  · cases h
theorem ne_ok {r : Bool} {Q : Value → Shared → Prop} {E : Value → Shared → Prop} (hu : A.units + 64 < cLine) (hz : ∀ a o, Fz a = some o → s.heap.get? a = some o) (da : Den b Fz va a) (dc : Den b Fz vc c) (h : eqAV a c = some r) (q : Q (.bool (!r)) s) :
    wpAny (model b.prog b.w) A (compareOp .NotEq va vc) Q E s := by
  unfold eqAV at h
  split at h
  · rename_i e
    rw [Bool.and_eq_true] at e
    cases h
    obtain ⟨as, ra⟩ := reads_of hz 6 da e.1
    obtain ⟨cs, rc⟩ := reads_of hz 6 dc e.2
    exact ne_dataH ra rc (shaped_of e.1 (by decide)) (shaped_of e.2 (by decide)) hu (by rw [eqv_same 6 6 a c e.1 e.2]; exact q)
  · cases h
end
end Mini

namespace Mini
open PySem PySem.W PySem.Calls PyProof.Rows PyProof.V PySem.Spec

variable {b : Base}

theorem GPost.mono {s : Shared} {Fz : FzM} {r r' : LV} {v : Value} {s' : Shared} (g : GPost b s Fz r v s') (e : r = r') : GPost b s Fz r' v s' := e ▸ g

theorem GPost.newList {s : Shared} {Fz : FzM} {xs : List AV} {vs : List Value} {n : Nat} (hz : ∀ a o, Fz a = some o → s.heap.get? a = some o) (d : DenL b Fz vs xs) (tk : Nat) :
    GPost b s Fz (.mlist xs) (.ref s.heap.objs.size) { s with heap := s.heap.push (W.listOf vs.toArray n), toks := tk } := by
  refine ⟨⟨_, _, rfl⟩, fun a o e => Heap.get?_push_of_some _ e, Fz, [s.heap.objs.size], .refl _, fun a o e => ⟨Heap.get?_push_of_some _ (hz a o e), .inl e⟩, .mlist (Heap.get?_push_size _ rfl) d, fun a m => ?_⟩
  rw [List.mem_singleton.mp m]
  have fr : s.heap.get? s.heap.objs.size = none := by
    cases q : s.heap.get? s.heap.objs.size with
    | none => rfl
    | some o => exact absurd (Heap.lt_size q) (Nat.lt_irrefl _)
  refine ⟨fr, ?_⟩
  cases q : Fz s.heap.objs.size with
  | none => rfl
  | some o => rw [hz _ _ q] at fr; cases fr

theorem fresh_none (h : Heap) : h.get? h.objs.size = none := by
  cases q : h.get? h.objs.size with
  | none => rfl
  | some o => exact absurd (Heap.lt_size q) (Nat.lt_irrefl _)

theorem GPost.newFz {s : Shared} {Fz : FzM} {t : AV} {o : Obj} (hz : ∀ a o, Fz a = some o → s.heap.get? a = some o) (hf : o.isFreed = false) (tk : Nat)
    (d : ∀ Fz', FzLe Fz Fz' → Fz' s.heap.objs.size = some o → Den b Fz' (.ref s.heap.objs.size) t) :
    GPost b s Fz (.tree t) (.ref s.heap.objs.size) { s with heap := s.heap.push o, toks := tk } := by
  have fr := fresh_none s.heap
  have fz : Fz s.heap.objs.size = none := by
    cases q : Fz s.heap.objs.size with
    | none => rfl
    | some o => rw [hz _ _ q] at fr; cases fr
  have le : FzLe Fz (fun a => if a = s.heap.objs.size then some o else Fz a) := fun a o' e => by
    by_cases h : a = s.heap.objs.size
    · rw [h, fz] at e; cases e
    · show (if a = s.heap.objs.size then some o else Fz a) = _
      rw [if_neg h]; exact e
  refine ⟨⟨_, _, rfl⟩, fun a o e => Heap.get?_push_of_some _ e, _, [], le, fun a o' e => ?_, .tree (d _ le (if_pos rfl)), fun _ m => nomatch m⟩
  by_cases h : a = s.heap.objs.size
  · subst h
    have e : (if s.heap.objs.size = s.heap.objs.size then some o else Fz s.heap.objs.size) = some o' := e
    rw [if_pos rfl] at e; cases e
    exact ⟨Heap.get?_push_size _ hf, .inr fr⟩
  · have e : (if a = s.heap.objs.size then some o else Fz a) = some o' := e
    rw [if_neg h] at e
    exact ⟨Heap.get?_push_of_some _ (hz a o' e), .inl e⟩

theorem lim_line {n : Nat} (h : n ≤ lim) : n ≤ sizeLine := by rw [sizeLine_eq]; unfold lim at h; omega

section
variable {A : Around} {s : Shared} {Fz : FzM} {va vc : Value} {a c : AV} {r : LV}

theorem asInt_some {x : AV} {i : Int} (h : asInt x = some i) : x = .int i := by cases x <;> first | (cases h; rfl) | cases h
theorem asStr_some {x : AV} {i : Str} (h : asStr x = some i) : x = .str i := by cases x <;> first | (cases h; rfl) | cases h
theorem asList_some {x : AV} {i : List AV} (h : asList x = some i) : x = .list i := by cases x <;> first | (cases h; rfl) | cases h
theorem asDict_some {x : AV} {p : List Str × List AV} (h : asDict x = some p) : x = .dict p.1 p.2 := by cases x <;> first | (cases h; rfl) | cases h
theorem int2_some {α : Type} {f : Int → Int → Option α} {z : α} (h : int2 f a c = some z) : ∃ x y, a = .int x ∧ c = .int y ∧ f x y = some z := by
  obtain ⟨x, q, h⟩ := o1_some h
  obtain ⟨y, p, h⟩ := o1_some h
  exact ⟨x, y, asInt_some q, asInt_some p, h⟩
theorem Den.intV {i : Int} (d : Den b Fz va (.int i)) : ∃ t, va = .int i t := by cases d; exact ⟨_, rfl⟩
theorem Den.strV {i : Str} (d : Den b Fz va (.str i)) : ∃ t, va = .str i t := by cases d; exact ⟨_, rfl⟩
theorem Den.listV {xs : List AV} (d : Den b Fz va (.list xs)) : ∃ a vs n, va = .ref a ∧ Fz a = some (W.listOf vs.toArray n) ∧ DenL b Fz vs xs := by cases d with | list e r => exact ⟨_, _, _, rfl, e, r⟩

theorem addAV_ok (hz : ∀ a o, Fz a = some o → s.heap.get? a = some o) (da : Den b Fz va a) (dc : Den b Fz vc c) (h : addAV a c = some r) :
    wpAny (model b.prog b.w) A (binaryOp .Add va vc) (GPost b s Fz r) NoE s := by
  cases a with
  | int x =>
    obtain ⟨y, q, h⟩ := o1_some h
    cases h
    cases asInt_some q
    obtain ⟨_, rfl⟩ := da.intV
    obtain ⟨_, rfl⟩ := dc.intV
    exact add_int (GPost.pure ⟨_, rfl⟩ hz (.int _ _))
  | str x =>
    obtain ⟨y, q, h⟩ := o1_some h
    obtain ⟨p, h⟩ := if_some h
    cases h
    cases asStr_some q
    obtain ⟨_, rfl⟩ := da.strV
    obtain ⟨_, rfl⟩ := dc.strV
    exact add_str (fun t' tk => GPost.pure ⟨_, rfl⟩ hz (.str _ _)) (by rw [sizeLine_eq]; omega)
  | list xs =>
    obtain ⟨ys, q, h⟩ := o1_some h
    obtain ⟨p, h⟩ := if_some h
    cases h
    cases asList_some q
    obtain ⟨_, vs, n, rfl, e1, r1⟩ := da.listV
    obtain ⟨_, ws, k, rfl, e2, r2⟩ := dc.listV
    refine PySem.P.add_list (hz _ _ e1) (hz _ _ e2) ?_ ?_
    · rw [List.append_toArray]
      exact GPost.newList (n := 0) hz (r1.append r2) s.toks
    · have l1 := r1.length; have l2 := r2.length
      rw [List.size_toArray, List.size_toArray]; exact lim_line (by omega)
  | _ => cases h

theorem opBin_ok {op : Operator} (hz : ∀ a o, Fz a = some o → s.heap.get? a = some o) (da : Den b Fz va a) (dc : Den b Fz vc c) (h : opBin op a c = some r) :
    wpAny (model b.prog b.w) A (binaryOp op va vc) (GPost b s Fz r) NoE s := by
  have P : ∀ {i : Int}, GPost b s Fz (.tree (.int i)) (.int i s.toks) { s with toks := s.toks + 1 } := GPost.pure ⟨_, rfl⟩ hz (.int _ _)
  cases op with
  | Add => exact addAV_ok hz da dc h
  | Sub =>
    obtain ⟨x, y, rfl, rfl, h⟩ := int2_some h
    obtain ⟨_, rfl⟩ := da.intV
    obtain ⟨_, rfl⟩ := dc.intV
    cases h
    exact sub_int P
  | Mult =>
    obtain ⟨x, y, rfl, rfl, h⟩ := int2_some h
    obtain ⟨_, rfl⟩ := da.intV
    obtain ⟨_, rfl⟩ := dc.intV
    obtain ⟨q, h⟩ := if_some h; cases h
    exact mul_int P (IntMulOk.of_left (intBits_le_64 (by omega) (by omega)))
  | Mod =>
    obtain ⟨x, y, rfl, rfl, h⟩ := int2_some h
    obtain ⟨_, rfl⟩ := da.intV
    obtain ⟨_, rfl⟩ := dc.intV
    obtain ⟨q, h⟩ := if_some h; cases h
    refine mod_int' (by omega) ?_
    rw [Int.fmod_eq_emod_of_nonneg _ (by omega)]; exact P
  | FloorDiv =>
    obtain ⟨x, y, rfl, rfl, h⟩ := int2_some h
    obtain ⟨_, rfl⟩ := da.intV
    obtain ⟨_, rfl⟩ := dc.intV
    obtain ⟨q, h⟩ := if_some h; cases h
    refine floordiv_int (by omega) ?_ (.inl (PyProof.noPylong_small (by omega)))
    rw [Int.fdiv_eq_ediv_of_nonneg _ (by omega)]; exact P
  | _ => cases h

end
end Mini

namespace Mini
open PySem PySem.W PySem.Calls PyProof.Rows PyProof.V PySem.Spec

structure Cls (K : Frag) (C : Addr) (names : List Str) : Prop where
  dict : hasDictIn K C = true
  get : ∀ n ∈ names, plainGet K C n = true ∧ findIn K (.ref C) n = some none
  set : findIn K (.ref C) "__setattr__" = some (some (.builtin "object.__setattr__"))
  plain : plainOver K C = true
  taker : ∀ n ∈ names, takerIn K C n = some none
  makes : makesIn K C = true
  keep : keepIn K (.ref C) = true

structure BaseOk (b : Base) (K : Frag) : Prop where
  X : K.In b.base
  lim : b.base.NoLimit
  g : b.base.Ns mainGlobals b.mg
  bb : b.base.Ns builtinsNs b.mb
  V : Cls K b.CV ["kind", "items", "attrs", "shared", "loose"]
  N : Cls K b.CN ["kind", "attrs"]
  M : Cls K b.CM ["kind", "attrs"]
  isi : isIn K (.ref b.CV) b.CV = true
  gV : b.mg "Vector" = some (.ref b.CV)
  gN : b.mg "Null" = some (.ref b.CN)
  gM : b.mg "Missing" = some (.ref b.CM)
  bLen : b.mg "len" = none ∧ b.mb "len" = some (.builtin "len")
  bRange : b.mg "range" = none ∧ b.mb "range" = some (.type "range")
  bList : b.mg "list" = none ∧ b.mb "list" = some (.type "list")
  bStr : b.mg "str" = none ∧ b.mb "str" = some (.type "str")
  bIsi : b.mg "isinstance" = none ∧ b.mb "isinstance" = some (.builtin "isinstance")
  newV : ∀ (A : Around) (s : Shared) (k : Str) (tk : Tok) (vi : Value) (Q : Value → Shared → Prop), A.handled = none → A.depth < 950 → A.units < 9500 → (∀ a o, b.base.get? a = some o → s.heap.get? a = some o) → handedIn vi = true →
    (∀ h' tk' x d t0 t1 t2 t3 t4 n, (∀ a o, s.heap.get? a = some o → h'.get? a = some o) → s.heap.get? x = none → s.heap.get? d = none → x ≠ d → h'.get? x = some (instObj b.CV d) →
      h'.get? d = some (dictOf (vecEs b.w.params t0 t1 t2 t3 t4 (.str k tk) vi .none (.bool false) (.bool false)) n) → Q (.ref x) { s with heap := h', toks := tk' }) →
    wpAny (model b.prog b.w) A (call (.ref b.CV) [.str k tk, vi]) Q (fun _ _ => False) s
  newN : ∀ (A : Around) (s : Shared) (Q : Value → Shared → Prop), A.handled = none → A.depth < 950 → A.units < 9500 → (∀ a o, b.base.get? a = some o → s.heap.get? a = some o) →
    (∀ h' tk' x d t t0 t1 n, (∀ a o, s.heap.get? a = some o → h'.get? a = some o) → s.heap.get? x = none → s.heap.get? d = none → h'.get? x = some (instObj b.CN d) →
      h'.get? d = some (dictOf (twoEs b.w.params t0 t1 (.str "NULL" t) .none) n) → Q (.ref x) { s with heap := h', toks := tk' }) →
    wpAny (model b.prog b.w) A (call (.ref b.CN) []) Q (fun _ _ => False) s
  newM : ∀ (A : Around) (s : Shared) (Q : Value → Shared → Prop), A.handled = none → A.depth < 950 → A.units < 9500 → (∀ a o, b.base.get? a = some o → s.heap.get? a = some o) →
    (∀ h' tk' x d t t0 t1 n, (∀ a o, s.heap.get? a = some o → h'.get? a = some o) → s.heap.get? x = none → s.heap.get? d = none → h'.get? x = some (instObj b.CM d) →
      h'.get? d = some (dictOf (twoEs b.w.params t0 t1 (.str "missing" t) .none) n) → Q (.ref x) { s with heap := h', toks := tk' }) →
    wpAny (model b.prog b.w) A (call (.ref b.CM) []) Q (fun _ _ => False) s

variable {b : Base} {K : Frag}

theorem Den.handed {Fz : FzM} {v : Value} {x : AV} (d : Den b Fz v x) : handedIn v = true := by cases d <;> rfl

section
variable {A : Around} {s : Shared} {Fz : FzM} {va vc : Value} {a c : AV}

theorem valueAt_dict {ks : List (Str × Value)} {vs : List AV} {k : Str} {t : AV} (d : DenL b Fz (ks.map (·.2)) vs) (h : dictGet k (ks.map (·.1)) vs = some t) : ∃ v, valueAt ks k = some v ∧ Den b Fz v t := by
  induction ks generalizing vs with
  | nil => cases d; simp [dictGet] at h
  | cons p r ih =>
    obtain ⟨k', v⟩ := p
    cases d with
    | cons d1 d2 =>
      simp only [List.map_cons, dictGet] at h
      unfold valueAt
      by_cases e : k' = k
      · rw [if_pos e] at h; cases h
        exact ⟨v, by simp [List.find?_cons, e], d1⟩
      · rw [if_neg e] at h
        obtain ⟨u, hu, du⟩ := ih d2 h
        refine ⟨u, ?_, du⟩
        unfold valueAt at hu
        simp [List.find?_cons, e]; simpa using hu
theorem is_str (p : Program) (w : World) (x : Str) (t : Tok) : (PySem.strKind p w).is x (.str x t) = true := by simp [PySem.strKind, Value.isStrOf]
theorem valueAt_isSome {ks : List (Str × Value)} {k : Str} : (valueAt ks k).isSome = (ks.map (·.1)).contains k := by
  induction ks with
  | nil => rfl
  | cons p r ih =>
    obtain ⟨k', v⟩ := p
    unfold valueAt at ih ⊢
    by_cases e : k' = k
    · simp [List.find?_cons, e]
    · have e' : ¬ k = k' := fun h => e h.symm
      have e2 : (k == k') = false := by simpa using e'
      have e3 : decide (k' = k) = false := decide_eq_false e
      simp only [List.find?_cons, List.map_cons, List.contains_cons, e2, e3, Bool.false_or, Option.isSome_map] at ih ⊢
      exact ih

theorem isC_some {f : Bool → Bool} {k : Bool} (h : isC f a c = some k) : c = .none ∧ k = f (isNone a) := by
  cases c with
  | none => cases h; exact ⟨rfl, rfl⟩
  | _ => cases h
theorem inC_some {f : Bool → Bool} {k : Bool} (h : inC f a c = some k) : ∃ (x : Str) (p : List Str × List AV), a = .str x ∧ c = .dict p.1 p.2 ∧ f (p.1.contains x) = k := by
  obtain ⟨x, q, h⟩ := o1_some h
  obtain ⟨p, q2, h⟩ := o1_some h
  exact ⟨x, p, asStr_some q, asDict_some q2, Option.some.inj h⟩

theorem opCmp_ok {op : CmpOp} {k : Bool} (hu : A.units + 64 < cLine) (hz : ∀ a o, Fz a = some o → s.heap.get? a = some o) (da : Den b Fz va a) (dc : Den b Fz vc c) (h : opCmp op a c = some k) :
    wpAny (model b.prog b.w) A (compareOp op va vc) (fun v s' => v = .bool k ∧ ∃ tk, s' = { s with toks := tk }) NoE s := by
  cases op with
  | Is =>
    obtain ⟨rfl, rfl⟩ := isC_some (show isC (fun x => x) a c = some k from h)
    cases dc
    refine is_none ?_
    cases da <;> exact ⟨rfl, _, rfl⟩
  | IsNot =>
    obtain ⟨rfl, rfl⟩ := isC_some (show isC (fun x => !x) a c = some k from h)
    cases dc
    refine isNot_none ?_
    cases da <;> exact ⟨rfl, _, rfl⟩
  | Eq => exact eq_ok hu hz da dc h ⟨rfl, _, rfl⟩
  | NotEq =>
    have h : (eqAV a c).map (!·) = some k := h
    cases q : eqAV a c with
    | none => rw [q] at h; cases h
    | some r => rw [q] at h; cases h; exact ne_ok hu hz da dc q ⟨rfl, _, rfl⟩
  | Lt =>
    obtain ⟨x, y, rfl, rfl, h⟩ := int2_some (show int2 (fun x y => some (decide (x < y))) a c = some k from h)
    obtain ⟨_, rfl⟩ := da.intV
    obtain ⟨_, rfl⟩ := dc.intV
    cases h; exact lt_int ⟨rfl, _, rfl⟩
  | LtE =>
    obtain ⟨x, y, rfl, rfl, h⟩ := int2_some (show int2 (fun x y => some (decide (x ≤ y))) a c = some k from h)
    obtain ⟨_, rfl⟩ := da.intV
    obtain ⟨_, rfl⟩ := dc.intV
    cases h; exact le_int ⟨rfl, _, rfl⟩
  | Gt =>
    obtain ⟨x, y, rfl, rfl, h⟩ := int2_some (show int2 (fun x y => some (decide (y < x))) a c = some k from h)
    obtain ⟨_, rfl⟩ := da.intV
    obtain ⟨_, rfl⟩ := dc.intV
    cases h; exact gt_int ⟨rfl, _, rfl⟩
  | GtE =>
    obtain ⟨x, y, rfl, rfl, h⟩ := int2_some (show int2 (fun x y => some (decide (y ≤ x))) a c = some k from h)
    obtain ⟨_, rfl⟩ := da.intV
    obtain ⟨_, rfl⟩ := dc.intV
    cases h; exact ge_int ⟨rfl, _, rfl⟩
  | In =>
    obtain ⟨x, ⟨ks, vs⟩, rfl, rfl, rfl⟩ := inC_some (show inC (fun x => x) a c = some k from h)
    obtain ⟨_, rfl⟩ := da.strV
    cases dc with
    | dict e i q r =>
      refine wpAny_in_of (knd := PySem.strKind b.prog b.w) (is_str _ _ _ _) q (Heap.dictOf_iff.mpr ⟨_, hz _ _ e, i⟩).mapOf ?_
      rw [valueAt_isSome]; exact ⟨rfl, _, rfl⟩
  | NotIn =>
    obtain ⟨x, ⟨ks, vs⟩, rfl, rfl, rfl⟩ := inC_some (show inC (fun x => !x) a c = some k from h)
    obtain ⟨_, rfl⟩ := da.strV
    cases dc with
    | dict e i q r =>
      refine wpAny_notIn_of (knd := PySem.strKind b.prog b.w) (is_str _ _ _ _) q (Heap.dictOf_iff.mpr ⟨_, hz _ _ e, i⟩).mapOf ?_
      rw [valueAt_isSome]; exact ⟨rfl, _, rfl⟩

theorem seqIndex_at {i : Int} {n : Nat} (h0 : 0 ≤ i) (h : i.toNat < n) : seqIndex? i n = some i.toNat := by
  unfold seqIndex?
  have h1 : ¬ i < 0 := by omega
  have h2 : i < (n : Int) := by omega
  simp [h1, h0, h2]

theorem idx_ok {i : Int} (h : idx i = true) : 0 ≤ i ∧ i < 2 ^ 40 := by
  unfold idx at h
  simp only [Bool.and_eq_true, decide_eq_true_eq] at h
  obtain ⟨h1, h2⟩ := h
  refine ⟨h1, ?_⟩
  have : i.toNat < 2 ^ 40 := by
    by_cases h0 : i.toNat = 0
    · rw [h0]; decide
    · exact (Nat.log2_lt h0).mp h2
  omega

theorem onInt {f : Int → Option AV} {t : AV} (h : o1 (asInt c) f = some t) : ∃ i, c = .int i ∧ f i = some t := by
  obtain ⟨i, q, h⟩ := o1_some h
  exact ⟨i, asInt_some q, h⟩

theorem subAV_ok {value slice : Expr} {t : AV} {ops : List Value} (hz : ∀ a o, Fz a = some o → s.heap.get? a = some o) (da : Den b Fz va a) (dc : Den b Fz vc c) (h : subAV a c = some t)
    (hs : subscripted slice false va vc = operate ops (getItem va vc)) :
    wpAny (model b.prog b.w) A (subscriptTail value slice va vc) (fun v s' => Den b Fz v t ∧ ∃ tk, s' = { s with toks := tk }) NoE s := by
  cases a with
  | list xs =>
    obtain ⟨i, rfl, h⟩ := onInt h
    obtain ⟨q, h⟩ := if_some h
    replace q := idx_ok q
    obtain ⟨_, vs, n, rfl, e, r⟩ := da.listV
    obtain ⟨_, rfl⟩ := dc.intV
    obtain ⟨v, hv, dv⟩ := r.get h
    have hl : s.heap.IsList _ _ := ⟨_, hz _ _ e, rfl, _, rfl⟩
    exact tail_any hl.typeIs slot_list_getitem.lookup (wpAny_getItem_list hl q.1 (by omega) (by simpa using hv) ⟨dv, _, rfl⟩) hs
  | tup xs =>
    obtain ⟨i, rfl, h⟩ := onInt h
    obtain ⟨q, h⟩ := if_some h
    replace q := idx_ok q
    obtain ⟨_, rfl⟩ := dc.intV
    cases da with
    | tup e r =>
      obtain ⟨v, hv, dv⟩ := r.get h
      have hT : s.TypeIs (.ref _) "tuple" := ⟨_, hz _ _ e, rfl⟩
      have hlt : i.toNat < _ := (List.getElem?_eq_some_iff.mp hv).1
      refine tail_any hT F.slot_tuple_getitem.lookup (PyProof.Rows.getItem_tuple (j := i.toNat) ⟨_, hz _ _ e, rfl, _, rfl⟩ (by omega) (by omega) ?_ (by simpa using hv) ⟨dv, _, rfl⟩) hs
      exact seqIndex_at q.1 (by simpa using hlt)
  | str x =>
    obtain ⟨i, rfl, h⟩ := onInt h
    obtain ⟨_, rfl⟩ := da.strV
    obtain ⟨_, rfl⟩ := dc.intV
    obtain ⟨q, h⟩ := if_some h
    obtain ⟨c, hc, h⟩ := o1_some h
    cases h
    replace q := idx_ok q
    have hlt : i.toNat < _ := (Array.getElem?_eq_some_iff.mp hc).1
    refine tail_any (typeIs_str _ _ _) F.slot_str_getitem.lookup (PyProof.Rows.getItem_str (c := c) ?_ ?_ ⟨.str _ _, _, rfl⟩) hs
    · rw [Bool.or_eq_false_iff]; exact ⟨decide_eq_false (by omega), decide_eq_false (by omega)⟩
    · rw [seqIndex_at (n := x.length) q.1 hlt]; exact hc
  | dict ks vs =>
    obtain ⟨k, q, h⟩ := o1_some h
    cases asStr_some q
    obtain ⟨_, rfl⟩ := dc.strV
    cases da with
    | dict e i q r =>
      obtain ⟨v, hv, dv⟩ := valueAt_dict r h
      have hd : Heap.DictOf (PySem.strKind b.prog b.w) s.heap _ _ := Heap.dictOf_iff.mpr ⟨_, hz _ _ e, i⟩
      exact tail_any hd.typeIs slot_dict_getitem.lookup (wpAny_getItem_of (knd := PySem.strKind b.prog b.w) (is_str _ _ _ _) hd.mapOf hv ⟨dv, _, rfl⟩) hs
  | _ => cases h

end
end Mini

namespace Mini
open PySem PySem.W PySem.Calls PyProof.Rows PyProof.V PySem.Spec

variable {b : Base} {K : Frag}

section
variable {A : Around} {s : Shared} {Fz : FzM} {va vc : Value} {a c : AV}

theorem getL_vec0 (p : Params) (t0 t1 t2 t3 t4 : Tok) (vk vi va vs vl : Value) : getL "kind" (vecEs p t0 t1 t2 t3 t4 vk vi va vs vl) = some (some vk) := rfl
theorem getL_vec1 (p : Params) (t0 t1 t2 t3 t4 : Tok) (vk vi va vs vl : Value) : getL "items" (vecEs p t0 t1 t2 t3 t4 vk vi va vs vl) = some (some vi) := rfl
theorem getL_vec2 (p : Params) (t0 t1 t2 t3 t4 : Tok) (vk vi va vs vl : Value) : getL "attrs" (vecEs p t0 t1 t2 t3 t4 vk vi va vs vl) = some (some va) := rfl
theorem getL_two0 (p : Params) (t0 t1 : Tok) (vk va : Value) : getL "kind" (twoEs p t0 t1 vk va) = some (some vk) := rfl
theorem getL_two1 (p : Params) (t0 t1 : Tok) (vk va : Value) : getL "attrs" (twoEs p t0 t1 vk va) = some (some va) := rfl

theorem getAttr_own {C x d : Addr} {ns : List Str} {es : List DictEntry} {n : Nat} {name : Str} {v : Value} {expr : Bool} {Q E : Value → Shared → Prop} (X : K.In s.heap) (c : Cls K C ns) (hm : name ∈ ns)
    (h1 : s.heap.get? x = some (instObj C d)) (h2 : s.heap.get? d = some (dictOf es n)) (hl : getL name es = some (some v)) (hv : handedIn v = true) (q : Q v { s with toks := s.toks + 1 }) :
    wpAny (model b.prog b.w) A (getAttr (.ref x) name expr) Q E s := by
  obtain ⟨g1, g2⟩ := c.get _ hm
  exact get_value X (ox := instObj C d) (od := some (dictOf es n)) ⟨h1, rfl, rfl, h2⟩ (plainGet_of g1).1 (findObj_own c.dict g2 rfl hl) hv q

theorem attrAV_ok {t : AV} {name : Str} {expr : Bool} (B : BaseOk b K) (X : K.In s.heap) (hz : ∀ a o, Fz a = some o → s.heap.get? a = some o) (da : Den b Fz va a) (h : attrAV name a = some t) :
    wpAny (model b.prog b.w) A (getAttr va name expr) (fun v s' => Den b Fz v t ∧ ∃ tk, s' = { s with toks := tk }) NoE s := by
  cases da with
  | vec e1 e2 r1 r2 =>
    rcases if_some3 h with ⟨rfl, h⟩ | ⟨_, h⟩
    · cases h; exact getAttr_own X B.V (by simp) (hz _ _ e1) (hz _ _ e2) (getL_vec0 ..) rfl ⟨.str _ _, _, rfl⟩
    · rcases if_some3 h with ⟨rfl, h⟩ | ⟨_, h⟩
      · cases h; exact getAttr_own X B.V (by simp) (hz _ _ e1) (hz _ _ e2) (getL_vec1 ..) r1.handed ⟨r1, _, rfl⟩
      · obtain ⟨rfl, h⟩ := if_some h; cases h
        exact getAttr_own X B.V (by simp) (hz _ _ e1) (hz _ _ e2) (getL_vec2 ..) r2.handed ⟨r2, _, rfl⟩
  | null e1 e2 =>
    rcases if_some3 h with ⟨rfl, h⟩ | ⟨_, h⟩
    · cases h; exact getAttr_own X B.N (by simp) (hz _ _ e1) (hz _ _ e2) (getL_two0 ..) rfl ⟨.str _ _, _, rfl⟩
    · obtain ⟨rfl, h⟩ := if_some h; cases h
      exact getAttr_own X B.N (by simp) (hz _ _ e1) (hz _ _ e2) (getL_two1 ..) rfl ⟨.none, _, rfl⟩
  | miss e1 e2 =>
    rcases if_some3 h with ⟨rfl, h⟩ | ⟨_, h⟩
    · cases h; exact getAttr_own X B.M (by simp) (hz _ _ e1) (hz _ _ e2) (getL_two0 ..) rfl ⟨.str _ _, _, rfl⟩
    · obtain ⟨rfl, h⟩ := if_some h; cases h
      exact getAttr_own X B.M (by simp) (hz _ _ e1) (hz _ _ e2) (getL_two1 ..) rfl ⟨.none, _, rfl⟩
  | _ => cases h

theorem len_ok {n : Nat} (hz : ∀ a o, Fz a = some o → s.heap.get? a = some o) (da : Den b Fz va a) (h : lenAV a = some n) (hn : n ≤ lim) :
    wpAny (model b.prog b.w) A (call (.builtin "len") [va]) (GPost b s Fz (.tree (.int n))) NoE s := by
  have hn' : (n : Int) < 2 ^ 63 := by unfold lim at hn; omega
  have P : ∀ {t tk}, GPost b s Fz (.tree (.int n)) (.int n t) { s with toks := tk } := GPost.pure ⟨_, rfl⟩ hz (.int _ _)
  cases a with
  | list xs =>
    cases h
    cases da with
    | list e r =>
      have l := r.length
      have hl : s.heap.IsList _ _ := ⟨_, hz _ _ e, rfl, _, rfl⟩
      refine PyProof.Rows.len_list hl (by simp only [List.size_toArray]; omega) ?_
      simp only [List.size_toArray, l]; exact P
  | dict ks vs =>
    cases h
    cases da with
    | dict e i q r =>
      have hd : Heap.DictOf (PySem.strKind b.prog b.w) s.heap _ _ := Heap.dictOf_iff.mpr ⟨_, hz _ _ e, i⟩
      refine call_len_dict q hd (by simpa using hn') ?_
      simp only [List.length_map] at P ⊢; exact P
  | _ => cases h
end
end Mini

namespace Mini
open PySem PySem.W PySem.Calls PyProof.Rows PyProof.V PySem.Spec

variable {b : Base} {K : Frag}

theorem GPost.gotList {s : Shared} {Fz : FzM} {xs : List AV} {vs : List Value} {n : Nat} {h' : Heap} (hz : ∀ a o, Fz a = some o → s.heap.get? a = some o) (hk : ∀ a o, s.heap.get? a = some o → h'.get? a = some o)
    (hl : h'.get? s.heap.objs.size = some (W.listOf vs.toArray n)) (d : DenL b Fz vs xs) (tk : Nat) : GPost b s Fz (.mlist xs) (.ref s.heap.objs.size) { s with heap := h', toks := tk } := by
  refine ⟨⟨_, _, rfl⟩, hk, Fz, [s.heap.objs.size], .refl _, fun a o e => ⟨hk _ _ (hz a o e), .inl e⟩, .mlist hl d, fun a m => ?_⟩
  rw [List.mem_singleton.mp m]
  refine ⟨fresh_none _, ?_⟩
  cases q : Fz s.heap.objs.size with
  | none => rfl
  | some o => have := hz _ _ q; rw [fresh_none] at this; cases this

theorem rngSize1 (a c : Int) : Builtin.Range.rangeSize a c 1 = ((c - a).toNat : Int) := by
  unfold Builtin.Range.rangeSize
  simp only [show (1 : Int) > 0 from by decide, if_true]
  split <;> omega
theorem rngSizeN (a c : Int) : Builtin.Range.rangeSize a c (-1) = ((a - c).toNat : Int) := by
  unfold Builtin.Range.rangeSize
  simp only [show ¬ ((-1 : Int) > 0) from by decide, if_false, Int.neg_neg, Int.ediv_one]
  split <;> omega
theorem rngSmall {a c z : Int} (ha : a.natAbs ≤ lim) (hc : c.natAbs ≤ lim) (hz : z = 1 ∨ z = -1) : Builtin.Range.small a c z = true := by
  unfold lim at ha hc
  unfold Builtin.Range.small Builtin.Range.rangeFitsLong
  rcases hz with rfl | rfl
  · rw [rngSize1]
    simp only [Bool.and_eq_true, Bool.or_eq_true, decide_eq_true_eq]
    refine ⟨⟨⟨⟨⟨?_, ?_⟩, ?_, ?_⟩, ?_⟩, ?_, ?_⟩, ?_⟩ <;> first | omega | skip
    right
    simp only [show (1 : Int) > 0 from by decide, if_true, Bool.and_eq_true, decide_eq_true_eq]
    constructor <;> omega
  · rw [rngSizeN]
    simp only [Bool.and_eq_true, Bool.or_eq_true, decide_eq_true_eq]
    refine ⟨⟨⟨⟨⟨?_, ?_⟩, ?_, ?_⟩, ?_⟩, ?_, ?_⟩, ?_⟩ <;> first | omega | skip
    right
    simp only [show ¬ ((-1 : Int) > 0) from by decide, if_false, Bool.and_eq_true, decide_eq_true_eq]
    constructor <;> omega

theorem denInts {Fz : FzM} (f : Nat → Int) : ∀ (vs : List Value) (l : List Nat), vs.length = l.length → (∀ (j : Nat) (v : Value) (k : Nat), vs[j]? = some v → l[j]? = some k → ∃ t, v = Value.int (f k) t) → DenL b Fz vs (l.map fun i => AV.int (f i))
  | [], [], _, _ => .nil
  | v :: vs, k :: l, hn, h => by
    obtain ⟨t, rfl⟩ := h 0 v k rfl rfl
    exact .cons (.int _ _) (denInts f vs l (by simpa using hn) fun j v k e1 e2 => h (j + 1) v k (by simpa using e1) (by simpa using e2))

theorem denStrs {Fz : FzM} {p : Program} {w : World} : ∀ (vs : List Value) (kvs : List (Str × Value)), vs.length = kvs.length → (∀ (j : Nat) (v : Value), vs[j]? = some v → ∃ (k : Str) (x : Value), kvs[j]? = some (k, x) ∧ (PySem.strKind p w).is k v = true) → DenL b Fz vs ((kvs.map (·.1)).map AV.str)
  | [], [], _, _ => .nil
  | v :: vs, (k, x) :: l, hn, h => by
    obtain ⟨k', x', e, q⟩ := h 0 v rfl
    simp at e
    obtain ⟨rfl, rfl⟩ := e
    obtain ⟨t, rfl⟩ := Value.isStrOf_shape q
    exact .cons (.str _ _) (denStrs vs l (by simpa using hn) fun j v e1 => by
      obtain ⟨k', x', e, q⟩ := h (j + 1) v (by simpa using e1)
      exact ⟨k', x', by simpa using e, q⟩)

def bfn (f : Str) : Value := if f = "len" then .builtin "len" else if f = "range" then .type "range" else if f = "list" then .type "list" else .type "str"

theorem digit_ok {i : Int} (h : 0 ≤ i ∧ i < 10) : (toString i : String) = (digit i : Str) := by
  obtain ⟨h0, h1⟩ := h
  have : i = 0 ∨ i = 1 ∨ i = 2 ∨ i = 3 ∨ i = 4 ∨ i = 5 ∨ i = 6 ∨ i = 7 ∨ i = 8 ∨ i = 9 := by omega
  rcases this with rfl | rfl | rfl | rfl | rfl | rfl | rfl | rfl | rfl | rfl <;> decide +kernel

section
variable {A : Around} {s : Shared} {Fz : FzM} {us : List Value} {vs : List AV} {r : LV}

theorem rngDen {a c z : Int} {xs : List AV} {acc : Array Value} {n : Nat} (h : rngList a c z = some xs) (hn : Builtin.Range.rangeSize a c z = (n : Int)) (hi : ItemsOf (fun i v => ∃ t, v = .int (a + i * z) t) acc n) :
    DenL b Fz acc.toList xs := by
  unfold rngList at h
  split at h
  · split at h
    · rename_i hz
      cases h; subst hz
      rw [rngSize1] at hn
      refine denInts (fun i => a + (i : Int)) acc.toList _ (by rw [Array.length_toList, hi.1, List.length_range]; omega) fun j v k e1 e2 => ?_
      obtain ⟨t, rfl⟩ := hi.2 j v (by simpa using e1)
      rw [List.getElem?_eq_some_iff] at e2
      obtain ⟨hj, e2⟩ := e2
      rw [List.getElem_range] at e2
      subst e2
      exact ⟨t, by rw [Int.mul_one]⟩
    · split at h
      · rename_i hz
        cases h; subst hz
        rw [rngSizeN] at hn
        refine denInts (fun i => a - (i : Int)) acc.toList _ (by rw [Array.length_toList, hi.1, List.length_range]; omega) fun j v k e1 e2 => ?_
        obtain ⟨t, rfl⟩ := hi.2 j v (by simpa using e1)
        rw [List.getElem?_eq_some_iff] at e2
        obtain ⟨hj, e2⟩ := e2
        rw [List.getElem_range] at e2
        subst e2
        exact ⟨t, by congr 1; omega⟩
      · cases h
  · cases h

theorem rngOk {a c z : Int} {xs : List AV} (h : rngList a c z = some xs) : Builtin.Range.small a c z = true ∧ Builtin.Range.rangeSize a c z = (xs.length : Int) ∧ xs.length ≤ 2 ^ 24 := by
  unfold rngList at h
  split at h
  · rename_i q
    split at h
    · rename_i hz
      cases h; subst hz
      refine ⟨rngSmall q.1 q.2 (.inl rfl), by rw [rngSize1]; simp, ?_⟩
      have := q.1; have := q.2; unfold lim at *
      simp only [List.length_map, List.length_range]; omega
    · split at h
      · rename_i hz
        cases h; subst hz
        refine ⟨rngSmall q.1 q.2 (.inr rfl), by rw [rngSizeN]; simp, ?_⟩
        have := q.1; have := q.2; unfold lim at *
        simp only [List.length_map, List.length_range]; omega
      · cases h
  · cases h

theorem one_some {α : Type} {f : AV → Option α} {z : α} (d : DenL b Fz us vs) (h : one f vs = some z) : ∃ u v, us = [u] ∧ Den b Fz u v ∧ f v = some z := by
  cases d with
  | nil => cases h
  | cons d1 d2 =>
    cases d2 with
    | nil => exact ⟨_, _, rfl, d1, h⟩
    | cons _ _ => cases h

theorem bLen_ok (hz : ∀ a o, Fz a = some o → s.heap.get? a = some o) (d : DenL b Fz us vs) (h : bLen vs = some r) : wpAny (model b.prog b.w) A (call (.builtin "len") us) (GPost b s Fz r) NoE s := by
  obtain ⟨u, v, rfl, d, h⟩ := one_some d h
  obtain ⟨n, q, h⟩ := o1_some h
  obtain ⟨p, h⟩ := if_some h
  cases h
  exact len_ok hz d q p
theorem bRange_ok (hz : ∀ a o, Fz a = some o → s.heap.get? a = some o) (d : DenL b Fz us vs) (h : bRange vs = some r) : wpAny (model b.prog b.w) A (call (.type "range") us) (GPost b s Fz r) NoE s := by
  cases d with
  | nil => cases h
  | cons d1 d =>
    cases d with
    | nil =>
      obtain ⟨i, q, h⟩ := o1_some (show o1 _ _ = _ from h)
      cases h
      cases asInt_some q
      obtain ⟨_, rfl⟩ := d1.intV
      exact call_range_1 (GPost.newFz hz rfl _ fun Fz' _ e => .rng e)
    | cons d2 d =>
      cases d with
      | nil =>
        obtain ⟨x, y, rfl, rfl, h⟩ := int2_some h
        cases h
        obtain ⟨_, rfl⟩ := d1.intV
        obtain ⟨_, rfl⟩ := d2.intV
        exact call_range_2 (GPost.newFz hz rfl _ fun Fz' _ e => .rng e)
      | cons d3 d =>
        cases d with
        | nil =>
          obtain ⟨x, y, rfl, rfl, h⟩ := int2_some h
          obtain ⟨i, q, h⟩ := o1_some (show o1 _ _ = _ from h)
          obtain ⟨rfl, h⟩ := if_some h
          cases h
          cases asInt_some q
          obtain ⟨_, rfl⟩ := d1.intV
          obtain ⟨_, rfl⟩ := d2.intV
          obtain ⟨_, rfl⟩ := d3.intV
          exact call_range_3 (by decide) (GPost.newFz hz rfl _ fun Fz' _ e => .rng e) (.inl (PyProof.noPylong_small (by decide)))
        | cons _ _ => cases h
theorem bList_ok (hh : A.handled = none) (hz : ∀ a o, Fz a = some o → s.heap.get? a = some o) (d : DenL b Fz us vs) (h : bList vs = some r) : wpAny (model b.prog b.w) A (call (.type "list") us) (GPost b s Fz r) NoE s := by
  obtain ⟨u, v, rfl, d, h⟩ := one_some d h
  cases d with
  | list e dd =>
    obtain ⟨q, h⟩ := if_some h; cases h
    have l := dd.length
    refine call_list_seq _ (.inl rfl) (hz _ _ e) rfl rfl (fun h' c' hk hl => GPost.gotList (n := c') hz hk hl dd _) ?_
    rw [List.size_toArray]; exact lim_line (by omega)
  | rng e =>
    obtain ⟨xs, q, h⟩ := o1_some (show o1 _ _ = _ from h)
    cases h
    obtain ⟨o1, o2, o3⟩ := rngOk q
    refine call_list_range hh (hz _ _ e) o1 o2 o3 fun h' tk acc' c' hk hl hi => ?_
    exact GPost.gotList (vs := acc'.toList) (n := c') hz hk (by simpa using hl) (rngDen q o2 hi) _
  | dict e i lo d =>
    obtain ⟨q, h⟩ := if_some h; cases h
    obtain ⟨ep, hd⟩ := (Heap.dictOf_iff.mpr ⟨_, hz _ _ e, i⟩ : Heap.DictOf (PySem.strKind b.prog b.w) s.heap _ _).dictAt
    refine kdl_call (kdl_dict lo) hh hd (lim_line (by simpa using q)) fun h' tk acc' c' hk hl hi => ?_
    refine GPost.gotList (vs := acc'.toList) (n := c') hz hk (by simpa using hl) (denStrs (p := b.prog) (w := b.w) _ _ (by rw [Array.length_toList, hi.1]) fun j v e => ?_) _
    exact hi.2 j v (by simpa using e)
  | _ => cases h
theorem bStr_ok (hz : ∀ a o, Fz a = some o → s.heap.get? a = some o) (d : DenL b Fz us vs) (h : bStr vs = some r) : wpAny (model b.prog b.w) A (call (.type "str") us) (GPost b s Fz r) NoE s := by
  obtain ⟨u, v, rfl, d, h⟩ := one_some d h
  obtain ⟨i, q, h⟩ := o1_some h
  cases asInt_some q
  obtain ⟨q, h⟩ := if_some h
  cases h
  obtain ⟨_, rfl⟩ := d.intV
  refine PySem.P.str_of_int ?_ ?_
  · have : i.natAbs < 10 := by omega
    have h2 : i.natAbs.log2 ≤ i.natAbs := Nat.log2_le_self _
    omega
  · rw [digit_ok q]
    exact GPost.pure ⟨_, rfl⟩ hz (.str _ _)

theorem builtin_ok {f : Str} (hh : A.handled = none) (hz : ∀ a o, Fz a = some o → s.heap.get? a = some o) (d : DenL b Fz us vs) (hf : f = "len" ∨ f = "range" ∨ f = "list" ∨ f = "str") (h : builtin1 f vs = some r) :
    wpAny (model b.prog b.w) A (call (bfn f) us) (GPost b s Fz r) NoE s := by
  rcases hf with rfl | rfl | rfl | rfl
  · exact bLen_ok hz d h
  · exact bRange_ok hz d h
  · exact bList_ok hh hz d h
  · exact bStr_ok hz d h

end
end Mini

namespace Mini
open PySem PySem.W PySem.Calls PyProof.Rows PyProof.V PySem.Spec

variable {b : Base} {K : Frag}

def EOk (b : Base) (n : Nat) (ev : Names → Expr → St → Option (LV × St)) : Prop :=
  ∀ (A : Around) (env : Env) (ns : Names) (e : Expr) (σ : St) (r : LV) (σ' : St) (bd : Str → Option Value) (fp : Str → List Addr) (Fz : FzM) (s : Shared),
    Room A n → EnvOk b env ns → ev ns e σ = some (r, σ') → Rel b Fz env ns σ bd fp s.heap → wpAny (model b.prog b.w) A (eval e env) (EPost b env ns bd s Fz fp r σ') NoE s

def SPost (b : Base) (env : Env) (ns : Names) (bd : Str → Option Value) (s : Shared) (Fz : FzM) (fp : Str → List Addr) (σ' : St) (s' : Shared) : Prop :=
  ∃ Fz' fp', Stp (inFp fp) s Fz s' Fz' ∧ (∀ a, inFp fp' a → inFp fp a ∨ s.heap.get? a = none) ∧ Rel b Fz' env ns σ' bd fp' s'.heap

def APost (b : Base) (env : Env) (ns : Names) (bd : Str → Option Value) (s : Shared) (Fz : FzM) (fp : Str → List Addr) (ts : List AV) (σ' : St) (vs : List Value) (s' : Shared) : Prop :=
  ∃ Fz' fp', Stp (inFp fp) s Fz s' Fz' ∧ (∀ a, inFp fp' a → inFp fp a ∨ s.heap.get? a = none) ∧ Rel b Fz' env ns σ' bd fp' s'.heap ∧ DenL b Fz' vs ts

def TOk (b : Base) (n : Nat) (ev : Names → Expr → St → Option (Bool × St)) : Prop :=
  ∀ (A : Around) (env : Env) (ns : Names) (e : Expr) (σ : St) (r : Bool) (σ' : St) (bd : Str → Option Value) (fp : Str → List Addr) (Fz : FzM) (s : Shared),
    Room A n → EnvOk b env ns → ev ns e σ = some (r, σ') → Rel b Fz env ns σ bd fp s.heap → wpAny (model b.prog b.w) A (isTrue e env (eval e env)) (fun k s' => k = r ∧ SPost b env ns bd s Fz fp σ' s') NoE s

def FlowOk (b : Base) (env : Env) (ns : Names) (s : Shared) (fp : Str → List Addr) (Fz' : FzM) (fp' : Str → List Addr) (bd' : Str → Option Value) (σ' : St) (h' : Heap) : Flw → Flow → Prop
  | .next, f => f = .next
  | .brk, f => f = .brk
  | .ret lv, f => ∃ v fv, f = .ret v ∧ Own b Fz' h' v lv fv ∧ ∀ a ∈ fv, Fz' a = none ∧ ¬ slotAt env ns a ∧ (∀ x, a ∉ fp' x) ∧ (s.heap.get? a = none ∨ inFp fp a)
  | .retv x lv, f => ∃ v, f = .ret v ∧ bd' x = some v ∧ σ'.lookup x = some lv

def BPost (b : Base) (env : Env) (ns : Names) (bd : Str → Option Value) (s : Shared) (Fz : FzM) (fp : Str → List Addr) (fx : Str) (fl : Flw) (σ' : St) (f : Flow) (s' : Shared) : Prop :=
  ∃ Fz' fp' bd', Stp (fun a => inFp fp a ∨ slotAt env ns a) s Fz s' Fz' ∧ (∀ a, inFp fp' a → inFp fp a ∨ s.heap.get? a = none) ∧ Rel b Fz' env ns σ' bd' fp' s'.heap ∧ bd' fx = bd fx ∧
    FlowOk b env ns s fp Fz' fp' bd' σ' s'.heap fl f

def BOk (b : Base) (n : Nat) (ev : Names → Str → List Stmt → St → Option (Flw × St)) : Prop :=
  ∀ (A : Around) (env : Env) (ns : Names) (fx : Str) (ss : List Stmt) (σ : St) (fl : Flw) (σ' : St) (bd : Str → Option Value) (fp : Str → List Addr) (Fz : FzM) (s : Shared),
    Room A n → EnvOk b env ns → ev ns fx ss σ = some (fl, σ') → Rel b Fz env ns σ bd fp s.heap → wpAny (model b.prog b.w) A (execs ss env) (BPost b env ns bd s Fz fp fx fl σ') NoE s

def CRet (b : Base) (s : Shared) (fp0 : List Addr) (u0 : Value) (Fz' : FzM) (fo : List Addr) (h' : Heap) (v : Value) : Flw → Prop
  | .ret lv => ∃ fv, Own b Fz' h' v lv fv ∧ ∀ a ∈ fv, Fz' a = none ∧ a ∉ fo ∧ (s.heap.get? a = none ∨ a ∈ fp0)
  | .retv _ _ => v = u0
  | .next => v = .none
  | .brk => False

def CPost (b : Base) (s : Shared) (Fz : FzM) (fp0 : List Addr) (u0 : Value) (fl : Flw) (o : LV) (v : Value) (s' : Shared) : Prop :=
  ∃ Fz' fo, Stp (· ∈ fp0) s Fz s' Fz' ∧ (∀ a o, Fz' a = some o → s'.heap.get? a = some o) ∧ Own b Fz' s'.heap u0 o fo ∧ (∀ a ∈ fo, Fz' a = none ∧ (a ∈ fp0 ∨ s.heap.get? a = none)) ∧ CRet b s fp0 u0 Fz' fo s'.heap v fl

def FunAt (b : Base) (f : Str) (a : Addr) : Prop := b.mg f = some (.ref a) ∧ ∃ o fd, b.base.get? a = some o ∧ o.data = .func fd

def COk (b : Base) (n : Nat) (ev : Str → List LV → Option (Flw × LV)) : Prop :=
  ∀ (f : Str) (args : List LV) (fl : Flw) (o : LV), ev f args = some (fl, o) → ∃ a, FunAt b f a ∧
    (∀ (A : Around) (lv0 : LV) (ts : List AV) (u0 : Value) (us : List Value) (fp0 : List Addr) (Fz : FzM) (s : Shared), args = lv0 :: ts.map .tree → Room A n →
      (∀ a o, Fz a = some o → s.heap.get? a = some o) → (∀ a o, b.base.get? a = some o → Fz a = some o) → Own b Fz s.heap u0 lv0 fp0 → (∀ a ∈ fp0, Fz a = none) → DenL b Fz us ts →
      wpAny (model b.prog b.w) A (call (.ref a) (u0 :: us)) (CPost b s Fz fp0 u0 fl o) NoE s) ∧
    (∀ (A : Around) (Fz : FzM) (s : Shared), args = [] → Room A n → (∀ a o, Fz a = some o → s.heap.get? a = some o) → (∀ a o, b.base.get? a = some o → Fz a = some o) →
      wpAny (model b.prog b.w) A (call (.ref a) []) (CPost b s Fz [] .none fl o) NoE s)

structure Sound (b : Base) (n : Nat) (I : Interp) : Prop where
  E : EOk b n I.E
  T : TOk b n I.T
  B : BOk b n I.B
  C : COk b n I.C

section
variable {env : Env} {ns : Names} {bd : Str → Option Value} {s s₁ s₂ : Shared} {Fz Fz₁ : FzM} {fp fp₁ : Str → List Addr} {r : LV} {t : AV} {σ σ' σ₁ : St} {v : Value} {A : Around} {n : Nat} {I : Interp} {e : Expr}

theorem NoE.any {α : Type} {M : Model} {t : Sem α} {Q : α → Shared → Prop} (h : wpAny M A t Q NoE s) {E : Value → Shared → Prop} : wpAny M A t Q E s := wpAny_mono h (fun _ _ x => x) fun _ _ x => x.elim

theorem evE_ok (hE : EOk b n I.E) (rm : Room A n) (ok : EnvOk b env ns) (h : evE I ns e σ = some (t, σ')) (R : Rel b Fz env ns σ bd fp s.heap) :
    plainE e = true ∧ wpAny (model b.prog b.w) A (eval e env) (TPost b env ns bd s Fz fp t σ') NoE s := by
  obtain ⟨hp, h⟩ := if_some h
  obtain ⟨r, σ₁, q, h⟩ := o2_some h
  cases h
  exact ⟨hp, wpAny_mono (hE A env ns e σ r _ bd fp Fz s rm ok q R) (fun v s' h => h.toT) fun _ _ x => x⟩

theorem plain_star {rest : List Expr} (h : plainE e = true) : starEach (e :: rest) env = (false, eval e env) :: starEach rest env := by
  cases e <;> first | rfl | (simp [plainE] at h)
theorem plain_set (h : plainE e = true) (x : Value) : foldedSetIterable e env x = pure x := by
  cases e <;> first | rfl | (simp [plainE] at h)
theorem plain_marks {op : CmpOp} (h : plainE e = true) : behindInMarks op e = false := by
  cases e <;> first | rfl | (simp [plainE] at h)

theorem APost.after {ts : List AV} {vs : List Value} (S : Stp (inFp fp) s Fz s₁ Fz₁) (nw : ∀ a, inFp fp₁ a → inFp fp a ∨ s.heap.get? a = none) (h : APost b env ns bd s₁ Fz₁ fp₁ ts σ' vs s₂) : APost b env ns bd s Fz fp ts σ' vs s₂ := by
  obtain ⟨Fz', fp', S', n', R, D⟩ := h
  refine ⟨Fz', fp', S.trans S' nw, fun a m => ?_, R, D⟩
  rcases n' a m with q | q
  · exact nw a q
  · by_cases p : inFp fp a
    · exact .inl p
    · cases z : s.heap.get? a with
      | none => exact .inr rfl
      | some o => rw [S.keep a o p z] at q; cases q

theorem SPost.after (S : Stp (inFp fp) s Fz s₁ Fz₁) (nw : ∀ a, inFp fp₁ a → inFp fp a ∨ s.heap.get? a = none) (h : SPost b env ns bd s₁ Fz₁ fp₁ σ' s₂) : SPost b env ns bd s Fz fp σ' s₂ := by
  obtain ⟨Fz', fp', S', n', R⟩ := h
  obtain ⟨F2, f2, a1, a2, a3, _⟩ := APost.after (ts := []) (vs := []) S nw ⟨Fz', fp', S', n', R, .nil⟩
  exact ⟨F2, f2, a1, a2, a3⟩

theorem args_ok {pos : Pos} (hE : EOk b n I.E) (rm : Room A n) (ok : EnvOk b env ns) : ∀ (es : List Expr) {σ σ' : St} {ts : List AV} {fp : Str → List Addr} {Fz : FzM} {s : Shared}, evArgs I ns es σ = some (ts, σ') → Rel b Fz env ns σ bd fp s.heap →
    wpAny (model b.prog b.w) A (spliced (backTo pos (starEach es env))) (APost b env ns bd s Fz fp ts σ') NoE s
  | [], σ, σ', ts, fp, Fz, s, h, R => by
    cases h
    exact spliced_none ⟨Fz, fp, .refl _ _ _, fun a m => .inl m, R, .nil⟩
  | e :: es, σ, σ', ts, fp, Fz, s, h, R => by
    obtain ⟨t, σ₁, q, h⟩ := o2_some h
    obtain ⟨us, σ₂, q2, h⟩ := o2_some h
    cases h
    obtain ⟨hp, w1⟩ := evE_ok hE rm ok q R
    refine spliced_more (wpAny_mono w1 (fun v s₁ h₁ => ?_) fun _ _ x => x) (plain_star hp)
    obtain ⟨Fz₁, fp₁, S, nw, R₁, d⟩ := h₁
    refine wpAny_mono (args_ok hE rm ok es q2 R₁) (fun vs s₂ h₂ => ?_) fun _ _ x => x
    refine APost.after S nw ?_
    obtain ⟨Fz', fp', S', n', R', D⟩ := h₂
    exact ⟨Fz', fp', S', n', R', .cons (d.mono S'.le) D⟩

theorem evE_plain (h : evE I ns e σ = some (t, σ')) : plainE e = true := (if_some h).1
theorem args_noStar {pos : Pos} : ∀ (es : List Expr) {σ σ' : St} {ts : List AV}, evArgs I ns es σ = some (ts, σ') → (backTo pos (starEach es env)).any (·.1) = false ∧ ts.length = es.length
  | [], σ, σ', ts, h => by cases h; exact ⟨rfl, rfl⟩
  | e :: es, σ, σ', ts, h => by
    obtain ⟨t, σ₁, q, h⟩ := o2_some h
    obtain ⟨us, σ₂, q2, h⟩ := o2_some h
    cases h
    obtain ⟨h1, h2⟩ := args_noStar (pos := pos) es q2
    refine ⟨?_, congrArg (· + 1) h2⟩
    rw [plain_star (evE_plain q)]
    unfold backTo at h1 ⊢
    simpa using h1
end
end Mini

namespace Mini
open PySem PySem.W PySem.Calls PyProof.Rows PyProof.V PySem.Spec

variable {b : Base} {K : Frag}

theorem lookup_put {σ : St} {x y : Str} {v : LV} : (put σ x v).lookup y = if y = x then some v else σ.lookup y := by
  induction σ with
  | nil =>
    unfold put
    by_cases h : y = x
    · simp [h]
    · have : (y == x) = false := by simpa using h
      simp [List.lookup_cons, this, h]
  | cons p r ih =>
    obtain ⟨z, u⟩ := p
    unfold put
    by_cases hz : z = x
    · rw [if_pos hz]
      by_cases h : y = x
      · subst h; simp
      · have : (y == x) = false := by simpa using h
        have h2 : (y == z) = false := by rw [hz]; exact this
        simp [List.lookup_cons, this, h, h2]
    · rw [if_neg hz]
      by_cases h : y = z
      · subst h
        have : ¬ y = x := hz
        simp [this]
      · have h2 : (y == z) = false := by simpa using h
        simp only [List.lookup_cons, h2]; exact ih

theorem Own.den {Fz : FzM} {h : Heap} {v : Value} {t : AV} {f : List Addr} (O : Own b Fz h v (.tree t) f) : Den b Fz v t ∧ f = [] := by cases O with | tree d => exact ⟨d, rfl⟩
theorem Own.isList {Fz : FzM} {h : Heap} {v : Value} {xs : List AV} {f : List Addr} (O : Own b Fz h v (.mlist xs) f) : ∃ a vs n, v = .ref a ∧ f = [a] ∧ h.get? a = some (W.listOf vs.toArray n) ∧ DenL b Fz vs xs := by
  cases O with | mlist e r => exact ⟨_, _, _, rfl, rfl, e, r⟩

section
variable {env : Env} {ns : Names} {bd : Str → Option Value} {s s₁ s₂ : Shared} {Fz Fz₁ : FzM} {fp fp₁ : Str → List Addr} {r : LV} {t : AV} {σ σ' σ₁ : St} {v : Value} {A : Around} {n : Nat} {I : Interp} {e : Expr} {x : Str} {h h' : Heap}

theorem Rel.set {Fz' : FzM} {lv : LV} {u : Value} {f : List Addr} (R : Rel b Fz env ns σ bd fp h) (hx : bd x = some u) (le : FzLe Fz Fz') (hz : ∀ a o, Fz' a = some o → h'.get? a = some o)
    (hk : ∀ a o, a ∉ fp x → h.get? a = some o → h'.get? a = some o) (hn : ∀ a o, Fz' a = some o → Fz a = some o ∨ h.get? a = none ∨ a ∈ fp x)
    (O : Own b Fz' h' u lv f) (hf : ∀ a ∈ f, Fz' a = none ∧ (a ∈ fp x ∨ h.get? a = none)) :
    Rel b Fz' env ns (put σ x lv) bd (fun y => if y = x then f else fp y) h' := by
  have slotLive : ∀ a, slotAt env ns a → ∃ o, h.get? a = some o := by
    rintro a (rfl | ⟨y, hy, hc⟩)
    · obtain ⟨m, ⟨o, _, _, ho, _⟩, _⟩ := R.frame.loc
      exact ⟨o, ho⟩
    · obtain ⟨c, hl, o, ho, _⟩ := R.frame.cell y hy
      rw [hc] at hl; cases hl
      exact ⟨o, ho⟩
  have slotOff : ∀ a, slotAt env ns a → a ∉ fp x := fun a ha m => (R.fpFree x a m).2 ha
  have freeOf : ∀ a o', h.get? a = some o' → Fz a = none → a ∉ fp x → Fz' a = none := fun a o' live e m => by
    cases q : Fz' a with
    | none => rfl
    | some o =>
      rcases hn a o q with z | z | z
      · rw [e] at z; cases z
      · rw [live] at z; cases z
      · exact absurd z m
  refine ⟨hz, fun a o e => le _ _ (R.base a o e), R.frame.keep fun a o hs e => hk a o (slotOff a hs) e, fun a hs => ?_, fun y w e => ?_, fun y e => ?_, fun y a m => ?_, fun y z a hyz m1 m2 => ?_⟩
  · obtain ⟨o', ho'⟩ := slotLive a hs
    exact freeOf a o' ho' (R.slotFree a hs) (slotOff a hs)
  · rw [lookup_put] at e
    by_cases q : y = x
    · rw [if_pos q] at e; cases e
      subst q
      exact ⟨u, hx, by rw [if_pos rfl]; exact O⟩
    · rw [if_neg q] at e
      obtain ⟨u', hu', O'⟩ := R.var y w e
      rw [if_neg q]
      exact ⟨u', hu', O'.keep le fun a o m ee => hk a o (fun m' => R.apart y x a q m m') ee⟩
  · rw [lookup_put] at e
    by_cases q : y = x
    · rw [if_pos q] at e; cases e
    · rw [if_neg q] at e ⊢; exact R.fpOff y e
  · by_cases q : y = x
    · simp only [q, if_true] at m
      obtain ⟨h1, h2⟩ := hf a m
      refine ⟨h1, fun hs => ?_⟩
      rcases h2 with h2 | h2
      · exact slotOff a hs h2
      · obtain ⟨o', ho'⟩ := slotLive a hs
        rw [h2] at ho'; cases ho'
    · simp only [q, if_false] at m
      obtain ⟨o', ho'⟩ := R.fpLive m
      exact ⟨freeOf a o' ho' (R.fpFree y a m).1 (fun m' => R.apart y x a q m m'), (R.fpFree y a m).2⟩
  · by_cases q : y = x
    · subst q
      simp only [if_true] at m1
      simp only [Ne.symm hyz, if_false] at m2
      rcases (hf a m1).2 with h2 | h2
      · exact R.apart y z a hyz h2 m2
      · obtain ⟨o', ho'⟩ := R.fpLive m2
        rw [h2] at ho'; cases ho'
    · simp only [q, if_false] at m1
      by_cases q2 : z = x
      · subst q2
        simp only [if_true] at m2
        rcases (hf a m2).2 with h2 | h2
        · exact R.apart y z a hyz m1 h2
        · obtain ⟨o', ho'⟩ := R.fpLive m1
          rw [h2] at ho'; cases ho'
      · simp only [q2, if_false] at m2
        exact R.apart y z a hyz m1 m2

theorem Rel.freeze {lv : LV} {u : Value} (R : Rel b Fz env ns σ bd fp h) (hx : bd x = some u) (O : Own b Fz h u lv (fp x)) :
    Rel b (fzAdd Fz h (fp x)) env ns (put σ x (.tree lv.frz)) bd (fun y => if y = x then [] else fp y) h ∧ Den b (fzAdd Fz h (fp x)) u lv.frz := by
  have hf : ∀ a ∈ fp x, Fz a = none := fun a m => (R.fpFree x a m).1
  have d := O.freeze hf
  refine ⟨R.set hx (fzAdd_le hf) (fun a o e => ?_) (fun a o _ e => e) (fun a o e => ?_) (.tree d) (fun _ m => nomatch m), d⟩
  · unfold fzAdd at e
    split at e
    · exact e
    · exact R.fz a o e
  · unfold fzAdd at e
    split at e
    · rename_i m; exact .inr (.inr m)
    · exact .inl e

theorem isVar_or (h : isVar ns x = true) : (ns.lookup x = some .local ∨ ns.lookup x = some .cell) ∧ (x == ("__debug__" : Str)) = false := by
  unfold isVar at h
  split at h
  · rename_i q; exact ⟨.inl q, by simpa [notDebug] using h⟩
  · rename_i q; exact ⟨.inr q, by simpa [notDebug] using h⟩
  · cases h

theorem name_ok {lv : LV} (ok : EnvOk b env ns) (R : Rel b Fz env ns σ bd fp s.heap) (g : getV ns σ x = some lv) :
    ∃ u, bd x = some u ∧ Own b Fz s.heap u lv (fp x) ∧ σ.lookup x = some lv ∧ ∀ (pos : Pos) (Q E : Value → Shared → Prop), Q u s → wpAny (model b.prog b.w) A (eval (.Name x pos) env) Q E s := by
  unfold getV at g
  split at g
  · rename_i hv
    obtain ⟨hk, hd⟩ := isVar_or hv
    obtain ⟨u, hu, O⟩ := R.var x lv g
    refine ⟨u, hu, O, g, fun pos Q E q => wpAny_Name ?_ hd⟩
    rcases hk with hk | hk
    · obtain ⟨m, hm, e⟩ := R.frame.loc
      exact wpAny_loadName_local ok.kind (by unfold Env.kindOf; rw [ok.names]; exact hk) hm ((e x hk).trans hu) q
    · obtain ⟨c, hl, hc⟩ := R.frame.cell x hk
      exact wpAny_loadName_cell ok.kind (by unfold Env.kindOf; rw [ok.names]; exact hk) hl (hu ▸ hc) q
  · cases g

theorem EPost.name {lv : LV} {u : Value} (R : Rel b Fz env ns σ bd fp s.heap) (hx : bd x = some u) (O : Own b Fz s.heap u lv (fp x)) :
    EPost b env ns bd s Fz fp (.tree lv.frz) (put σ x (.tree lv.frz)) u s := by
  obtain ⟨R', d⟩ := R.freeze hx O
  refine ⟨_, _, [], ⟨⟨_, _, rfl⟩, fun _ _ _ e => e, fzAdd_le fun a m => (R.fpFree x a m).1, fun a o e => ?_⟩, fun a m => ?_, R', .tree d, fun _ m => nomatch m⟩
  · unfold fzAdd at e
    split at e
    · rename_i m; exact .inr (.inr ⟨x, m⟩)
    · exact .inl e
  · obtain ⟨y, m⟩ := m
    by_cases q : y = x
    · simp [q] at m
    · simp only [q, if_false] at m; exact .inl ⟨y, m⟩

theorem step_Name {pos : Pos} (ok : EnvOk b env ns) (R : Rel b Fz env ns σ bd fp s.heap) (h : nameE ns x σ = some (r, σ')) :
    wpAny (model b.prog b.w) A (eval (.Name x pos) env) (EPost b env ns bd s Fz fp r σ') NoE s := by
  obtain ⟨lv, g, h⟩ := o1_some h
  obtain ⟨u, hu, O, _, k⟩ := name_ok (A := A) ok R g
  refine k pos _ _ ?_
  cases lv with
  | tree t => cases h; exact EPost.ofG R (GPost.pure ⟨_, rfl⟩ R.fz O.den.1)
  | _ => cases h; exact .name R hu O
end
end Mini

namespace Mini
open PySem PySem.W PySem.Calls PyProof.Rows PyProof.V PySem.Spec

variable {b : Base} {K : Frag}

section
variable {env : Env} {ns : Names} {bd : Str → Option Value} {s s₁ s₂ : Shared} {Fz Fz₁ : FzM} {fp fp₁ : Str → List Addr} {r : LV} {t : AV} {σ σ' σ₁ : St} {v : Value} {A : Around} {n : Nat} {I : Interp} {e : Expr} {x : Str} {h h' : Heap}

theorem Room.cl (rm : Room A n) : A.units + 64 < cLine := by have := rm.units; have := cLine_is; omega

theorem step_const {c : Const} {k : Nat} {pos : Pos} (R : Rel b Fz env ns σ bd fp s.heap) (h : constE c σ = some (r, σ')) :
    wpAny (model b.prog b.w) A (eval (.Constant c k pos) env) (EPost b env ns bd s Fz fp r σ') NoE s := by
  cases c with
  | none => cases h; exact PyProof.Rows.Constant_none (EPost.ofG R (GPost.pure ⟨_, rfl⟩ R.fz .none))
  | bool x => cases h; exact PyProof.Rows.Constant_bool (EPost.ofG R (GPost.pure ⟨_, rfl⟩ R.fz (.bool _)))
  | int x => cases h; exact wpAny_Constant_int (EPost.ofG R (GPost.pure ⟨_, rfl⟩ R.fz (.int _ _)))
  | str x => cases h; exact Constant_str (EPost.ofG R (GPost.pure ⟨_, rfl⟩ R.fz (.str _ _)))
  | _ => cases h

theorem step_BinOp {l q : Expr} {op : Operator} {pos : Pos} (hE : EOk b n I.E) (rm : Room A n) (ok : EnvOk b env ns) (R : Rel b Fz env ns σ bd fp s.heap) (h : binE I ns l op q σ = some (r, σ')) :
    wpAny (model b.prog b.w) A (eval (.BinOp l op q pos) env) (EPost b env ns bd s Fz fp r σ') NoE s := by
  obtain ⟨a, σ₁, q1, h⟩ := o2_some h
  obtain ⟨c, σ₂, q2, h⟩ := o2_some h
  obtain ⟨res, q3, h⟩ := o1_some h
  cases h
  refine wpAny_BinOp (wpAny_mono (evE_ok hE rm ok q1 R).2 (fun va s₁ h₁ => ?_) fun _ _ x => x)
  obtain ⟨Fz₁, fp₁, S₁, n₁, R₁, d₁⟩ := h₁
  refine wpAny_mono (evE_ok hE rm ok q2 R₁).2 (fun vc s₂ h₂ => ?_) fun _ _ x => x
  obtain ⟨Fz₂, fp₂, S₂, n₂, R₂, d₂⟩ := h₂
  exact wpAny_mono (opBin_ok R₂.fz (d₁.mono S₂.le) d₂ q3) (fun v s₃ h₃ => EPost.after S₁ n₁ (EPost.after S₂ n₂ (EPost.ofG R₂ h₃))) fun _ _ x => x

theorem step_USub {q : Expr} {pos : Pos} (hE : EOk b n I.E) (rm : Room A n) (ok : EnvOk b env ns) (R : Rel b Fz env ns σ bd fp s.heap) (h : negE I ns q σ = some (r, σ')) :
    wpAny (model b.prog b.w) A (eval (.UnaryOp .USub q pos) env) (EPost b env ns bd s Fz fp r σ') NoE s := by
  obtain ⟨a, σ₁, q1, h⟩ := o2_some h
  obtain ⟨i, q2, h⟩ := o1_some h
  cases h
  cases asInt_some q2
  refine UnaryOp_ (wpAny_mono (evE_ok hE rm ok q1 R).2 (fun va s₁ h₁ => ?_) fun _ _ x => x)
  obtain ⟨Fz₁, fp₁, S₁, n₁, R₁, d₁⟩ := h₁
  obtain ⟨_, rfl⟩ := d₁.intV
  exact neg_int (EPost.after S₁ n₁ (EPost.ofG R₁ (GPost.pure ⟨_, rfl⟩ R₁.fz (.int _ _))))

theorem step_IfExp {c p q : Expr} {pos : Pos} (hE : EOk b n I.E) (hT : TOk b n I.T) (rm : Room A n) (ok : EnvOk b env ns) (R : Rel b Fz env ns σ bd fp s.heap) (h : ifE I ns c p q σ = some (r, σ')) :
    wpAny (model b.prog b.w) A (eval (.IfExp c p q pos) env) (EPost b env ns bd s Fz fp r σ') NoE s := by
  obtain ⟨k, σ₁, q1, h⟩ := o2_some h
  refine IfExp_ (wpAny_mono (hT A env ns c σ k σ₁ bd fp Fz s rm ok q1 R) (fun k s₁ h₁ => ?_) fun _ _ x => x)
  obtain ⟨rfl, Fz₁, fp₁, S₁, n₁, R₁⟩ := h₁
  cases k with
  | true => exact wpAny_mono (hE A env ns p σ₁ r σ' bd fp₁ Fz₁ s₁ rm ok h R₁) (fun v s₂ h₂ => EPost.after S₁ n₁ h₂) fun _ _ x => x
  | false => exact wpAny_mono (hE A env ns q σ₁ r σ' bd fp₁ Fz₁ s₁ rm ok h R₁) (fun v s₂ h₂ => EPost.after S₁ n₁ h₂) fun _ _ x => x

theorem step_List {es : List Expr} {pos : Pos} (hE : EOk b n I.E) (rm : Room A n) (ok : EnvOk b env ns) (R : Rel b Fz env ns σ bd fp s.heap) (h : listE I ns es σ = some (r, σ')) :
    wpAny (model b.prog b.w) A (eval (.List es pos) env) (EPost b env ns bd s Fz fp r σ') NoE s := by
  obtain ⟨ts, σ₁, q1, h⟩ := o2_some h
  obtain ⟨hl, h⟩ := if_some h
  cases h
  refine List_ (wpAny_mono (args_ok hE rm ok es q1 R) (fun vs s₁ h₁ => ?_) fun _ _ x => x)
  obtain ⟨Fz₁, fp₁, S₁, n₁, R₁, d₁⟩ := h₁
  have l := d₁.length
  exact wpAny_newObj_type (EPost.after S₁ n₁ (EPost.ofG R₁ (GPost.newList R₁.fz d₁ _))) (by show vs.toArray.size ≤ sizeLine; rw [List.size_toArray]; exact lim_line (by omega))

theorem step_Tuple {es : List Expr} {k : Nat} {pos : Pos} (hE : EOk b n I.E) (rm : Room A n) (ok : EnvOk b env ns) (R : Rel b Fz env ns σ bd fp s.heap) (h : tupE I ns es σ = some (r, σ')) :
    wpAny (model b.prog b.w) A (eval (.Tuple es k pos) env) (EPost b env ns bd s Fz fp r σ') NoE s := by
  obtain ⟨ts, σ₁, q1, h⟩ := o2_some h
  obtain ⟨hl, h⟩ := if_some h
  cases h
  refine Tuple_ (wpAny_mono (args_ok hE rm ok es q1 R) (fun vs s₁ h₁ => ?_) fun _ _ x => x)
  obtain ⟨Fz₁, fp₁, S₁, n₁, R₁, d₁⟩ := h₁
  have l := d₁.length
  exact wpAny_newObj_type (EPost.after S₁ n₁ (EPost.ofG R₁ (GPost.newFz R₁.fz rfl _ fun Fz' le e => .tup (n := 0) e (d₁.mono le)))) (by show vs.toArray.size ≤ sizeLine; rw [List.size_toArray]; exact lim_line (by omega))

theorem asBool_some {k : Bool} (h : asBool r = some k) : r = .tree (.bool k) := by
  cases r with
  | tree t => cases t <;> first | (cases h; rfl) | cases h
  | _ => cases h

theorem step_And {p q : Expr} {pos : Pos} (hE : EOk b n I.E) (rm : Room A n) (ok : EnvOk b env ns) (R : Rel b Fz env ns σ bd fp s.heap) (h : andE I ns p q σ = some (r, σ')) :
    wpAny (model b.prog b.w) A (eval (.BoolOp .And [p, q] pos) env) (EPost b env ns bd s Fz fp r σ') NoE s := by
  obtain ⟨v, σ₁, q1, h⟩ := o2_some h
  obtain ⟨k, q2, h⟩ := o1_some h
  cases asBool_some q2
  show wpAny _ _ (boolOp pos .And [eval p env, eval q env]) _ _ _
  unfold boolOp
  refine wpAny_bind (wpAny_mono (hE A env ns p σ _ σ₁ bd fp Fz s rm ok q1 R) (fun va s₁ h₁ => ?_) fun _ _ x => x)
  obtain ⟨Fz₁, fp₁, fv, S₁, n₁, R₁, O, _⟩ := h₁
  obtain ⟨d, rfl⟩ := O.den
  cases d
  refine wpAny_bind (wpAny_standAt (wpAny_bind (wpAny_holding (wpAny_truthy_bool ?_))))
  cases k with
  | true => exact wpAny_mono (hE A env ns q σ₁ r σ' bd fp₁ Fz₁ s₁ rm ok h R₁) (fun v s₂ h₂ => EPost.after S₁ n₁ h₂) fun _ _ x => x
  | false =>
    cases h
    exact wpAny_pure (EPost.after S₁ n₁ (EPost.ofG R₁ (GPost.pure ⟨_, rfl⟩ R₁.fz (.bool _))))
end
end Mini

namespace Mini
open PySem PySem.W PySem.Calls PyProof.Rows PyProof.V PySem.Spec

variable {b : Base} {K : Frag}

section
variable {env : Env} {ns : Names} {bd : Str → Option Value} {s s₁ s₂ : Shared} {Fz Fz₁ : FzM} {fp fp₁ : Str → List Addr} {r : LV} {t : AV} {σ σ' σ₁ : St} {v : Value} {A : Around} {n : Nat} {I : Interp} {e : Expr} {x : Str} {h h' : Heap}

theorem Rel.le (R : Rel b Fz env ns σ bd fp h) : FzLe Fz (fun a => h.get? a) := R.fz

theorem nameOf_some {y : Str} (h : nameOf e = some y) : ∃ pos, e = .Name y pos := by cases e <;> first | (cases h; exact ⟨_, rfl⟩) | cases h
theorem ownNamed_some {lv : LV} (g : ownNamed ns σ e = some (x, lv)) : (∃ pos, e = .Name x pos) ∧ getV ns σ x = some lv ∧ owned lv = true := by
  obtain ⟨y, q1, g⟩ := o1_some g
  obtain ⟨v, q2, g⟩ := o1_some g
  cases o : owned v with
  | true => rw [o] at g; cases g; exact ⟨nameOf_some q1, q2, o⟩
  | false => rw [o] at g; cases g
theorem ownList_some {xs : List AV} (h : ownList r = some xs) : r = .mlist xs := by cases r <;> first | (cases h; rfl) | cases h
theorem ownL_some {xs : List AV} (g : ownL ns σ e = some (x, xs)) : (∃ pos, e = .Name x pos) ∧ getV ns σ x = some (.mlist xs) := by
  obtain ⟨y, q1, g⟩ := o1_some g
  obtain ⟨v, q2, g⟩ := o1_some g
  obtain ⟨ys, q3, g⟩ := o1_some g
  cases g
  cases ownList_some q3
  exact ⟨nameOf_some q1, q2⟩

theorem cmp_general {l q : Expr} {op : CmpOp} {pos : Pos} {a c : AV} {σ₂ : St} {k : Bool} (hE : EOk b n I.E) (rm : Room A n) (ok : EnvOk b env ns) (R : Rel b Fz env ns σ bd fp s.heap)
    (q1 : evE I ns l σ = some (a, σ₁)) (q2 : evE I ns q σ₁ = some (c, σ₂)) (q3 : opCmp op a c = some k) :
    wpAny (model b.prog b.w) A (eval (.Compare l [op] [q] pos) env) (EPost b env ns bd s Fz fp (.tree (.bool k)) σ₂) NoE s := by
  obtain ⟨_, w1⟩ := evE_ok hE rm ok q1 R
  have hp : plainE q = true := evE_plain q2
  refine wpAny_Compare1 (wpAny_mono w1 (fun va s₁ h₁ => ?_) fun _ _ x => x) (plain_marks hp)
  obtain ⟨Fz₁, fp₁, S₁, n₁, R₁, d₁⟩ := h₁
  obtain ⟨_, w2⟩ := evE_ok hE rm ok q2 R₁
  refine wpAny_mono w2 (fun vc s₂ h₂ => ?_) fun _ _ x => x
  obtain ⟨Fz₂, fp₂, S₂, n₂, R₂, d₂⟩ := h₂
  refine wpAny_mono (opCmp_ok rm.cl R₂.fz (d₁.mono S₂.le) d₂ q3) (fun v s₃ h₃ => ?_) fun _ _ x => x
  obtain ⟨rfl, tk, rfl⟩ := h₃
  exact EPost.after S₁ n₁ (EPost.after S₂ n₂ (EPost.ofG R₂ (GPost.pure ⟨_, rfl⟩ R₂.fz (.bool _))))

theorem cmp_nil {xs : List AV} {p p' pos : Pos} (rm : Room A n) (ok : EnvOk b env ns) (R : Rel b Fz env ns σ bd fp s.heap) (g : getV ns σ x = some (.mlist xs)) (he : AV.eqable 6 (.list xs) = true) :
    wpAny (model b.prog b.w) A (eval (.Compare (.Name x p) [.Eq] [.List [] p'] pos) env) (EPost b env ns bd s Fz fp (.tree (.bool (AV.sameL xs []))) σ) NoE s := by
  obtain ⟨u, hu, O, _, k⟩ := name_ok (A := A) ok R g
  refine wpAny_Compare1 (k p _ _ (List_ (spliced_none (wpAny_newObj_type ?_)))) rfl
  obtain ⟨a, vs, m, rfl, hf, ha, d⟩ := O.isList
  have G : GPost b s Fz (.mlist []) (.ref s.heap.objs.size) { s with heap := s.heap.push (W.listOf ([] : List Value).toArray 0) } := GPost.newList R.fz .nil _
  have keep : ∀ a o, s.heap.get? a = some o → (s.heap.push (W.listOf ([] : List Value).toArray 0)).get? a = some o := fun a o e => Heap.get?_push_of_some _ e
  refine eq_ok (Fz := fun a => (s.heap.push (W.listOf ([] : List Value).toArray 0)).get? a) (a := .list xs) (c := .list []) rm.cl (fun _ _ e => e) (.list (keep _ _ ha) (d.mono fun a o e => keep _ _ (R.fz a o e)))
    (.list (vs := []) (Heap.get?_push_size _ rfl) .nil) (r := AV.sameL xs []) ?_ ?_
  · unfold eqAV
    have : (AV.eqable 6 (.list xs) && AV.eqable 6 (.list [])) = true := by rw [he]; rfl
    rw [if_pos this]; simp only [AV.same]
  · exact EPost.ofG R ⟨⟨_, _, rfl⟩, keep, Fz, [], .refl _, fun a o e => ⟨keep _ _ (R.fz a o e), .inl e⟩, .tree (.bool _), fun _ m => nomatch m⟩

theorem cmpG_ok {l q : Expr} {op : CmpOp} {pos : Pos} (hE : EOk b n I.E) (rm : Room A n) (ok : EnvOk b env ns) (R : Rel b Fz env ns σ bd fp s.heap) (h : cmpG I ns l op q σ = some (r, σ')) :
    wpAny (model b.prog b.w) A (eval (.Compare l [op] [q] pos) env) (EPost b env ns bd s Fz fp r σ') NoE s := by
  obtain ⟨a, σ₁, q1, h⟩ := o2_some h
  obtain ⟨c, σ₂, q2, h⟩ := o2_some h
  obtain ⟨k, q3, h⟩ := o1_some h
  cases h
  exact cmp_general hE rm ok R q1 q2 q3

theorem step_Compare {l q : Expr} {op : CmpOp} {pos : Pos} (hE : EOk b n I.E) (rm : Room A n) (ok : EnvOk b env ns) (R : Rel b Fz env ns σ bd fp s.heap) (h : cmp1 I ns l op q σ = some (r, σ')) :
    wpAny (model b.prog b.w) A (eval (.Compare l [op] [q] pos) env) (EPost b env ns bd s Fz fp r σ') NoE s := by
  unfold cmp1 at h
  cases c : isEq op && isListD q with
  | false => rw [c] at h; exact cmpG_ok hE rm ok R h
  | true =>
    rw [c] at h
    cases q0 : ownL ns σ l with
    | none => rw [q0] at h; exact cmpG_ok hE rm ok R h
    | some p =>
      rw [q0] at h
      obtain ⟨he, h⟩ := if_some h
      cases h
      obtain ⟨⟨_, rfl⟩, g⟩ := ownL_some q0
      rw [Bool.and_eq_true] at c
      obtain ⟨c1, c2⟩ := c
      cases op <;> first | cases c1 | skip
      cases q <;> first | cases c2 | skip
      rename_i es _
      cases es with
      | nil => exact cmp_nil rm ok R g he
      | cons _ _ => cases c2

theorem sys_ne (B : BaseOk b K) (R : Rel b Fz env ns σ bd fp h) : (h.objs.size == sysModules) = false := by
  have l := modules_low B.lim
  obtain ⟨mc, ⟨o, es, ep, ho, _⟩, _⟩ := B.lim
  have : sysModules < h.objs.size := by
    have lim : h.NoLimit := B.lim.keeps fun a o e => R.fz _ _ (R.base _ _ e)
    exact modules_low lim
  exact beq_eq_false_iff_ne.mpr (Nat.ne_of_gt this)

theorem isDict_new : (({ cls := .type "dict", data := .dict #[] } : Obj)).IsDictOf (PySem.strKind b.prog b.w) [] := by
  obtain ⟨o, ho, hd⟩ := Heap.dictOf_iff.mp (Heap.DictOf.new (knd := PySem.strKind b.prog b.w) ({} : Heap))
  rw [Heap.get?_push_size _ rfl] at ho
  exact (Option.some.inj ho) ▸ hd

theorem step_Dict0 {pos : Pos} (B : BaseOk b K) (R : Rel b Fz env ns σ bd fp s.heap) :
    wpAny (model b.prog b.w) A (eval (.Dict [] [] pos) env) (EPost b env ns bd s Fz fp (.mdict [] []) σ) NoE s := by
  have fr := fresh_none s.heap
  have fz : Fz s.heap.objs.size = none := by
    cases q : Fz s.heap.objs.size with
    | none => rfl
    | some o => have := R.fz _ _ q; rw [fr] at this; cases this
  refine wpAny_Dict_empty (EPost.ofG R ⟨⟨_, _, rfl⟩, fun a o e => Heap.get?_push_of_some _ e, Fz, [s.heap.objs.size], .refl _, fun a o e => ⟨Heap.get?_push_of_some _ (R.fz a o e), .inl e⟩, ?_, fun a m => ?_⟩)
  · exact Own.mdict (kvs := []) (Heap.get?_push_size _ rfl) isDict_new (sys_ne B R) .nil
  · rw [List.mem_singleton.mp m]; exact ⟨fr, fz⟩

theorem step_Dict1 {k : Str} {kd : Nat} {p pos : Pos} {e : Expr} (B : BaseOk b K) (hE : EOk b n I.E) (rm : Room A n) (ok : EnvOk b env ns) (R : Rel b Fz env ns σ bd fp s.heap) (h : dict1 I ns k e σ = some (r, σ')) :
    wpAny (model b.prog b.w) A (eval (.Dict [some (.Constant (.str k) kd p)] [e] pos) env) (EPost b env ns bd s Fz fp r σ') NoE s := by
  obtain ⟨t, σ₁, q1, h⟩ := o2_some h
  cases h
  have fr := fresh_none s.heap
  have keep : ∀ a o, s.heap.get? a = some o → (s.heap.push { cls := .type "dict", data := .dict #[] }).get? a = some o := fun a o e => Heap.get?_push_of_some _ e
  have R0 : Rel b Fz env ns σ bd fp (s.heap.push { cls := .type "dict", data := .dict #[] }) := R.grow keep (.refl _) (fun a o e => keep _ _ (R.fz a o e)) fun a o e => .inl e
  refine wpAny_Dict_walk (knd := PySem.strKind b.prog b.w) rfl rfl (by simp) (by simp) (pairTrees_cons_walk (Constant_str ?_))
  have R0' : Rel b Fz env ns σ bd fp ({ s with heap := s.heap.push { cls := .type "dict", data := .dict #[] }, toks := s.toks + 1 } : Shared).heap := R0
  obtain ⟨_, w1⟩ := evE_ok hE rm ok q1 R0'
  refine wpAny_mono w1 (fun va s₁ h₁ => pairTrees_nil_walk ?_) fun _ _ x => x
  obtain ⟨Fz₁, fp₁, S₁, n₁, R₁, d₁⟩ := h₁
  have nfp : ¬ inFp fp s.heap.objs.size := fun ⟨y, m⟩ => by
    obtain ⟨o, ho⟩ := R.fpLive m
    rw [fr] at ho; cases ho
  have at1 : s₁.heap.get? s.heap.objs.size = some { cls := .type "dict", data := .dict #[] } := S₁.keep _ _ nfp (Heap.get?_push_size _ rfl)
  have slotNe : ¬ slotAt env ns s.heap.objs.size := by
    rintro (q | ⟨y, hy, hc⟩)
    · obtain ⟨m', ⟨o, _, _, ho, _⟩, _⟩ := R.frame.loc
      rw [← q, fr] at ho; cases ho
    · obtain ⟨c, hl, o, ho, _⟩ := R.frame.cell y hy
      rw [hc] at hl; cases hl
      rw [fr] at ho; cases ho
  have nz0 : Fz s.heap.objs.size = none := by
    cases q : Fz s.heap.objs.size with
    | none => rfl
    | some o => have := R.fz _ _ q; rw [fr] at this; cases this
  have live0 : (s.heap.push { cls := .type "dict", data := .dict #[] }).get? s.heap.objs.size = some { cls := .type "dict", data := .dict #[] } := Heap.get?_push_size _ rfl
  have nz1 : Fz₁ s.heap.objs.size = none := by
    cases q : Fz₁ s.heap.objs.size with
    | none => rfl
    | some o =>
      rcases S₁.new _ _ q with z | z | z
      · rw [nz0] at z; cases z
      · rw [live0] at z; cases z
      · exact absurd z nfp
  have nfp1 : ∀ y, s.heap.objs.size ∉ fp₁ y := fun y m => by
    rcases n₁ _ ⟨y, m⟩ with z | z
    · exact nfp z
    · rw [live0] at z; cases z
  refine ⟨[(k, va)], ⟨is_str _ _ _ _, rfl, trivial⟩, Heap.dictOf_iff.mpr ⟨_, at1, isDict_new⟩, fun h' hd hs => ?_⟩
  obtain ⟨o, ho, hi⟩ := Heap.dictOf_iff.mp hd
  have keep1 : ∀ a o, a ≠ s.heap.objs.size → s₁.heap.get? a = some o → h'.get? a = some o := fun a o ne e => (hs.2 a ne).trans e
  refine ⟨Fz₁, fp₁, [s.heap.objs.size], ⟨?_, fun a o np e => ?_, S₁.le, fun a o e => ?_⟩, fun a m => ?_, ?_, ?_, fun a m => ?_⟩
  · obtain ⟨hh, tk, e⟩ := S₁.same
    exact ⟨h', _, by rw [e]⟩
  · exact keep1 a o (Nat.ne_of_lt (Heap.lt_size e)) (S₁.keep a o np (keep _ _ e))
  · rcases S₁.new a o e with z | z | z
    · exact .inl z
    · right; left
      cases q : s.heap.get? a with
      | none => rfl
      | some o' => have := keep _ _ q; rw [show ({ s with heap := s.heap.push { cls := .type "dict", data := .dict #[] }, toks := s.toks + 1 } : Shared).heap.get? a = _ from this] at z; cases z
    · exact .inr (.inr z)
  · rcases n₁ a m with z | z
    · exact .inl z
    · right
      cases q : s.heap.get? a with
      | none => rfl
      | some o' => have := keep _ _ q; rw [show ({ s with heap := s.heap.push { cls := .type "dict", data := .dict #[] }, toks := s.toks + 1 } : Shared).heap.get? a = _ from this] at z; cases z
  · have := R₁
    refine ⟨fun a o e => keep1 a o (fun q => by rw [q, nz1] at e; cases e) (R₁.fz a o e), R₁.base, R₁.frame.keep fun a o hsl e => keep1 a o (fun q => slotNe (q ▸ hsl)) e, R₁.slotFree, fun y w e => ?_, R₁.fpOff, R₁.fpFree, R₁.apart⟩
    obtain ⟨u, hu, O⟩ := R₁.var y w e
    exact ⟨u, hu, O.keep (.refl _) fun a o m e => keep1 a o (fun q => nfp1 y (q ▸ m)) e⟩
  · exact Own.mdict (kvs := merged [] [(k, va)]) ho hi (sys_ne B R) (.cons d₁ .nil)
  · rw [List.mem_singleton.mp m]
    exact ⟨nz1, slotNe, nfp1, .inl fr⟩
end
end Mini

namespace Mini
open PySem PySem.W PySem.Calls PyProof.Rows PyProof.V PySem.Spec

variable {b : Base} {K : Frag}

section
variable {env : Env} {ns : Names} {bd : Str → Option Value} {s s₁ s₂ : Shared} {Fz Fz₁ : FzM} {fp fp₁ : Str → List Addr} {r : LV} {t : AV} {σ σ' σ₁ : St} {v : Value} {A : Around} {n : Nat} {I : Interp} {e : Expr} {x : Str} {h h' : Heap}

theorem idx_sub {i : Expr} (hi : isIdx i = true) (o v : Value) : subscripted i false o v = operate [o, v] (getItem o v) := by
  cases i <;> first | rfl | (simp [isIdx] at hi)

theorem subList_ok {a : Addr} {vs : List Value} {m : Nat} {xs : List AV} {value slice : Expr} {k : Int} {u : Tok} {t : AV} {ops : List Value} (ha : s.heap.get? a = some (W.listOf vs.toArray m)) (d : DenL b Fz vs xs) (h : subAV (.list xs) (.int k) = some t)
    (hs : subscripted slice false (.ref a) (.int k u) = operate ops (getItem (.ref a) (.int k u))) :
    wpAny (model b.prog b.w) A (subscriptTail value slice (.ref a) (.int k u)) (fun v s' => Den b Fz v t ∧ ∃ tk, s' = { s with toks := tk }) NoE s := by
  obtain ⟨q, h⟩ := if_some (show (if idx k = true then xs[k.toNat]? else Option.none) = some t from h)
  replace q := idx_ok q
  obtain ⟨v, hv, dv⟩ := d.get h
  have hl : s.heap.IsList _ _ := ⟨_, ha, rfl, _, rfl⟩
  exact tail_any hl.typeIs slot_list_getitem.lookup (wpAny_getItem_list hl q.1 (by omega) (by simpa using hv) ⟨dv, _, rfl⟩) hs

theorem EPost.tok {tk : Nat} (R : Rel b Fz env ns σ bd fp s.heap) (d : Den b Fz v t) : EPost b env ns bd s Fz fp (.tree t) σ v { s with toks := tk } := EPost.ofG R (GPost.pure ⟨_, rfl⟩ R.fz d)

theorem subOwn_ok {i : Expr} {p pos : Pos} {xs : List AV} (hE : EOk b n I.E) (rm : Room A n) (ok : EnvOk b env ns) (R : Rel b Fz env ns σ bd fp s.heap) (hi : isIdx i = true) (g : getV ns σ x = some (.mlist xs)) (h : subOwn I ns x i σ = some (r, σ')) :
    wpAny (model b.prog b.w) A (eval (.Subscript (.Name x p) i pos) env) (EPost b env ns bd s Fz fp r σ') NoE s := by
  obtain ⟨a, σ₁, q1, h⟩ := o2_some h
  obtain ⟨k, q2, h⟩ := o1_some h
  obtain ⟨w, q3, h⟩ := o1_some h
  obtain ⟨ys, q4, h⟩ := o1_some h
  obtain ⟨t, q5, h⟩ := o1_some h
  cases h
  cases asInt_some q2
  cases ownList_some q4
  obtain ⟨u, hu, O, _, kk⟩ := name_ok (A := A) ok R g
  refine Subscript_ (kk p _ _ (wpAny_mono (evE_ok hE rm ok q1 R).2 (fun vi s₁ h₁ => ?_) fun _ _ x => x))
  obtain ⟨Fz₁, fp₁, S₁, n₁, R₁, d₁⟩ := h₁
  obtain ⟨u', hu', O', _, _⟩ := name_ok (A := A) ok R₁ q3
  rw [hu] at hu'; cases hu'
  obtain ⟨a, vs, m, rfl, hf, ha, d⟩ := O'.isList
  obtain ⟨_, rfl⟩ := d₁.intV
  refine wpAny_mono (subList_ok ha d q5 (idx_sub hi _ _)) (fun v s₂ h₂ => ?_) fun _ _ x => x
  obtain ⟨dv, tk, rfl⟩ := h₂
  exact EPost.after S₁ n₁ (EPost.tok R₁ dv)

theorem subG_ok {value i : Expr} {pos : Pos} (hE : EOk b n I.E) (rm : Room A n) (ok : EnvOk b env ns) (R : Rel b Fz env ns σ bd fp s.heap) (hi : isIdx i = true) (h : subG I ns value i σ = some (r, σ')) :
    wpAny (model b.prog b.w) A (eval (.Subscript value i pos) env) (EPost b env ns bd s Fz fp r σ') NoE s := by
  obtain ⟨a, σ₁, q1, h⟩ := o2_some h
  obtain ⟨c, σ₂, q2, h⟩ := o2_some h
  obtain ⟨t, q3, h⟩ := o1_some h
  cases h
  refine Subscript_ (wpAny_mono (evE_ok hE rm ok q1 R).2 (fun va s₁ h₁ => ?_) fun _ _ x => x)
  obtain ⟨Fz₁, fp₁, S₁, n₁, R₁, d₁⟩ := h₁
  refine wpAny_mono (evE_ok hE rm ok q2 R₁).2 (fun vc s₂ h₂ => ?_) fun _ _ x => x
  obtain ⟨Fz₂, fp₂, S₂, n₂, R₂, d₂⟩ := h₂
  refine wpAny_mono (subAV_ok R₂.fz (d₁.mono S₂.le) d₂ q3 (idx_sub hi _ _)) (fun v s₃ h₃ => ?_) fun _ _ x => x
  obtain ⟨dv, tk, rfl⟩ := h₃
  exact EPost.after S₁ n₁ (EPost.after S₂ n₂ (EPost.tok R₂ dv))

theorem step_Sub {value i : Expr} {pos : Pos} (hE : EOk b n I.E) (rm : Room A n) (ok : EnvOk b env ns) (R : Rel b Fz env ns σ bd fp s.heap) (h : idxE I ns value i σ = some (r, σ')) :
    wpAny (model b.prog b.w) A (eval (.Subscript value i pos) env) (EPost b env ns bd s Fz fp r σ') NoE s := by
  obtain ⟨hi, h⟩ := if_some h
  cases q0 : ownL ns σ value with
  | none => rw [q0] at h; exact subG_ok hE rm ok R hi h
  | some p =>
    rw [q0] at h
    obtain ⟨⟨_, rfl⟩, g⟩ := ownL_some q0
    exact subOwn_ok hE rm ok R hi g h

theorem slice_ok {a : Addr} {vs : List Value} {m : Nat} {xs : List AV} {value : Expr} {u : Expr} {p : Pos} {k : Int} {tk : Tok} (ha : s.heap.get? a = some (W.listOf vs.toArray m)) (hz : ∀ a o, Fz a = some o → s.heap.get? a = some o) (d : DenL b Fz vs xs)
    (hk : 0 ≤ k ∧ k < 2 ^ 40 ∧ xs.length ≤ lim) :
    wpAny (model b.prog b.w) A (subscriptTail value (.Slice Option.none (some u) Option.none p) (.ref a) (.ref s.heap.objs.size)) (GPost b s Fz (.mlist (xs.take k.toNat))) NoE
      { s with heap := s.heap.push { cls := .type "slice", data := .fields #[.none, .int k tk, .none] } } := by
  have l := d.length
  have hl : s.heap.IsList a vs.toArray := ⟨_, ha, rfl, _, rfl⟩
  have hl' : (s.heap.push { cls := .type "slice", data := .fields #[.none, .int k tk, .none] }).IsList a vs.toArray := hl.push _
  refine tail_any (s := { s with heap := s.heap.push { cls := .type "slice", data := .fields #[.none, .int k tk, .none] } }) hl'.typeIs slot_list_getitem.lookup
    (wpAny_getItem_list_slice (lo := Option.none) (hi := some k) (st := Option.none) hl' (Heap.IsSliceOf.new ..) .none (.int _ _) .none (by simp) ?_ (by simp only [List.size_toArray]; exact lim_line (by omega))) rfl
  have e : slicePick vs.toArray Option.none (some k) Option.none = (vs.take k.toNat).toArray := by
    have := slicePick_upto' vs.toArray k.toNat
    rw [show ((k.toNat : Nat) : Int) = k from Int.toNat_of_nonneg hk.1] at this
    simpa using this
  rw [e]
  have keep : ∀ a o, s.heap.get? a = some o → ((s.heap.push { cls := .type "slice", data := .fields #[.none, .int k tk, .none] }).push (W.listOf (vs.take k.toNat).toArray 0)).get? a = some o :=
    fun a o e => Heap.get?_push_of_some _ (Heap.get?_push_of_some _ e)
  have fr : s.heap.get? (s.heap.push { cls := .type "slice", data := .fields #[.none, .int k tk, .none] }).objs.size = none := by
    cases q : s.heap.get? (s.heap.push { cls := .type "slice", data := .fields #[.none, .int k tk, .none] }).objs.size with
    | none => rfl
    | some o => exact absurd (Heap.lt_size q) (by rw [Heap.size_push]; exact Nat.not_lt.mpr (Nat.le_succ _))
  refine ⟨⟨_, _, rfl⟩, keep, Fz, [(s.heap.push { cls := .type "slice", data := .fields #[.none, .int k tk, .none] }).objs.size], .refl _, fun a o e => ⟨keep _ _ (hz a o e), .inl e⟩, .mlist (n := 0) (Heap.get?_push_size _ rfl) (d.take _), fun a m => ?_⟩
  rw [List.mem_singleton.mp m]
  refine ⟨fr, ?_⟩
  cases q : Fz (s.heap.push { cls := .type "slice", data := .fields #[.none, .int k tk, .none] }).objs.size with
  | none => rfl
  | some o => have := hz _ _ q; rw [fr] at this; cases this

theorem sliceOwn_ok {u : Expr} {p p' pos : Pos} {zs : List AV} (hE : EOk b n I.E) (rm : Room A n) (ok : EnvOk b env ns) (R : Rel b Fz env ns σ bd fp s.heap) (g : getV ns σ x = some (.mlist zs)) (h : sliceOwn I ns x u σ = some (r, σ')) :
    wpAny (model b.prog b.w) A (eval (.Subscript (.Name x p') (.Slice Option.none (some u) Option.none p) pos) env) (EPost b env ns bd s Fz fp r σ') NoE s := by
  obtain ⟨a, σ₁, q1, h⟩ := o2_some h
  obtain ⟨k, q2, h⟩ := o1_some h
  obtain ⟨w, q3, h⟩ := o1_some h
  obtain ⟨ys, q4, h⟩ := o1_some h
  obtain ⟨hk, h⟩ := if_some h
  cases h
  cases asInt_some q2
  cases ownList_some q4
  obtain ⟨u', hu, O, _, kk⟩ := name_ok (A := A) ok R g
  refine Subscript_ (kk p' _ _ (wpAny_Slice (evalPart_none_step (evalPart_some_step (wpAny_mono (evE_ok hE rm ok q1 R).2 (fun vi s₁ h₁ => evalPart_none_step ?_) fun _ _ x => x)))))
  obtain ⟨Fz₁, fp₁, S₁, n₁, R₁, d₁⟩ := h₁
  obtain ⟨u2, hu2, O', _, _⟩ := name_ok (A := A) ok R₁ q3
  rw [hu] at hu2; cases hu2
  obtain ⟨a, vs, m, rfl, hf, ha, d⟩ := O'.isList
  obtain ⟨_, rfl⟩ := d₁.intV
  exact wpAny_mono (slice_ok ha R₁.fz d hk) (fun v s₂ h₂ => EPost.after S₁ n₁ (EPost.ofG R₁ h₂)) fun _ _ x => x

theorem sliceG_ok {value u : Expr} {p pos : Pos} (hE : EOk b n I.E) (rm : Room A n) (ok : EnvOk b env ns) (R : Rel b Fz env ns σ bd fp s.heap) (h : sliceG I ns value u σ = some (r, σ')) :
    wpAny (model b.prog b.w) A (eval (.Subscript value (.Slice Option.none (some u) Option.none p) pos) env) (EPost b env ns bd s Fz fp r σ') NoE s := by
  obtain ⟨t, σ₁, q1, h⟩ := o2_some h
  obtain ⟨xs, q2, h⟩ := o1_some h
  obtain ⟨a, σ₂, q3, h⟩ := o2_some h
  obtain ⟨k, q4, h⟩ := o1_some h
  obtain ⟨hk, h⟩ := if_some h
  cases h
  cases asList_some q2
  cases asInt_some q4
  refine Subscript_ (wpAny_mono (evE_ok hE rm ok q1 R).2 (fun va s₁ h₁ => wpAny_Slice ?_) fun _ _ x => x)
  obtain ⟨Fz₁, fp₁, S₁, n₁, R₁, d₁⟩ := h₁
  refine evalPart_none_step (evalPart_some_step (wpAny_mono (evE_ok hE rm ok q3 R₁).2 (fun vi s₂ h₂ => evalPart_none_step ?_) fun _ _ x => x))
  obtain ⟨Fz₂, fp₂, S₂, n₂, R₂, d₂⟩ := h₂
  obtain ⟨_, rfl⟩ := d₂.intV
  obtain ⟨_, vs, m, rfl, e1, r1⟩ := d₁.listV
  exact wpAny_mono (slice_ok (R₂.fz _ _ (S₂.le _ _ e1)) R₂.fz (r1.mono S₂.le) hk) (fun v s₃ h₃ => EPost.after S₁ n₁ (EPost.after S₂ n₂ (EPost.ofG R₂ h₃))) fun _ _ x => x

theorem step_Slice {value u : Expr} {p pos : Pos} (hE : EOk b n I.E) (rm : Room A n) (ok : EnvOk b env ns) (R : Rel b Fz env ns σ bd fp s.heap) (h : sliceE I ns value u σ = some (r, σ')) :
    wpAny (model b.prog b.w) A (eval (.Subscript value (.Slice Option.none (some u) Option.none p) pos) env) (EPost b env ns bd s Fz fp r σ') NoE s := by
  unfold sliceE at h
  cases q0 : ownL ns σ value with
  | none => rw [q0] at h; exact sliceG_ok hE rm ok R h
  | some p =>
    rw [q0] at h
    obtain ⟨⟨_, rfl⟩, g⟩ := ownL_some q0
    exact sliceOwn_ok hE rm ok R g h

theorem base_attr {value : Expr} (hv : notSuper value = true) (a : Str) : attributeBase value a env (eval value env) = eval value env := by
  cases value <;> first | rfl | skip
  rename_i f as kw _
  cases f <;> first | rfl | skip
  cases as <;> first | rfl | skip
  cases kw <;> first | rfl | cases hv

theorem step_Attr {value : Expr} {a : Str} {pos : Pos} (B : BaseOk b K) (hE : EOk b n I.E) (rm : Room A n) (ok : EnvOk b env ns) (R : Rel b Fz env ns σ bd fp s.heap) (h : attrE I ns value a σ = some (r, σ')) :
    wpAny (model b.prog b.w) A (eval (.Attribute value a pos) env) (EPost b env ns bd s Fz fp r σ') NoE s := by
  obtain ⟨hv, h⟩ := if_some h
  obtain ⟨t, σ₁, q1, h⟩ := o2_some h
  obtain ⟨w, q2, h⟩ := o1_some h
  cases h
  refine Attribute_any_ (wpAny_mono (evE_ok hE rm ok q1 R).2 (fun va s₁ h₁ => ?_) fun _ _ x => x) ?_
  · obtain ⟨Fz₁, fp₁, S₁, n₁, R₁, d₁⟩ := h₁
    refine wpAny_mono (attrAV_ok B (fun a o e => R₁.fz _ _ (R₁.base _ _ (B.X a o e))) R₁.fz d₁ q2) (fun v s₂ h₂ => ?_) fun _ _ x => x
    obtain ⟨dv, tk, rfl⟩ := h₂
    exact EPost.after S₁ n₁ (EPost.tok R₁ dv)
  · show (do let o ← attributeBase value a env (eval value env); _) = _
    rw [base_attr hv]
end
end Mini

namespace Mini
open PySem PySem.W PySem.Calls PyProof.Rows PyProof.V PySem.Spec

variable {b : Base} {K : Frag}

section
variable {env : Env} {ns : Names} {bd : Str → Option Value} {s s₁ s₂ : Shared} {Fz Fz₁ : FzM} {fp fp₁ : Str → List Addr} {r : LV} {t : AV} {σ σ' σ₁ : St} {v : Value} {A : Around} {n : Nat} {I : Interp} {e : Expr} {x f : Str} {h h' : Heap}

theorem Rel.toBase (R : Rel b Fz env ns σ bd fp h) : ∀ a o, b.base.get? a = some o → h.get? a = some o := fun a o e => R.fz _ _ (R.base a o e)

theorem isGlob_kind (ok : EnvOk b env ns) (hg : isGlob ns f = true) : env.kindOf f = some .globalImplicit ∧ (f == ("__debug__" : Str)) = false := by
  unfold isGlob at hg
  split at hg
  · rename_i q; exact ⟨by unfold Env.kindOf; rw [ok.names]; exact q, by simpa [notDebug] using hg⟩
  · cases hg

theorem glob_own (B : BaseOk b K) (ok : EnvOk b env ns) (hg : isGlob ns f = true) (R : Rel b Fz env ns σ bd fp s.heap) (hv : b.mg f = some v) {pos : Pos} {Q E : Value → Shared → Prop} (q : Q v s) :
    wpAny (model b.prog b.w) A (eval (.Name f pos) env) Q E s := by
  obtain ⟨hk, hd⟩ := isGlob_kind ok hg
  have G : s.heap.Ns env.globals b.mg := by rw [ok.globals]; exact B.g.keeps R.toBase
  exact Name_function_global ok.kind hk (loadGlobal_global G hv q) hd

theorem glob_builtin (B : BaseOk b K) (ok : EnvOk b env ns) (hg : isGlob ns f = true) (R : Rel b Fz env ns σ bd fp s.heap) (hv : b.mg f = none ∧ b.mb f = some v) {pos : Pos} {Q E : Value → Shared → Prop} (q : Q v s) :
    wpAny (model b.prog b.w) A (eval (.Name f pos) env) Q E s := by
  obtain ⟨hk, hd⟩ := isGlob_kind ok hg
  have G : s.heap.Ns env.globals b.mg := by rw [ok.globals]; exact B.g.keeps R.toBase
  have H : s.heap.Ns env.builtins b.mb := by rw [ok.builtins]; exact B.bb.keeps R.toBase
  exact Name_function_global ok.kind hk (loadGlobal_builtin G hv.1 H hv.2 q) hd

theorem callW_ok {pos : Pos} {fv : Value} {args : List Expr} {ts : List AV} {P : Heap → Prop} {Q : Value → Shared → Prop} (hE : EOk b n I.E) (rm : Room A n) (ok : EnvOk b env ns) (R : Rel b Fz env ns σ bd fp s.heap)
    (hk : ∀ h, P h → ∃ k, (k = Keeper.frame ∨ k = Keeper.machine ∨ k = Keeper.boundFrame) ∧ Looks (model b.prog b.w) h (keeperOf fv) k)
    (q : evArgs I ns args σ = some (ts, σ₁))
    (k : ∀ us s₁ Fz₁ fp₁, Stp (inFp fp) s Fz s₁ Fz₁ → (∀ a, inFp fp₁ a → inFp fp a ∨ s.heap.get? a = none) → Rel b Fz₁ env ns σ₁ bd fp₁ s₁.heap → DenL b Fz₁ us ts → P s₁.heap ∧ wpAny (model b.prog b.w) A (call fv us) Q NoE s₁) :
    wpAny (model b.prog b.w) A (callWith pos fv [] (backTo pos (starEach args env)) []) Q NoE s := by
  have hplain := (args_noStar (env := env) (pos := pos) args q).1
  refine callWith_of (P := P) (by rw [hplain]; rfl) hk ?_
  cases args with
  | nil =>
    cases q
    refine evalArgs_nil3 ?_
    exact k [] s Fz fp (.refl _ _ _) (fun _ m => .inl m) R .nil
  | cons e es =>
    have hp : plainE e = true := by
      obtain ⟨_, _, z, _⟩ := o2_some q
      exact evE_plain z
    have w := args_ok (pos := pos) hE rm ok (e :: es) q R
    rw [plain_star hp] at w ⊢
    refine evalArgs_plain (wpAny_mono w (fun us s₁ h₁ => ?_) fun _ _ x => x)
    obtain ⟨Fz₁, fp₁, S₁, n₁, R₁, d₁⟩ := h₁
    exact k us s₁ Fz₁ fp₁ S₁ n₁ R₁ d₁

theorem keeper_plain {fv : Value} (hf : ∀ a, fv ≠ .ref a) (h : Heap) : ∃ k, (k = Keeper.frame ∨ k = Keeper.machine ∨ k = Keeper.boundFrame) ∧ Looks (model b.prog b.w) h (keeperOf fv) k := by
  refine ⟨.machine, .inr (.inl rfl), Looks.of_pure ?_⟩
  cases fv <;> first | rfl | exact absurd rfl (hf _)

theorem bfn_plain (f : Str) : ∀ a, bfn f ≠ .ref a := by
  intro a
  unfold bfn
  split
  · exact fun h => by cases h
  · split
    · exact fun h => by cases h
    · split <;> exact fun h => by cases h

theorem base_builtin (B : BaseOk b K) (hf : f = "len" ∨ f = "range" ∨ f = "list" ∨ f = "str") : b.mg f = none ∧ b.mb f = some (bfn f) := by
  rcases hf with rfl | rfl | rfl | rfl
  · exact B.bLen
  · exact B.bRange
  · exact B.bList
  · exact B.bStr

theorem Call_Name0 {p pos : Pos} {args : List Expr} {Q E : Value → Shared → Prop} (h : wpAny (model b.prog b.w) A (eval (.Name f p) env) (fun fv s₁ => wpAny (model b.prog b.w) A (callWith pos fv [] (backTo pos (starEach args env)) []) Q E s₁) E s) :
    wpAny (model b.prog b.w) A (eval (.Call (.Name f p) args [] pos) env) Q E s := Call_ h

theorem call_builtin {p pos : Pos} {args : List Expr} {ts : List AV} (B : BaseOk b K) (hE : EOk b n I.E) (rm : Room A n) (ok : EnvOk b env ns) (R : Rel b Fz env ns σ bd fp s.heap) (hg : isGlob ns f = true)
    (hf : f = "len" ∨ f = "range" ∨ f = "list" ∨ f = "str") (q : evArgs I ns args σ = some (ts, σ₁)) (hb : builtin1 f ts = some r) :
    wpAny (model b.prog b.w) A (eval (.Call (.Name f p) args [] pos) env) (EPost b env ns bd s Fz fp r σ₁) NoE s := by
  refine Call_Name0 (glob_builtin B ok hg R (base_builtin B hf) ?_)
  refine callW_ok (P := fun _ => True) hE rm ok R (fun h _ => keeper_plain (bfn_plain f) h) q fun us s₁ Fz₁ fp₁ S₁ n₁ R₁ d₁ => ⟨trivial, ?_⟩
  exact wpAny_mono (builtin_ok rm.handled R₁.fz d₁ hf hb) (fun v s₂ h₂ => EPost.after S₁ n₁ (EPost.ofG R₁ h₂)) fun _ _ x => x

theorem free_of (R : Rel b Fz env ns σ bd fp s.heap) {a : Addr} (e : s.heap.get? a = none) : Fz a = none := by
  cases q : Fz a with
  | none => rfl
  | some o => have := R.fz _ _ q; rw [e] at this; cases this

theorem call_Vector {p pos : Pos} {args : List Expr} {ts : List AV} (B : BaseOk b K) (hE : EOk b n I.E) (rm : Room A n) (ok : EnvOk b env ns) (R : Rel b Fz env ns σ bd fp s.heap) (hg : isGlob ns "Vector" = true)
    (q : evArgs I ns args σ = some (ts, σ₁)) (hb : bVector ts = some r) :
    wpAny (model b.prog b.w) A (eval (.Call (.Name "Vector" p) args [] pos) env) (EPost b env ns bd s Fz fp r σ₁) NoE s := by
  refine Call_Name0 (glob_own B ok hg R B.gV ?_)
  refine callW_ok (P := fun h => K.In h) hE rm ok R (keeps_K B.V.keep) q fun us s₁ Fz₁ fp₁ S₁ n₁ R₁ d₁ => ⟨fun a o e => R₁.toBase _ _ (B.X a o e), ?_⟩
  cases d₁ with
  | nil => cases hb
  | cons d1 d2 =>
    cases d2 with
    | nil => cases hb
    | cons d2 d3 =>
      cases d3 with
      | cons _ _ => cases hb
      | nil =>
        obtain ⟨k, q2, hb⟩ := o1_some hb
        cases hb
        cases asStr_some q2
        obtain ⟨_, rfl⟩ := d1.strV
        refine B.newV A s₁ _ _ _ _ rm.handled (by have := rm.depth; omega) (by have := rm.units; omega) R₁.toBase d2.handed fun h' tk' x d t0 t1 t2 t3 t4 m keep fx fd ne hx hd => EPost.after S₁ n₁ (EPost.ofG R₁ ?_)
        refine ⟨⟨_, _, rfl⟩, keep, Fz₁, [x, d], .refl _, fun a o e => ⟨keep _ _ (R₁.fz a o e), .inl e⟩, .mvec (fa := []) hx hd d2 .none ne (by simp) (by simp), fun a m => ?_⟩
        rcases List.mem_cons.mp m with rfl | m
        · exact ⟨fx, free_of R₁ fx⟩
        · rw [List.mem_singleton.mp m]; exact ⟨fd, free_of R₁ fd⟩

theorem GPost.twoFz {Fz : FzM} {t : AV} {h' : Heap} {x d : Addr} {ox od : Obj} (tk : Nat) (hz : ∀ a o, Fz a = some o → s.heap.get? a = some o) (keep : ∀ a o, s.heap.get? a = some o → h'.get? a = some o) (fx : s.heap.get? x = none) (fd : s.heap.get? d = none)
    (hx : h'.get? x = some ox) (hd : h'.get? d = some od) (D : ∀ Fz', FzLe Fz Fz' → Fz' x = some ox → Fz' d = some od → Den b Fz' (.ref x) t) : GPost b s Fz (.tree t) (.ref x) { s with heap := h', toks := tk } := by
  have hf : ∀ a ∈ [x, d], Fz a = none := fun a m => by
    have fr : s.heap.get? a = none := by
      rcases List.mem_cons.mp m with rfl | m
      · exact fx
      · rw [List.mem_singleton.mp m]; exact fd
    cases q : Fz a with
    | none => rfl
    | some o => have := hz _ _ q; rw [fr] at this; cases this
  have le : FzLe Fz (fzAdd Fz h' [x, d]) := fzAdd_le hf
  refine ⟨⟨_, _, rfl⟩, keep, fzAdd Fz h' [x, d], [], le, fun a o e => ?_, .tree (D _ le ((fzAdd_at (by simp)).trans hx) ((fzAdd_at (by simp)).trans hd)), fun _ m => nomatch m⟩
  unfold fzAdd at e
  split at e
  · rename_i m
    refine ⟨e, .inr ?_⟩
    rcases List.mem_cons.mp m with rfl | m
    · exact fx
    · rw [List.mem_singleton.mp m]; exact fd
  · exact ⟨keep _ _ (hz a o e), .inl e⟩

theorem call_Null {p pos : Pos} {args : List Expr} {ts : List AV} (B : BaseOk b K) (hE : EOk b n I.E) (rm : Room A n) (ok : EnvOk b env ns) (R : Rel b Fz env ns σ bd fp s.heap) (hg : isGlob ns "Null" = true)
    (q : evArgs I ns args σ = some (ts, σ₁)) (hb : bNull ts = some r) :
    wpAny (model b.prog b.w) A (eval (.Call (.Name "Null" p) args [] pos) env) (EPost b env ns bd s Fz fp r σ₁) NoE s := by
  refine Call_Name0 (glob_own B ok hg R B.gN ?_)
  refine callW_ok (P := fun h => K.In h) hE rm ok R (keeps_K B.N.keep) q fun us s₁ Fz₁ fp₁ S₁ n₁ R₁ d₁ => ⟨fun a o e => R₁.toBase _ _ (B.X a o e), ?_⟩
  cases d₁ with
  | cons _ _ => cases hb
  | nil =>
    cases hb
    exact B.newN A s₁ _ rm.handled (by have := rm.depth; omega) (by have := rm.units; omega) R₁.toBase fun h' tk' x d t t0 t1 m keep fx fd hx hd =>
      EPost.after S₁ n₁ (EPost.ofG R₁ (GPost.twoFz _ R₁.fz keep fx fd hx hd fun Fz' le e1 e2 => .null e1 e2))

theorem call_Missing {p pos : Pos} {args : List Expr} {ts : List AV} (B : BaseOk b K) (hE : EOk b n I.E) (rm : Room A n) (ok : EnvOk b env ns) (R : Rel b Fz env ns σ bd fp s.heap) (hg : isGlob ns "Missing" = true)
    (q : evArgs I ns args σ = some (ts, σ₁)) (hb : bMissing ts = some r) :
    wpAny (model b.prog b.w) A (eval (.Call (.Name "Missing" p) args [] pos) env) (EPost b env ns bd s Fz fp r σ₁) NoE s := by
  refine Call_Name0 (glob_own B ok hg R B.gM ?_)
  refine callW_ok (P := fun h => K.In h) hE rm ok R (keeps_K B.M.keep) q fun us s₁ Fz₁ fp₁ S₁ n₁ R₁ d₁ => ⟨fun a o e => R₁.toBase _ _ (B.X a o e), ?_⟩
  cases d₁ with
  | cons _ _ => cases hb
  | nil =>
    cases hb
    exact B.newM A s₁ _ rm.handled (by have := rm.depth; omega) (by have := rm.units; omega) R₁.toBase fun h' tk' x d t t0 t1 m keep fx fd hx hd =>
      EPost.after S₁ n₁ (EPost.ofG R₁ (GPost.twoFz _ R₁.fz keep fx fd hx hd fun Fz' le e1 e2 => .miss e1 e2))
end
end Mini

namespace Mini
open PySem PySem.W PySem.Calls PyProof.Rows PyProof.V PySem.Spec

variable {b : Base} {K : Frag}

section
variable {env : Env} {ns : Names} {bd : Str → Option Value} {s s₁ s₂ : Shared} {Fz Fz₁ : FzM} {fp fp₁ : Str → List Addr} {r : LV} {t : AV} {σ σ' σ₁ : St} {v : Value} {A : Around} {n : Nat} {I : Interp} {e : Expr} {x f : Str} {h h' : Heap}

theorem Own.isVec {Fz : FzM} {h : Heap} {v : Value} {k : Str} {its ats : AV} {f : List Addr} (O : Own b Fz h v (.mvec k its ats) f) : ∃ a d es m, v = .ref a ∧ h.get? a = some (instObj b.CV d) ∧ h.get? d = some (dictOf es m) := by
  cases O with | mvec e1 e2 _ _ _ _ _ => exact ⟨_, _, _, _, rfl, e1, e2⟩

theorem eraseLast (vs : List Value) : vs.toArray.eraseIdxIfInBounds (vs.toArray.size - 1) = vs.dropLast.toArray := by
  unfold Array.eraseIdxIfInBounds
  split
  · rename_i h
    apply Array.ext'
    simp only [List.size_toArray, List.eraseIdx_toArray]
    simp only [List.size_toArray] at h
    rw [List.eraseIdx_eq_take_drop_succ, List.dropLast_eq_take]
    have : vs.length - 1 + 1 = vs.length := by omega
    rw [this]; simp
  · rename_i h
    have : vs = [] := by
      cases vs with
      | nil => rfl
      | cons v vs => exact absurd (by simp) h
    subst this; rfl

theorem inst_isi (B : BaseOk b K) (hb : ∀ a o, b.base.get? a = some o → s.heap.get? a = some o) {a d : Addr} {es : List DictEntry} {m : Nat} (h1 : s.heap.get? a = some (instObj b.CV d)) (h2 : s.heap.get? d = some (dictOf es m)) {Q E : Value → Shared → Prop} (q : Q (.bool true) s) :
    wpAny (model b.prog b.w) A (call (.builtin "isinstance") [.ref a, .ref b.CV]) Q E s :=
  isi_call (fun c o e => hb _ _ (B.X c o e)) (t := .ref b.CV) (fun M => InstAt.type (C := b.CV) (ox := instObj b.CV d) (od := some (dictOf es m)) ⟨h1, rfl, rfl, h2⟩) B.isi (by intro e; cases e) q

theorem call_isinst {p pos : Pos} {args : List Expr} (B : BaseOk b K) (ok : EnvOk b env ns) (R : Rel b Fz env ns σ bd fp s.heap) (hg : isGlob ns "isinstance" = true) (q : isinstE ns σ args = some (r, σ')) :
    wpAny (model b.prog b.w) A (eval (.Call (.Name "isinstance" p) args [] pos) env) (EPost b env ns bd s Fz fp r σ') NoE s := by
  rcases args with _ | ⟨a1, _ | ⟨a2, _ | ⟨a3, _⟩⟩⟩
  · cases q
  · cases q
  · obtain ⟨x, q1, q⟩ := o1_some q
    obtain ⟨c, q2, q⟩ := o1_some q
    obtain ⟨hc, q⟩ := if_some q
    obtain ⟨u, g, q⟩ := o1_some q
    have hvu : isVecL u = true ∧ (LV.tree (.bool true), σ) = (r, σ') := by
      cases hv : isVecL u with
      | false => rw [hv] at q; cases q
      | true => rw [hv] at q; exact ⟨rfl, Option.some.inj q⟩
    clear q
    obtain ⟨rfl, hcg⟩ := hc
    obtain ⟨px, rfl⟩ := nameOf_some q1
    obtain ⟨pc, rfl⟩ := nameOf_some q2
    obtain ⟨w, hu, O, _, kk⟩ := name_ok (A := A) ok R g
    have hw : isVecL u = true → ∃ a d es m, w = .ref a ∧ s.heap.get? a = some (instObj b.CV d) ∧ s.heap.get? d = some (dictOf es m) := fun hv => by
      cases u with
      | tree t =>
        cases t <;> first | cases hv | skip
        obtain ⟨d, _⟩ := O.den
        cases d with
        | vec e1 e2 _ _ => exact ⟨_, _, _, _, rfl, R.fz _ _ e1, R.fz _ _ e2⟩
      | mvec _ _ _ => exact O.isVec
      | _ => cases hv
    cases hvu.2
    obtain ⟨a, d, es, m, rfl, h1, h2⟩ := hw hvu.1
    refine Call_Name0 (glob_builtin B ok hg R B.bIsi ?_)
    refine callWith_of (P := fun _ => True) rfl (fun h _ => keeper_plain (by intro a h; cases h) h) ?_
    refine evalArgs_plain ?_
    refine spliced_cons (kk px _ _ (spliced_cons (glob_own B ok hcg R B.gV (spliced_nil ⟨trivial, ?_⟩))))
    exact inst_isi B R.toBase h1 h2 (EPost.tok (tk := s.toks) R (.bool _))
  · cases q

theorem Rel.setList {a : Addr} {vs ws : List Value} {m : Nat} {ys : List AV} {g : Array Value → Array Value} (R : Rel b Fz env ns σ bd fp s.heap) (hx : bd x = some (.ref a)) (hf : fp x = [a]) (ha : s.heap.get? a = some (W.listOf vs.toArray m))
    (hg : g vs.toArray = ws.toArray) (d : DenL b Fz ws ys) {tk : Nat} (hr : Own b Fz s.heap v r [] ) :
    EPost b env ns bd s Fz fp r (put σ x (.mlist ys)) v { s with heap := s.heap.update a (Obj.mapSeq g), toks := tk } := by
  have oth : ∀ c o, c ≠ a → s.heap.get? c = some o → (s.heap.update a (Obj.mapSeq g)).get? c = some o := fun c o ne e => (Heap.get?_update_other _ _ (Ne.symm ne)).trans e
  have fza : Fz a = none := (R.fpFree x a (by rw [hf]; exact .head _)).1
  have self := Heap.get?_update_self (Obj.mapSeq g) ha (by rfl)
  have mem : ∀ {c}, c ∉ fp x → c ≠ a := fun h e => h (by rw [hf, e]; exact .head _)
  have R' := R.set (Fz' := Fz) (h' := s.heap.update a (Obj.mapSeq g)) (lv := .mlist ys) (f := [a]) hx (.refl _) (fun c o e => oth c o (fun q => by rw [q, fza] at e; cases e) (R.fz c o e))
    (fun c o nm e => oth c o (mem nm) e) (fun c o e => .inl e) (.mlist (n := if (g vs.toArray).size == vs.toArray.size then m else m + 1) (by rw [← hg]; exact self) d) (fun c m => by rw [List.mem_singleton.mp m]; exact ⟨fza, .inl (by rw [hf]; exact .head _)⟩)
  refine ⟨Fz, _, [], ⟨⟨_, _, rfl⟩, fun c o np e => oth c o (fun q => np ⟨x, by rw [hf, q]; exact .head _⟩) e, .refl _, fun c o e => .inl e⟩, fun c m => ?_, R', ?_, fun _ m => nomatch m⟩
  · obtain ⟨y, m⟩ := m
    by_cases q : y = x
    · simp only [q, if_true] at m
      exact .inl ⟨x, by rw [hf]; exact m⟩
    · simp only [q, if_false] at m; exact .inl ⟨y, m⟩
  · exact hr.keep (.refl _) fun _ _ m => nomatch m

theorem meth_append {e : Expr} {p apos pos : Pos} {ys : List AV} (hE : EOk b n I.E) (rm : Room A n) (ok : EnvOk b env ns) (R : Rel b Fz env ns σ bd fp s.heap) (hl : (apos.endLine == pos.line) = true)
    {xs : List AV} (g : getV ns σ x = some (.mlist xs)) (q1 : evE I ns e σ = some (t, σ₁)) (g1 : getV ns σ₁ x = some (.mlist ys)) (hn : ys.length ≤ lim) :
    wpAny (model b.prog b.w) A (eval (.Call (.Attribute (.Name x p) "append" apos) [e] [] pos) env) (EPost b env ns bd s Fz fp (.tree .none) (put σ₁ x (.mlist (ys ++ [t])))) NoE s := by
  obtain ⟨u, hu, O, _, kk⟩ := name_ok (A := A) ok R g
  obtain ⟨a, vs, m, rfl, hf, ha, d⟩ := O.isList
  obtain ⟨hp, w1⟩ := evE_ok hE rm ok q1 R
  refine wpAny_Call_method1_late rfl hl (by rw [plain_star hp]; rfl) (kk p _ _ ⟨"list", "list.append", PySem.F.plainAttrs_list, PySem.F.slot_list_append, PySem.F.type_list_append, ⟨_, ha, rfl⟩, fun c e => by cases e; exact ⟨_, ha, rfl⟩, ?_⟩)
  refine PySem.P.append_list (wpAny_mono w1 (fun va s₁ h₁ => ?_) fun _ _ x => x)
  obtain ⟨Fz₁, fp₁, S₁, n₁, R₁, d₁⟩ := h₁
  obtain ⟨u', hu', O', _, _⟩ := name_ok (A := A) ok R₁ g1
  rw [hu] at hu'; cases hu'
  obtain ⟨a', vs', m', e', hf', ha', d'⟩ := O'.isList
  cases e'
  have l := d'.length
  refine ⟨vs'.toArray, m', by simp only [List.size_toArray]; exact lim_line (by omega), ha', ?_⟩
  exact EPost.after S₁ n₁ (Rel.setList R₁ hu hf' ha' (ws := vs' ++ [va]) (by simp) (d'.append (.one d₁)) (.tree .none))

theorem getLast_den {vs : List Value} {xs : List AV} (d : DenL b Fz vs xs) (h : xs.getLast? = some t) : ∃ y, vs.toArray[vs.toArray.size - 1]? = some y ∧ Den b Fz y t ∧ DenL b Fz vs.dropLast xs.dropLast := by
  have l := d.length
  rw [List.getLast?_eq_getElem?] at h
  obtain ⟨y, hy, dy⟩ := d.get h
  refine ⟨y, by simpa [l] using hy, dy, ?_⟩
  rw [List.dropLast_eq_take, List.dropLast_eq_take, l]
  exact d.take _

theorem meth_pop {p apos pos : Pos} {ys : List AV} (ok : EnvOk b env ns) (R : Rel b Fz env ns σ bd fp s.heap) (hl : (apos.endLine == pos.line) = true)
    (g : getV ns σ x = some (.mlist ys)) (hn : ys.length ≤ lim) (hlast : ys.getLast? = some t) :
    wpAny (model b.prog b.w) A (eval (.Call (.Attribute (.Name x p) "pop" apos) [] [] pos) env) (EPost b env ns bd s Fz fp (.tree t) (put σ x (.mlist ys.dropLast))) NoE s := by
  obtain ⟨u, hu, O, _, kk⟩ := name_ok (A := A) ok R g
  obtain ⟨a, vs, m, rfl, hf, ha, d⟩ := O.isList
  have l := d.length
  obtain ⟨y, hy, dy, dd⟩ := getLast_den d hlast
  refine wpAny_Call_method0_late rfl hl (kk p _ _ ⟨"list", "list.pop", PySem.F.plainAttrs_list, PySem.F.slot_list_pop, PySem.F.type_list_pop, ⟨_, ha, rfl⟩, fun c e => by cases e; exact ⟨_, ha, rfl⟩, ?_⟩)
  refine PySem.P.pop_list ha hy ?_ (by simp only [List.size_toArray]; exact lim_line (by omega))
  exact Rel.setList R hu hf ha (ws := vs.dropLast) (eraseLast vs) dd (.tree dy)

theorem meth_reverse {p apos pos : Pos} {ys : List AV} (ok : EnvOk b env ns) (R : Rel b Fz env ns σ bd fp s.heap) (hl : (apos.endLine == pos.line) = true)
    (g : getV ns σ x = some (.mlist ys)) (hn : ys.length ≤ lim) :
    wpAny (model b.prog b.w) A (eval (.Call (.Attribute (.Name x p) "reverse" apos) [] [] pos) env) (EPost b env ns bd s Fz fp (.tree .none) (put σ x (.mlist ys.reverse))) NoE s := by
  obtain ⟨u, hu, O, _, kk⟩ := name_ok (A := A) ok R g
  obtain ⟨a, vs, m, rfl, hf, ha, d⟩ := O.isList
  have l := d.length
  refine wpAny_Call_method0_late rfl hl (kk p _ _ ⟨"list", "list.reverse", PySem.F.plainAttrs_list, PySem.F.slot_list_reverse, PySem.F.type_list_reverse, ⟨_, ha, rfl⟩, fun c e => by cases e; exact ⟨_, ha, rfl⟩, ?_⟩)
  refine PySem.P.reverse_list ha ?_ (by simp only [List.size_toArray]; exact lim_line (by omega))
  exact Rel.setList R hu hf ha (ws := vs.reverse) (by simp) d.reverse (.tree .none)

theorem step_meth {m : Str} {p apos pos : Pos} {args : List Expr} (hE : EOk b n I.E) (rm : Room A n) (ok : EnvOk b env ns) (R : Rel b Fz env ns σ bd fp s.heap) (hl : (apos.endLine == pos.line) = true) (h : methE I ns x m args σ = some (r, σ')) :
    wpAny (model b.prog b.w) A (eval (.Call (.Attribute (.Name x p) m apos) args [] pos) env) (EPost b env ns bd s Fz fp r σ') NoE s := by
  rcases args with _ | ⟨e, _ | ⟨e2, _⟩⟩
  · by_cases hm : m = "pop"
    · subst hm
      obtain ⟨v, g, h⟩ := o1_some (show popE ns x σ = _ from h)
      obtain ⟨ys, g1, h⟩ := o1_some h
      obtain ⟨hn, h⟩ := if_some h
      obtain ⟨t, hlast, h⟩ := o1_some h
      cases h
      cases ownList_some g1
      exact meth_pop ok R hl g hn hlast
    · have h : (if m = "pop" then popE ns x σ else if m = "reverse" then revE ns x σ else Option.none) = some (r, σ') := h
      rw [if_neg hm] at h
      obtain ⟨hm, h⟩ := if_some h
      obtain ⟨v, g, h⟩ := o1_some h
      obtain ⟨ys, g1, h⟩ := o1_some h
      obtain ⟨hn, h⟩ := if_some h
      cases h
      cases hm
      cases ownList_some g1
      exact meth_reverse ok R hl g hn
  · obtain ⟨hm, h⟩ := if_some h
    obtain ⟨v, g, h⟩ := o1_some h
    obtain ⟨xs, g0, h⟩ := o1_some h
    obtain ⟨t, σ₁, q1, h⟩ := o2_some h
    obtain ⟨w, g1, h⟩ := o1_some h
    obtain ⟨ys, g2, h⟩ := o1_some h
    obtain ⟨hn, h⟩ := if_some h
    cases h
    cases hm
    cases ownList_some g0
    cases ownList_some g2
    exact meth_append hE rm ok R hl g q1 g1 hn
  · cases h
end
end Mini

namespace Mini
open PySem PySem.W PySem.Calls PyProof.Rows PyProof.V PySem.Spec

variable {b : Base} {K : Frag}

section
variable {env : Env} {ns : Names} {bd : Str → Option Value} {s s₁ s₂ s' : Shared} {Fz Fz₁ Fz' : FzM} {fp fp₁ : Str → List Addr} {r o : LV} {t : AV} {σ σ' σ₁ : St} {v u0 : Value} {A : Around} {n : Nat} {I : Interp} {e : Expr} {x f : Str} {h h' : Heap}
  {fp0 fo : List Addr} {fl : Flw}

theorem put_put {σ : St} {x : Str} {p q : LV} : put (put σ x p) x q = put σ x q := by
  induction σ with
  | nil => simp [put]
  | cons z r ih =>
    obtain ⟨y, u⟩ := z
    by_cases h : y = x
    · simp [put, h]
    · simp [put, h, ih]

theorem valueAt_none {kvs : List (Str × Value)} {vs : List AV} {k : Str} (d : DenL b Fz (kvs.map (·.2)) vs) (h : dictGet k (kvs.map (·.1)) vs = none) : valueAt kvs k = none := by
  induction kvs generalizing vs with
  | nil => rfl
  | cons p r ih =>
    obtain ⟨k', v⟩ := p
    cases d with
    | cons d1 d2 =>
      simp only [List.map_cons, dictGet] at h
      by_cases e : k' = k
      · rw [if_pos e] at h; cases h
      · rw [if_neg e] at h
        have := ih d2 h
        unfold valueAt at this ⊢
        have e3 : decide (k' = k) = false := decide_eq_false e
        simp only [List.find?_cons, e3]
        exact this

theorem meth_get {o e : Expr} {apos pos : Pos} {ks : List Str} {vs : List AV} {k : Str} {σ₂ : St} (hE : EOk b n I.E) (rm : Room A n) (ok : EnvOk b env ns) (R : Rel b Fz env ns σ bd fp s.heap) (hl : (apos.endLine == pos.line) = true) (ho : notSuper o = true)
    (q1 : evE I ns o σ = some (.dict ks vs, σ₁)) (q2 : evE I ns e σ₁ = some (.str k, σ₂)) :
    wpAny (model b.prog b.w) A (eval (.Call (.Attribute o "get" apos) [e] [] pos) env) (EPost b env ns bd s Fz fp (.tree ((dictGet k ks vs).getD .none)) σ₂) NoE s := by
  obtain ⟨_, w1⟩ := evE_ok hE rm ok q1 R
  have hp : plainE e = true := evE_plain q2
  refine wpAny_Call_method1_late (base_attr ho _) hl (by rw [plain_star hp]; rfl) (wpAny_mono w1 (fun vo s₁ h₁ => ?_) fun _ _ x => x)
  obtain ⟨Fz₁, fp₁, S₁, n₁, R₁, d₁⟩ := h₁
  cases d₁ with
  | dict e1 i lo r1 =>
    rename_i kvs
    have hd : Heap.DictOf (PySem.strKind b.prog b.w) s₁.heap _ kvs := Heap.dictOf_iff.mpr ⟨_, R₁.fz _ _ e1, i⟩
    refine ⟨"dict", "dict.get", PySem.F.plainAttrs_dict, PySem.F.slot_dict_get, PySem.F.type_dict_get, hd.typeIs, hd.mapOf.noDict, ?_⟩
    obtain ⟨_, w2⟩ := evE_ok hE rm ok q2 R₁
    refine wpAny_dict_get1 (knd := PySem.strKind b.prog b.w) lo (wpAny_mono w2 (fun vk s₂ h₂ => ?_) fun _ _ x => x)
    obtain ⟨Fz₂, fp₂, S₂, n₂, R₂, d₂⟩ := h₂
    cases d₂
    have hd2 : Heap.DictOf (PySem.strKind b.prog b.w) s₂.heap _ kvs := Heap.dictOf_iff.mpr ⟨_, R₂.fz _ _ (S₂.le _ _ e1), i⟩
    refine ⟨k, _, is_str _ _ _ _, hd2.mapOf, EPost.after S₁ n₁ (EPost.after S₂ n₂ (EPost.tok R₂ ?_))⟩
    cases q : dictGet k (kvs.map (·.1)) vs with
    | none => rw [valueAt_none r1 q]; exact .none
    | some t =>
      obtain ⟨w, hw, dw⟩ := valueAt_dict r1 q
      rw [hw]; exact dw.mono S₂.le

theorem Rel.stp {P : Addr → Prop} (R : Rel b Fz env ns σ bd fp s.heap) (S : Stp P s Fz s' Fz') (hz : ∀ a o, Fz' a = some o → s'.heap.get? a = some o) (p1 : ∀ a, P a → ¬ slotAt env ns a) (p2 : ∀ a x, P a → a ∉ fp x) :
    Rel b Fz' env ns σ bd fp s'.heap := by
  have slotLive : ∀ a, slotAt env ns a → ∃ o, s.heap.get? a = some o := by
    rintro a (rfl | ⟨y, hy, hc⟩)
    · obtain ⟨m, ⟨o, _, _, ho, _⟩, _⟩ := R.frame.loc
      exact ⟨o, ho⟩
    · obtain ⟨c, hl, o, ho, _⟩ := R.frame.cell y hy
      rw [hc] at hl; cases hl
      exact ⟨o, ho⟩
  have free : ∀ a o', s.heap.get? a = some o' → ¬ P a → Fz a = none → Fz' a = none := fun a o' live np e => by
    cases q : Fz' a with
    | none => rfl
    | some o =>
      rcases S.new a o q with z | z | z
      · rw [e] at z; cases z
      · rw [live] at z; cases z
      · exact absurd z np
  refine ⟨hz, fun a o e => S.le _ _ (R.base a o e), R.frame.keep fun a o hs e => S.keep a o (fun p => p1 a p hs) e, fun a hs => ?_, fun y w e => ?_, R.fpOff, fun y a m => ⟨?_, (R.fpFree y a m).2⟩, R.apart⟩
  · obtain ⟨o', ho'⟩ := slotLive a hs
    exact free a o' ho' (fun p => p1 a p hs) (R.slotFree a hs)
  · obtain ⟨u, hu, O⟩ := R.var y w e
    exact ⟨u, hu, O.keep S.le fun a o m e => S.keep a o (fun p => p2 a y p m) e⟩
  · obtain ⟨o', ho'⟩ := R.fpLive m
    exact free a o' ho' (fun p => p2 a y p m) (R.fpFree y a m).1

theorem slot_live (R : Rel b Fz env ns σ bd fp h) {a : Addr} (hs : slotAt env ns a) : ∃ o, h.get? a = some o := by
  rcases hs with rfl | ⟨y, hy, hc⟩
  · obtain ⟨m, ⟨o, _, _, ho, _⟩, _⟩ := R.frame.loc
    exact ⟨o, ho⟩
  · obtain ⟨c, hl, o, ho, _⟩ := R.frame.cell y hy
    rw [hc] at hl; cases hl
    exact ⟨o, ho⟩

theorem CPost.toG {r' : LV} (h : CPost b s Fz [] u0 fl o v s') (hr : fl = .ret r' ∨ (fl = .next ∧ r' = .tree .none)) : GPost b s Fz r' v s' := by
  obtain ⟨Fz', fo, S, hz, O, hf, C⟩ := h
  have keep : ∀ a o, s.heap.get? a = some o → s'.heap.get? a = some o := fun a o e => S.keep a o (fun m => nomatch m) e
  have new : ∀ a o, Fz' a = some o → s'.heap.get? a = some o ∧ (Fz a = some o ∨ s.heap.get? a = none) := fun a o e => ⟨hz a o e, by
    rcases S.new a o e with z | z | z
    · exact .inl z
    · exact .inr z
    · cases z⟩
  rcases hr with rfl | ⟨rfl, rfl⟩
  · obtain ⟨fv, Ov, hv⟩ := C
    refine ⟨S.same, keep, Fz', fv, S.le, new, Ov, fun a m => ⟨?_, (hv a m).1⟩⟩
    rcases (hv a m).2.2 with z | z
    · exact z
    · cases z
  · have C : v = .none := C
    subst C
    exact ⟨S.same, keep, Fz', [], S.le, new, .tree .none, fun _ m => nomatch m⟩

theorem fun_keeper {a : Addr} {oo : Obj} {fd : FuncData} (hd : oo.data = .func fd) (h : Heap) (ha : h.get? a = some oo) : ∃ k, (k = Keeper.frame ∨ k = Keeper.machine ∨ k = Keeper.boundFrame) ∧ Looks (model b.prog b.w) h (keeperOf (.ref a)) k := by
  refine ⟨.frame, .inl rfl, (Looks.ld (part := none) ha).andThen ?_⟩
  rw [hd]; exact .now

theorem call_user {p pos : Pos} {args : List Expr} {ts : List AV} {r' : LV} (B : BaseOk b K) (hE : EOk b n I.E) (hC : COk b n I.C) (rm : Room A n) (ok : EnvOk b env ns) (R : Rel b Fz env ns σ bd fp s.heap) (hg : isGlob ns f = true)
    (q : evArgs I ns args σ = some (ts, σ₁)) (qc : I.C f (ts.map .tree) = some (fl, o)) (hr : fl = .ret r' ∨ (fl = .next ∧ r' = .tree .none)) :
    wpAny (model b.prog b.w) A (eval (.Call (.Name f p) args [] pos) env) (EPost b env ns bd s Fz fp r' σ₁) NoE s := by
  obtain ⟨a, ⟨hm, oo, fd, ha, hd⟩, c1, c0⟩ := hC f _ fl o qc
  refine Call_Name0 (glob_own B ok hg R hm ?_)
  refine callW_ok (P := fun h => h.get? a = some oo) hE rm ok R (fun h => fun_keeper hd h) q fun us s₁ Fz₁ fp₁ S₁ n₁ R₁ d₁ => ⟨R₁.toBase _ _ ha, ?_⟩
  cases d₁ with
  | nil => exact wpAny_mono (c0 A Fz₁ s₁ rfl rm R₁.fz R₁.base) (fun v s₂ h₂ => EPost.after S₁ n₁ (EPost.ofG R₁ (h₂.toG hr))) fun _ _ x => x
  | cons d1 d2 => exact wpAny_mono (c1 A _ _ _ _ [] Fz₁ s₁ rfl rm R₁.fz R₁.base (.tree d1) (fun _ m => nomatch m) d2) (fun v s₂ h₂ => EPost.after S₁ n₁ (EPost.ofG R₁ (h₂.toG hr))) fun _ _ x => x

theorem call_inoutName {p pos : Pos} {e : Expr} {rest : List Expr} (B : BaseOk b K) (hE : EOk b n I.E) (hC : COk b n I.C) (rm : Room A n) (ok : EnvOk b env ns) (R : Rel b Fz env ns σ bd fp s.heap) (hg : isGlob ns f = true) {v0 : LV}
    (q0 : ownNamed ns σ e = some (x, v0)) (h : inoutName I ns f x rest σ = some (r, σ')) :
    wpAny (model b.prog b.w) A (eval (.Call (.Name f p) (e :: rest) [] pos) env) (EPost b env ns bd s Fz fp r σ') NoE s := by
  obtain ⟨vs, σ₁, q1, h⟩ := o2_some h
  obtain ⟨lv, q2, h⟩ := o1_some h
  obtain ⟨ow, h⟩ := if_some h
  obtain ⟨fl, o, qc, h⟩ := o2_some h
  obtain ⟨⟨px, rfl⟩, g0, _⟩ := ownNamed_some q0
  obtain ⟨u, hu, O0, _, kk⟩ := name_ok (A := A) ok R g0
  obtain ⟨a, ⟨hm, oo, fd, ha, hd⟩, c1, _⟩ := hC f _ fl o qc
  refine Call_Name0 (glob_own B ok hg R hm ?_)
  have hplain := (args_noStar (env := env) (pos := pos) rest q1).1
  refine callWith_of (P := fun h => h.get? a = some oo) (by show ((backTo pos (starEach rest env)).any (·.1) || false) = false; rw [hplain]; rfl) (fun h => fun_keeper hd h) ?_
  refine evalArgs_plain (spliced_cons (kk px _ _ (wpAny_mono (args_ok (pos := pos) hE rm ok rest q1 R) (fun us s₁ h₁ => ?_) fun _ _ x => x)))
  obtain ⟨Fz₁, fp₁, S₁, n₁, R₁, d₁⟩ := h₁
  refine ⟨R₁.toBase _ _ ha, ?_⟩
  obtain ⟨u', hu', O1, _, _⟩ := name_ok (A := A) ok R₁ q2
  rw [hu] at hu'; cases hu'
  refine wpAny_mono (c1 A lv vs u us (fp₁ x) Fz₁ s₁ rfl rm R₁.fz R₁.base O1 (fun a m => (R₁.fpFree x a m).1) d₁) (fun v s₂ h₂ => EPost.after S₁ n₁ ?_) fun _ _ x => x
  obtain ⟨Fz₂, fo, S₂, hz, O2, hf, C⟩ := h₂
  have R₂ := R₁.set (Fz' := Fz₂) (h' := s₂.heap) (lv := o) (f := fo) hu S₂.le hz (fun a o nm e => S₂.keep a o nm e) (fun a o e => S₂.new a o e) O2 (fun a m => hf a m)
  have newFp : ∀ a, inFp (fun y => if y = x then fo else fp₁ y) a → inFp fp₁ a ∨ s₁.heap.get? a = none := by
    rintro a ⟨y, m⟩
    by_cases q : y = x
    · simp only [q, if_true] at m
      exact (hf a m).2.imp (fun z => ⟨x, z⟩) id
    · simp only [q, if_false] at m; exact .inl ⟨y, m⟩
  have S₂' : Stp (inFp fp₁) s₁ Fz₁ s₂ Fz₂ := S₂.weak fun a m => ⟨x, m⟩
  cases fl with
  | ret lvr =>
    cases h
    obtain ⟨fv, Ov, hv⟩ := C
    refine ⟨Fz₂, _, fv, S₂', newFp, R₂, Ov, fun a m => ⟨(hv a m).1, fun hs => ?_, fun y my => ?_, ?_⟩⟩
    · rcases (hv a m).2.2 with z | z
      · obtain ⟨o', ho'⟩ := slot_live R₁ hs
        rw [z] at ho'; cases ho'
      · exact (R₁.fpFree x a z).2 hs
    · by_cases q : y = x
      · simp only [q, if_true] at my
        exact (hv a m).2.1 my
      · simp only [q, if_false] at my
        rcases (hv a m).2.2 with z | z
        · obtain ⟨o', ho'⟩ := R₁.fpLive my
          rw [z] at ho'; cases ho'
        · exact R₁.apart y x a q my z
    · exact (hv a m).2.2.imp id fun z => ⟨x, z⟩
  | retv y lvr =>
    cases h
    have C : v = u := C
    subst C
    have := EPost.name R₂ hu (by simpa using O2)
    rw [put_put] at this
    exact EPost.after S₂' newFp this
  | next =>
    cases h
    have C : v = .none := C
    subst C
    exact EPost.after S₂' newFp (EPost.tok (tk := s₂.toks) R₂ .none)
  | brk => exact C.elim

theorem call_inoutTemp {p pos : Pos} {e : Expr} {rest : List Expr} (B : BaseOk b K) (hE : EOk b n I.E) (hC : COk b n I.C) (rm : Room A n) (ok : EnvOk b env ns) (R : Rel b Fz env ns σ bd fp s.heap) (hg : isGlob ns f = true)
    (h : inoutTemp I ns f e rest σ = some (r, σ')) :
    wpAny (model b.prog b.w) A (eval (.Call (.Name f p) (e :: rest) [] pos) env) (EPost b env ns bd s Fz fp r σ') NoE s := by
  obtain ⟨lv, σ₀, q0, h⟩ := o2_some h
  obtain ⟨ow, h⟩ := if_some h
  obtain ⟨vs, σ₁, q1, h⟩ := o2_some h
  obtain ⟨fl, o, qc, h⟩ := o2_some h
  obtain ⟨a, ⟨hm, oo, fd, ha, hd⟩, c1, _⟩ := hC f _ fl o qc
  refine Call_Name0 (glob_own B ok hg R hm ?_)
  have hplain := (args_noStar (env := env) (pos := pos) rest q1).1
  rw [plain_star ow.2]
  refine callWith_of (P := fun h => h.get? a = some oo) (by show ((backTo pos (starEach rest env)).any (·.1) || false) = false; rw [hplain]; rfl) (fun h => fun_keeper hd h) ?_
  refine evalArgs_plain (spliced_cons (wpAny_mono (hE A env ns e σ lv σ₀ bd fp Fz s rm ok q0 R) (fun u s₀ h₀ => ?_) fun _ _ x => x))
  obtain ⟨Fz₀, fp₀, fv, S₀, n₀, R₀, O0, hv⟩ := h₀
  refine wpAny_mono (args_ok (pos := pos) hE rm ok rest q1 R₀) (fun us s₁ h₁ => ?_) fun _ _ x => x
  obtain ⟨Fz₁, fp₁, S₁, n₁, R₁, d₁⟩ := h₁
  have offFp : ∀ a ∈ fv, ¬ inFp fp₀ a := fun a m ⟨y, my⟩ => (hv a m).2.2.1 y my
  have liveV : ∀ a ∈ fv, ∃ o, s₀.heap.get? a = some o := O0.live
  have O1 : Own b Fz₁ s₁.heap u lv fv := O0.keep S₁.le fun a o m e => S₁.keep a o (offFp a m) e
  have freeV : ∀ a ∈ fv, Fz₁ a = none := fun a m => by
    cases q : Fz₁ a with
    | none => rfl
    | some oz =>
      rcases S₁.new a oz q with z | z | z
      · rw [(hv a m).1] at z; cases z
      · obtain ⟨o', ho'⟩ := liveV a m
        rw [z] at ho'; cases ho'
      · exact absurd z (offFp a m)
  have off1 : ∀ a ∈ fv, ∀ y, a ∉ fp₁ y := fun a m y my => by
    rcases n₁ a ⟨y, my⟩ with z | z
    · exact offFp a m z
    · obtain ⟨o', ho'⟩ := liveV a m
      rw [z] at ho'; cases ho'
  refine ⟨R₁.toBase _ _ ha, ?_⟩
  refine wpAny_mono (c1 A lv vs u us fv Fz₁ s₁ rfl rm R₁.fz R₁.base O1 freeV d₁) (fun v s₂ h₂ => ?_) fun _ _ x => x
  obtain ⟨Fz₂, fo, S₂, hz, O2, hf, C⟩ := h₂
  have R₂ := R₁.stp S₂ hz (fun a m => (hv a m).2.1) (fun a y m => off1 a m y)
  have S01 : Stp (inFp fp) s Fz s₁ Fz₁ := S₀.trans S₁ n₀
  have fresh01 : ∀ a, s₁.heap.get? a = none → s.heap.get? a = none ∨ inFp fp a := fun a z => by
    by_cases pp : inFp fp a
    · exact .inr pp
    · cases q : s.heap.get? a with
      | none => exact .inl rfl
      | some o' => rw [S01.keep a o' pp q] at z; cases z
  have S02 : Stp (inFp fp) s Fz s₂ Fz₂ := S01.trans S₂ fun a m => (hv a m).2.2.2.symm
  have nfp : ∀ a, inFp fp₁ a → inFp fp a ∨ s.heap.get? a = none := fun a m => by
    rcases n₁ a m with z | z
    · exact n₀ a z
    · by_cases pp : inFp fp a
      · exact .inl pp
      · cases q : s.heap.get? a with
        | none => exact .inr rfl
        | some o' => rw [S₀.keep a o' pp q] at z; cases z
  have offAll : ∀ a, (a ∈ fv ∨ s₁.heap.get? a = none) → ¬ slotAt env ns a ∧ (∀ y, a ∉ fp₁ y) ∧ (s.heap.get? a = none ∨ inFp fp a) := fun a z => by
    rcases z with z | z
    · exact ⟨(hv a z).2.1, off1 a z, (hv a z).2.2.2⟩
    · refine ⟨fun hs => ?_, fun y my => ?_, fresh01 a z⟩
      · obtain ⟨o', ho'⟩ := slot_live R₁ hs
        rw [z] at ho'; cases ho'
      · obtain ⟨o', ho'⟩ := R₁.fpLive my
        rw [z] at ho'; cases ho'
  cases fl with
  | ret lvr =>
    cases h
    obtain ⟨fw, Ov, hw⟩ := C
    exact ⟨Fz₂, fp₁, fw, S02, nfp, R₂, Ov, fun a m => ⟨(hw a m).1, offAll a ((hw a m).2.2.symm)⟩⟩
  | retv y lvr =>
    cases h
    have C : v = u := C
    subst C
    exact ⟨Fz₂, fp₁, fo, S02, nfp, R₂, O2, fun a m => ⟨(hf a m).1, offAll a (hf a m).2⟩⟩
  | next =>
    cases h
    have C : v = .none := C
    subst C
    exact ⟨Fz₂, fp₁, [], S02, nfp, R₂, .tree .none, fun _ m => nomatch m⟩
  | brk => exact C.elim
end
end Mini

namespace Mini
open PySem PySem.W PySem.Calls PyProof.Rows PyProof.V PySem.Spec

variable {b : Base} {K : Frag}

inductive IterObj (b : Base) (Fz : FzM) : Obj → List AV → Prop
  | list {o : Obj} {l : Addr} {i : Nat} {vs : List Value} {m : Nat} {items : List AV} : o.cls = .type "list_iterator" → o.data = .fields #[.ref l, .int i 0] → Fz l = some (W.listOf vs.toArray m) → DenL b Fz (vs.drop i) items → IterObj b Fz o items
  | rng {x step : Int} {items : List AV} : items = (List.range items.length).map (fun (i : Nat) => AV.int (x + i * step)) →
      IterObj b Fz { cls := .type "range_iterator", dict := none, data := .fields #[rawInt x, rawInt items.length, rawInt step], slots := #[] } items

theorem IterObj.mono {Fz Fz' : FzM} {o : Obj} {items : List AV} (x : IterObj b Fz o items) (le : FzLe Fz Fz') : IterObj b Fz' o items := by
  cases x with
  | list c d e r => exact .list c d (le _ _ e) (r.mono le)
  | rng e => exact .rng e

theorem range_split {n : Nat} {x step : Int} {a : AV} {items : List AV} (e : a :: items = (List.range (n + 1)).map (fun (i : Nat) => AV.int (x + i * step))) : a = .int x ∧ items = (List.range n).map (fun (i : Nat) => AV.int (x + step + i * step)) := by
  rw [List.range_succ_eq_map, List.map_cons, List.map_map] at e
  injection e with e1 e2
  refine ⟨by rw [e1]; simp, ?_⟩
  rw [e2]
  apply List.map_congr_left
  intro i _
  simp only [Function.comp]
  congr 1
  push_cast
  rw [Int.add_mul, Int.one_mul]; omega

section
variable {env : Env} {ns : Names} {bd : Str → Option Value} {s s₁ s₂ s' : Shared} {Fz Fz₁ Fz' : FzM} {fp fp₁ : Str → List Addr} {r o : LV} {t : AV} {σ σ' σ₁ : St} {v u0 : Value} {A : Around} {n : Nat} {I : Interp} {e : Expr} {x f : Str} {h h' : Heap}

theorem next_some {it : Addr} {oi : Obj} {a : AV} {items : List AV} {Q : Option Value → Shared → Prop} {E : Value → Shared → Prop} (hz : ∀ a o, Fz a = some o → s.heap.get? a = some o) (hi : s.heap.get? it = some oi) (x : IterObj b Fz oi (a :: items))
    (k : ∀ v h' tk oi', Den b Fz v a → h'.get? it = some oi' → IterObj b Fz oi' items → Heap.SameBut it s.heap h' → Q (some v) { s with heap := h', toks := tk }) :
    wpAny (model b.prog b.w) A (pyNext (.ref it)) Q E s := by
  cases x with
  | list c d e r =>
    rename_i l i vs m
    have hit : s.heap.IsListIter it l i := ⟨_, hi, c, d⟩
    have hl : s.heap.IsList l vs.toArray := ⟨_, hz _ _ e, rfl, _, rfl⟩
    cases hd : vs.drop i with
    | nil => rw [hd] at r; cases r
    | cons v rest =>
      rw [hd] at r
      cases r with
      | cons dv dr =>
        have hv : vs[i]? = some v := by
          have := congrArg List.head? hd
          rw [List.head?_drop] at this
          simpa using this
        have hr : vs.drop (i + 1) = rest := by
          have := congrArg List.tail hd
          simpa [List.tail_drop] using this
        refine wpAny_pyNext_list_item hit hl (by simpa using hv) fun h' hit' hs => ?_
        obtain ⟨oi', ho', c', d'⟩ := hit'
        exact k v h' s.toks oi' dv ho' (.list c' d' e (by rw [hr]; exact dr)) hs
  | rng e =>
    rename_i x step
    obtain ⟨ha, e2⟩ := range_split (n := items.length) (by simpa using e)
    subst ha
    refine wpAny_pyNext_range_item hi (by simp only [List.length_cons]; omega) fun h' hit' hs => ?_
    have q : (((AV.int x :: items).length : Nat) : Int) - 1 = items.length := by simp
    rw [q] at hit'
    exact k _ h' _ _ (.int _ _) hit' (.rng e2) hs

theorem next_none {it : Addr} {oi : Obj} {Q : Option Value → Shared → Prop} {E : Value → Shared → Prop} (hh : A.handled = none) (hz : ∀ a o, Fz a = some o → s.heap.get? a = some o) (hi : s.heap.get? it = some oi) (x : IterObj b Fz oi [])
    (k : ∀ h', Heap.ExtBut it s.heap h' → Q none { s with heap := h' }) :
    wpAny (model b.prog b.w) A (pyNext (.ref it)) Q E s := by
  cases x with
  | list c d e r =>
    rename_i l i vs m
    have hit : s.heap.IsListIter it l i := ⟨_, hi, c, d⟩
    have hl : s.heap.IsList l vs.toArray := ⟨_, hz _ _ e, rfl, _, rfl⟩
    refine wpAny_pyNext_list_end hh hit hl ?_ k
    cases hd : vs.drop i with
    | nil =>
      have := List.drop_eq_nil_iff.mp hd
      simpa using this
    | cons v rest => rw [hd] at r; cases r
  | rng e => exact wpAny_pyNext_range_end hh hi (by simp) k

theorem iter_again {it : Addr} {oi : Obj} {items : List AV} {Q E : Value → Shared → Prop} (hi : s.heap.get? it = some oi) (x : IterObj b Fz oi items) (q : Q (.ref it) s) : wpAny (model b.prog b.w) A (pyIter (.ref it)) Q E s := by
  cases x with
  | list c d e r => exact wpAny_pyIter_listiter ⟨_, hi, c, d⟩ q
  | rng e => exact wpAny_pyIter_rangeiter hi q

theorem rng_eq {a c z : Int} {xs : List AV} (h : rngList a c z = some xs) : xs = (List.range xs.length).map fun (i : Nat) => AV.int (a + i * z) := by
  unfold rngList at h
  split at h
  · split at h
    · rename_i hz; subst hz
      cases h
      simp
    · split at h
      · rename_i hz; subst hz
        cases h
        simp only [List.length_map, List.length_range]
        apply List.map_congr_left
        intro i _
        congr 1
        omega
      · cases h
  · cases h

theorem iter_of {items : List AV} {Q E : Value → Shared → Prop} (hz : ∀ a o, Fz a = some o → s.heap.get? a = some o) (d : Den b Fz v t) (hi : iterOf t = some items)
    (k : ∀ oi, oi.isFreed = false → IterObj b Fz oi items → Q (.ref s.heap.objs.size) { s with heap := s.heap.push oi }) : wpAny (model b.prog b.w) A (pyIter v) Q E s := by
  cases d with
  | list e r => cases hi; exact wpAny_pyIter_list ⟨_, hz _ _ e, rfl, _, rfl⟩ (k _ rfl (.list rfl rfl e (by simpa using r)))
  | rng e =>
    obtain ⟨o1, o2, o3⟩ := rngOk hi
    refine wpAny_pyIter_range (hz _ _ e) o1 ?_
    rw [o2]
    exact k _ rfl (.rng (rng_eq hi))
  | _ => cases hi
end
end Mini

namespace Mini
open PySem PySem.W PySem.Calls PyProof.Rows PyProof.V PySem.Spec

variable {b : Base} {K : Frag}

def SlotIs (env : Env) (ns : Names) (x : Str) (a : Addr) : Prop := (ns.lookup x = some .local ∧ a = env.locals) ∨ (ns.lookup x = some .cell ∧ env.cells.lookup x = some a)
theorem SlotIs.at {env : Env} {ns : Names} {x : Str} {a : Addr} (h : SlotIs env ns x a) : slotAt env ns a := by
  rcases h with ⟨_, h⟩ | ⟨h1, h2⟩
  · exact .inl h
  · exact .inr ⟨x, h1, h2⟩

section
variable {env : Env} {ns : Names} {bd bd' : Str → Option Value} {s s₁ s₂ s' : Shared} {Fz Fz₁ Fz' : FzM} {fp fp₁ fp' : Str → List Addr} {r o lv : LV} {t : AV} {σ σ' σ₁ : St} {v u u0 : Value} {A : Around} {n : Nat} {I : Interp} {e : Expr} {x f : Str} {h h' : Heap}
  {a : Addr} {fv : List Addr}

theorem Rel.stored (R : Rel b Fz env ns σ bd fp h) (ha : slotAt env ns a) (hs : Heap.SameBut a h h') (F : Frame env ns (fun y => if y = x then some u else bd y) h')
    (O : Own b Fz h u lv fv) (hf : ∀ c ∈ fv, Fz c = none ∧ ¬ slotAt env ns c ∧ ∀ y, y ≠ x → c ∉ fp y) :
    Rel b Fz env ns (put σ x lv) (fun y => if y = x then some u else bd y) (fun y => if y = x then fv else fp y) h' := by
  have oth : ∀ c o, c ≠ a → h.get? c = some o → h'.get? c = some o := fun c o ne e => (hs.2 c ne).trans e
  refine ⟨fun c o e => oth c o (fun q => ?_) (R.fz c o e), R.base, F, R.slotFree, fun y w e => ?_, fun y e => ?_, fun y c m => ?_, fun y z c hyz m1 m2 => ?_⟩
  · rw [q, R.slotFree a ha] at e; cases e
  · rw [lookup_put] at e
    by_cases q : y = x
    · rw [if_pos q] at e; cases e
      refine ⟨u, by simp [q], ?_⟩
      simp only [q, if_true]
      exact O.keep (.refl _) fun c o m e => oth c o (fun z => (hf c m).2.1 (z ▸ ha)) e
    · rw [if_neg q] at e
      obtain ⟨u', hu', O'⟩ := R.var y w e
      refine ⟨u', by simp [q, hu'], ?_⟩
      simp only [q, if_false]
      exact O'.keep (.refl _) fun c o m e => oth c o (fun z => (R.fpFree y c m).2 (z ▸ ha)) e
  · rw [lookup_put] at e
    by_cases q : y = x
    · rw [if_pos q] at e; cases e
    · rw [if_neg q] at e ⊢; exact R.fpOff y e
  · by_cases q : y = x
    · simp only [q, if_true] at m
      exact ⟨(hf c m).1, (hf c m).2.1⟩
    · simp only [q, if_false] at m; exact R.fpFree y c m
  · by_cases q : y = x
    · simp only [q, if_true] at m1
      have q2 : z ≠ x := fun e => hyz (q.trans e.symm)
      simp only [q2, if_false] at m2
      exact (hf c m1).2.2 z q2 m2
    · simp only [q, if_false] at m1
      by_cases q2 : z = x
      · simp only [q2, if_true] at m2
        exact (hf c m2).2.2 y q m1
      · simp only [q2, if_false] at m2; exact R.apart y z c hyz m1 m2

theorem store_ok (ok : EnvOk b env ns) (R : Rel b Fz env ns σ bd fp s.heap) (hv : isVar ns x = true) (O : Own b Fz s.heap u lv fv) (hf : ∀ c ∈ fv, Fz c = none ∧ ¬ slotAt env ns c ∧ ∀ y, y ≠ x → c ∉ fp y)
    {Q : Unit → Shared → Prop} {E : Value → Shared → Prop}
    (k : ∀ a h' tk, SlotIs env ns x a → Heap.SameBut a s.heap h' → Rel b Fz env ns (put σ x lv) (fun y => if y = x then some u else bd y) (fun y => if y = x then fv else fp y) h' → Q () { s with heap := h', toks := tk }) :
    wpAny (model b.prog b.w) A (storeName env x u) Q E s := by
  obtain ⟨hk, _⟩ := isVar_or hv
  have kd : ∀ y, env.kindOf y = ns.lookup y := fun y => by unfold Env.kindOf; rw [ok.names]
  obtain ⟨m, hm, he⟩ := R.frame.loc
  rcases hk with hk | hk
  · refine wpAny_storeName_local ((kd x).trans hk) hm (fun h' hn hs => ?_) (by rw [ok.kind]; rfl)
    refine k _ h' _ (.inl ⟨hk, rfl⟩) hs (R.stored (.inl rfl) hs ⟨⟨_, hn, fun y hy => ?_⟩, fun y hy => ?_⟩ O hf)
    · by_cases q : y = x
      · simp [q]
      · simp only [q, if_false]; exact he y hy
    · obtain ⟨c, hl, hc⟩ := R.frame.cell y hy
      have ne : y ≠ x := fun q => by rw [q, hk] at hy; cases hy
      simp only [ne, if_false]
      exact ⟨c, hl, hc.sameBut hs (ok.off y c hy hl)⟩
  · obtain ⟨c, hl, hc⟩ := R.frame.cell x hk
    refine wpAny_storeName_cell ok.kind ((kd x).trans hk) hl hc fun h' hn hs => ?_
    refine k c h' s.toks (.inr ⟨hk, hl⟩) hs (R.stored (.inr ⟨x, hk, hl⟩) hs ⟨⟨m, hm.sameBut hs (Ne.symm (ok.off x c hk hl)), fun y hy => ?_⟩, fun y hy => ?_⟩ O hf)
    · have ne : y ≠ x := fun q => by rw [q, hk] at hy; cases hy
      simp only [ne, if_false]; exact he y hy
    · by_cases q : y = x
      · subst q; simp only [if_true]; exact ⟨c, hl, hn⟩
      · simp only [q, if_false]
        obtain ⟨c', hl', hc'⟩ := R.frame.cell y hy
        exact ⟨c', hl', hc'.sameBut hs fun e => q (ok.apart y x c' hy hk hl' (e ▸ hl))⟩

structure Off (Fz : FzM) (env : Env) (ns : Names) (fp : Str → List Addr) (h : Heap) (a : Addr) (o : Obj) : Prop where
  at' : h.get? a = some o
  fz : Fz a = none
  slot : ¬ slotAt env ns a
  fp : ∀ x, a ∉ fp x

theorem Off.step {a : Addr} {o : Obj} {P : Addr → Prop} (X : Off Fz env ns fp s.heap a o) (S : Stp P s Fz s' Fz') (nw : ∀ a, inFp fp' a → inFp fp a ∨ s.heap.get? a = none) (np : ¬ P a) : Off Fz' env ns fp' s'.heap a o := by
  refine ⟨S.keep a o np X.at', ?_, X.slot, fun x m => ?_⟩
  · cases q : Fz' a with
    | none => rfl
    | some o' =>
      rcases S.new a o' q with z | z | z
      · rw [X.fz] at z; cases z
      · rw [X.at'] at z; cases z
      · exact absurd z np
  · rcases nw a ⟨x, m⟩ with ⟨y, z⟩ | z
    · exact X.fp y z
    · rw [X.at'] at z; cases z
end
end Mini

namespace Mini
open PySem PySem.W PySem.Calls PyProof.Rows PyProof.V PySem.Spec

variable {b : Base} {K : Frag}

section
variable {env : Env} {ns : Names} {bd bd' : Str → Option Value} {s s₁ s₂ s' s0 : Shared} {Fz Fz₁ Fz' Fz0 : FzM} {fp fp₁ fp' : Str → List Addr} {r o lv : LV} {t : AV} {σ σ' σ₁ : St} {v u u0 : Value} {A : Around} {n : Nat} {I : Interp} {e : Expr} {x f : Str} {h h' : Heap}
  {a : Addr} {fv : List Addr} {P Q : Addr → Prop} {X : Addr → Option Obj} {oi oi' : Obj}

def upd (X : Addr → Option Obj) (a : Addr) (o : Option Obj) : Addr → Option Obj := fun c => if c = a then o else X c
theorem upd_at : upd X a (some oi) a = some oi := if_pos rfl
theorem upd_ne {c : Addr} {o : Option Obj} (h : c ≠ a) : upd X a o c = X c := if_neg h

structure CS (b : Base) (P : Addr → Prop) (s0 : Shared) (Fz0 : FzM) (env : Env) (ns : Names) (X : Addr → Option Obj) (σ : St) (bd : Str → Option Value) (Fz : FzM) (fp : Str → List Addr) (s : Shared) : Prop where
  stp : Stp P s0 Fz0 s Fz
  nw : ∀ a, inFp fp a → P a ∨ s0.heap.get? a = none
  rel : Rel b Fz env ns σ bd fp s.heap
  ex : ∀ a o, X a = some o → (P a ∨ s0.heap.get? a = none) ∧ Off Fz env ns fp s.heap a o

theorem CS.fresh (C : CS b P s0 Fz0 env ns X σ bd Fz fp s) (e : s.heap.get? a = none) : P a ∨ s0.heap.get? a = none := by
  by_cases p : P a
  · exact .inl p
  · cases z : s0.heap.get? a with
    | none => exact .inr rfl
    | some o => rw [C.stp.keep a o p z] at e; cases e

theorem CS.eval (C : CS b P s0 Fz0 env ns X σ bd Fz fp s) (S : Stp Q s Fz s' Fz') (hq : ∀ a, Q a → inFp fp a ∨ slotAt env ns a) (hp : ∀ a, Q a → P a ∨ s0.heap.get? a = none) (nw : ∀ a, inFp fp' a → inFp fp a ∨ s.heap.get? a = none)
    (R : Rel b Fz' env ns σ' bd' fp' s'.heap) : CS b P s0 Fz0 env ns X σ' bd' Fz' fp' s' := by
  refine ⟨C.stp.trans S hp, fun a m => ?_, R, fun a o e => ?_⟩
  · rcases nw a m with z | z
    · exact C.nw a z
    · exact C.fresh z
  · obtain ⟨h1, O⟩ := C.ex a o e
    refine ⟨h1, O.step S nw fun q => ?_⟩
    rcases hq a q with ⟨y, z⟩ | z
    · exact O.fp y z
    · exact O.slot z

theorem CS.evalS (C : CS b P s0 Fz0 env ns X σ bd Fz fp s) (h : SPost b env ns bd s Fz fp σ' s') : ∃ Fz' fp', FzLe Fz Fz' ∧ CS b P s0 Fz0 env ns X σ' bd Fz' fp' s' := by
  obtain ⟨Fz', fp', S, nw, R⟩ := h
  exact ⟨Fz', fp', S.le, C.eval S (fun a m => .inl m) C.nw nw R⟩
theorem CS.evalT (C : CS b P s0 Fz0 env ns X σ bd Fz fp s) (h : TPost b env ns bd s Fz fp t σ' v s') : ∃ Fz' fp', FzLe Fz Fz' ∧ CS b P s0 Fz0 env ns X σ' bd Fz' fp' s' ∧ Den b Fz' v t := by
  obtain ⟨Fz', fp', S, nw, R, d⟩ := h
  exact ⟨Fz', fp', S.le, C.eval S (fun a m => .inl m) C.nw nw R, d⟩

theorem CS.touchO {tk : Nat} {o' : Option Obj} (C : CS b P s0 Fz0 env ns X σ bd Fz fp s) (e : X a = some oi) (hk : ∀ c o, c ≠ a → s.heap.get? c = some o → h'.get? c = some o) (ho : ∀ z, o' = some z → h'.get? a = some z) :
    CS b P s0 Fz0 env ns (upd X a o') σ bd Fz fp { s with heap := h', toks := tk } := by
  obtain ⟨h1, O⟩ := C.ex a oi e
  have S : Stp (· = a) s Fz { s with heap := h', toks := tk } Fz := ⟨⟨h', tk, rfl⟩, fun c o ne e => hk c o ne e, .refl _, fun c o e => .inl e⟩
  have hz : ∀ c o, Fz c = some o → h'.get? c = some o := fun c o e => hk c o (fun q => by rw [q, O.fz] at e; cases e) (C.rel.fz c o e)
  refine ⟨C.stp.trans S fun c q => q ▸ h1, C.nw, C.rel.stp S hz (fun c q => q ▸ O.slot) (fun c y q => q ▸ O.fp y), fun c o ec => ?_⟩
  by_cases q : c = a
  · subst q
    unfold upd at ec
    rw [if_pos rfl] at ec
    exact ⟨h1, ho o ec, O.fz, O.slot, O.fp⟩
  · rw [upd_ne q] at ec
    obtain ⟨h2, O2⟩ := C.ex c o ec
    exact ⟨h2, hk c o q O2.at', O2.fz, O2.slot, O2.fp⟩

theorem CS.store (ok : EnvOk b env ns) (C : CS b P s0 Fz0 env ns X σ bd Fz fp s) (hv : isVar ns x = true) (hs : ∀ a, SlotIs env ns x a → P a ∨ s0.heap.get? a = none) (O : Own b Fz s.heap u lv fv) (hf : ∀ c ∈ fv, Fz c = none ∧ ¬ slotAt env ns c ∧ (∀ y, y ≠ x → c ∉ fp y) ∧ X c = none ∧ (P c ∨ s0.heap.get? c = none))
    {Q' : Unit → Shared → Prop} {E : Value → Shared → Prop}
    (k : ∀ s', CS b P s0 Fz0 env ns X (put σ x lv) (fun y => if y = x then some u else bd y) Fz (fun y => if y = x then fv else fp y) s' → Q' () s') :
    wpAny (model b.prog b.w) A (storeName env x u) Q' E s := by
  refine store_ok ok C.rel hv O (fun c m => ⟨(hf c m).1, (hf c m).2.1, (hf c m).2.2.1⟩) fun a h' tk sl sb R => k _ ?_
  have S : Stp (· = a) s Fz { s with heap := h', toks := tk } Fz := ⟨⟨h', tk, rfl⟩, fun c o ne e => (sb.2 c ne).trans e, .refl _, fun c o e => .inl e⟩
  refine ⟨C.stp.trans S fun c q => q ▸ hs a sl, fun c m => ?_, R, fun c o ec => ?_⟩
  · obtain ⟨y, m⟩ := m
    by_cases q : y = x
    · simp only [q, if_true] at m; exact (hf c m).2.2.2.2
    · simp only [q, if_false] at m; exact C.nw c ⟨y, m⟩
  · obtain ⟨h1, O1⟩ := C.ex c o ec
    refine ⟨h1, (sb.2 c fun q => O1.slot (q ▸ sl.at)).trans O1.at', O1.fz, O1.slot, fun y m => ?_⟩
    by_cases q : y = x
    · simp only [q, if_true] at m
      rw [(hf c m).2.2.2.1] at ec; cases ec
    · simp only [q, if_false] at m; exact O1.fp y m

theorem CS.storeTree (ok : EnvOk b env ns) (C : CS b P s0 Fz0 env ns X σ bd Fz fp s) (hv : isVar ns x = true) (hs : ∀ a, SlotIs env ns x a → P a ∨ s0.heap.get? a = none) (d : Den b Fz u t)
    {Q' : Unit → Shared → Prop} {E : Value → Shared → Prop}
    (k : ∀ s', CS b P s0 Fz0 env ns X (put σ x (.tree t)) (fun y => if y = x then some u else bd y) Fz (fun y => if y = x then [] else fp y) s' → Q' () s') :
    wpAny (model b.prog b.w) A (storeName env x u) Q' E s := CS.store ok C hv hs (.tree d) (fun _ m => nomatch m) k

theorem Rel.push (R : Rel b Fz env ns σ bd fp h) : Rel b Fz env ns σ bd fp (h.push oi) :=
  R.grow (fun c o e => Heap.get?_push_of_some _ e) (.refl _) (fun c o e => Heap.get?_push_of_some _ (R.fz c o e)) fun c o e => .inl e

theorem size_none (h : Heap) : h.get? h.objs.size = none := Heap.get?_none_of_le (Nat.le_refl _)

theorem CS.push (C : CS b P s0 Fz0 env ns X σ bd Fz fp s) (nf : oi.isFreed = false) : CS b P s0 Fz0 env ns (upd X s.heap.objs.size (some oi)) σ bd Fz fp { s with heap := s.heap.push oi } := by
  have nn := size_none s.heap
  have old : ∀ c o, s.heap.get? c = some o → (s.heap.push oi).get? c = some o := fun c o e => Heap.get?_push_of_some _ e
  have S : Stp (fun _ => False) s Fz { s with heap := s.heap.push oi } Fz := ⟨⟨_, s.toks, rfl⟩, fun c o _ e => old c o e, .refl _, fun c o e => .inl e⟩
  refine ⟨C.stp.trans S fun c q => q.elim, C.nw, C.rel.push, fun c o ec => ?_⟩
  by_cases q : c = s.heap.objs.size
  · subst q
    rw [upd_at] at ec; cases ec
    refine ⟨C.fresh nn, Heap.get?_push_size _ nf, ?_, fun hs => ?_, fun y m => ?_⟩
    · cases z : Fz s.heap.objs.size with
      | none => rfl
      | some o' => rw [C.rel.fz _ _ z] at nn; cases nn
    · obtain ⟨o', ho'⟩ := slot_live C.rel hs
      rw [nn] at ho'; cases ho'
    · obtain ⟨o', ho'⟩ := C.rel.fpLive m
      rw [nn] at ho'; cases ho'
  · rw [upd_ne q] at ec
    obtain ⟨h2, O2⟩ := C.ex c o ec
    exact ⟨h2, old c o O2.at', O2.fz, O2.slot, O2.fp⟩
end
end Mini

namespace Mini
open PySem PySem.W PySem.Calls PyProof.Rows PyProof.V PySem.Spec

variable {b : Base} {K : Frag}

def emitTurn (p : Pos) (target elt : Expr) (ifs : List Expr) (it acc : Value) (env : Env) (nx : Code) : Sem Fin := do
  standAt p
  match ← pyNext it with
  | none => pure (.done .next)
  | some v =>
    letOwnedTupleGo target it v
    assign target env v
    let mut ok := true
    for c in ifs do
      if ok then ok ← isTrue c env (eval c env)
    if ok then
      (do let _ ← call (.builtin "list.append") [acc, ← eval elt env])
    again nx

theorem emit1 (elt target iter : Expr) (ifs : List Expr) (scope : Scope) (pos : Pos) (it acc : Value) (env : Env) :
    compTurn (.ListComp elt [⟨target, iter, ifs, 0⟩] scope pos) 0 it acc env = emitTurn iter.pos target elt ifs it acc env (.compLoop (.ListComp elt [⟨target, iter, ifs, 0⟩] scope pos) 0 it acc env) := by rfl
theorem emit2 (elt target iter : Expr) (g : Comprehension) (ifs : List Expr) (scope : Scope) (pos : Pos) (it acc : Value) (env : Env) :
    compTurn (.ListComp elt [g, ⟨target, iter, ifs, 0⟩] scope pos) 1 it acc env = emitTurn iter.pos target elt ifs it acc env (.compLoop (.ListComp elt [g, ⟨target, iter, ifs, 0⟩] scope pos) 1 it acc env) := by rfl
theorem nest2 (elt target iter target2 iter2 : Expr) (ifs2 : List Expr) (scope : Scope) (pos : Pos) (it acc : Value) (env : Env) :
    compTurn (.ListComp elt [⟨target, iter, [], 0⟩, ⟨target2, iter2, ifs2, 0⟩] scope pos) 0 it acc env = (do
      standAt iter.pos
      match ← pyNext it with
      | none => pure (.done .next)
      | some v =>
        letOwnedTupleGo target it v
        assign target env v
        let x ← eval iter2 env
        standAt iter2.pos
        let x ← foldedSetIterable iter2 env x
        let _ ← runOwn (.compStart (.ListComp elt [⟨target, iter, [], 0⟩, ⟨target2, iter2, ifs2, 0⟩] scope pos) 1 (← holding [x] (pyIter x)) acc env) env
        again (.compLoop (.ListComp elt [⟨target, iter, [], 0⟩, ⟨target2, iter2, ifs2, 0⟩] scope pos) 0 it acc env)) := by rfl

section
variable {prog : Program} {w : World} {A : Around} {R : Result → Shared → Prop} {s : Shared}

theorem emit_loop {gens : List Comprehension} {sc : Scope} {pp : Pos} {d : Nat} {p : Pos} {target elt : Expr} {ifs : List Expr} {it acc : Value} {env : Env} (heq : compTurn (.ListComp elt gens sc pp) d it acc env = emitTurn p target elt ifs it acc env (.compLoop (.ListComp elt gens sc pp) d it acc env)) (J : Nat → Shared → Prop)
    (turn : ∀ n s, J n s → wpAny (model prog w) A (pyNext it) (fun r s₁ => match r with
      | none => R (.ok .next) s₁
      | some v => wpAny (model prog w) A (assign target env v) (fun _ s₂ =>
          wpAny (model prog w) A (forIn ifs true fun c r => if r = true then do let ok ← isTrue c env (eval c env); pure (ForInStep.yield ok) else pure (ForInStep.yield r)) (fun ok s₃ =>
            if ok = true then wpAny (model prog w) A (eval elt env) (fun x s₄ =>
              wpAny (model prog w) A (call (.builtin "list.append") [acc, x]) (fun _ s₅ => ∃ m, m < n ∧ J m s₅) NoE s₄) NoE s₃
            else ∃ m, m < n ∧ J m s₃) NoE s₂) NoE s₁) NoE s)
    (n : Nat) (h : J n s) (ht : ∀ v, letOwnedTupleGo target it v = pure ()) :
    codeAny (model prog w) A (.compLoop (.ListComp elt gens sc pp) d it acc env) R s := by
  refine codeAny_loop rfl J (fun n s hI => ?_) n h
  show wpAny _ A ((compTurn (.ListComp elt gens sc pp) d it acc env).onRaise (fun x => do noteFrame x env; theTreesLotGoes x)) _ _ s
  refine wpAny_noted (NoE.any ?_)
  rw [heq]
  unfold emitTurn
  refine wpAny_bind (wpAny_standAt (wpAny_bind (wpAny_mono (turn n s hI) (fun r s₁ h₁ => ?_) fun _ _ h' => h')))
  cases r with
  | none => exact wpAny_pure h₁
  | some v =>
    refine wpAny_bind (wpAny_of_eq (ht v) ?_)
    refine wpAny_bind (wpAny_mono h₁ (fun _ s₂ h₂ => wpAny_bind (wpAny_mono h₂ (fun ok s₃ h₃ => ?_) fun _ _ h' => h')) fun _ _ h' => h')
    cases ok with
    | false => exact wpAny_pure ⟨rfl, h₃⟩
    | true =>
      exact wpAny_bind (wpAny_bind (wpAny_mono h₃ (fun x s₄ h₄ => wpAny_bind (wpAny_mono h₄ (fun _ s₅ h₅ => wpAny_pure (wpAny_pure ⟨rfl, h₅⟩)) fun _ _ h' => h')) fun _ _ h' => h'))

theorem start_code {elt : Expr} {gens : List Comprehension} {sc : Scope} {pp : Pos} {d : Nat} {g : Comprehension} {it acc : Value} {env : Env} (hg : gens[d]? = some g) (ha : g.is_async = 0)
    (h0 : codeAny (model prog w) A (.compLoop (.ListComp elt gens sc pp) d it acc env) R s)
    (h : wpAny (model prog w) A (pyIter it) (fun it' s' => codeAny (model prog w) A (.compLoop (.ListComp elt gens sc pp) d it' acc env) R s') NoE s) :
    codeAny (model prog w) A (.compStart (.ListComp elt gens sc pp) d it acc env) R s := by
  refine codeAny_of_tree ?_
  show wpAny _ _ ((compStart (.ListComp elt gens sc pp) d it acc env).onRaise (fun x => do noteFrame x env; standAt theWindowsPlace)) _ _ s
  refine wpAny_notedAt (NoE.any ?_)
  unfold compStart
  rw [show (clausesOf (.ListComp elt gens sc pp))[d]? = some g from hg]
  simp only [Option.elim, ha]
  refine wpAny_ite ?_
  split
  · rename_i q; exact absurd q (by decide)
  · refine wpAny_bind (wpAny_askSetting (wpAny_ite ?_))
    split
    · first
        | exact wpAny_bind (wpAny_pure (wpAny_pure (And.intro rfl h0)))
        | exact wpAny_pure (And.intro rfl h0)
    · first
        | exact wpAny_bind (wpAny_rule (wpAny_bind (wpAny_standAt (wpAny_bind (wpAny_mono h (fun it' s' h' => wpAny_pure (And.intro rfl h')) fun _ _ x => x)))))
        | (refine wpAny_bind (wpAny_rule ?_); exact wpAny_bind (wpAny_standAt (wpAny_bind (wpAny_mono h (fun it' s' h' => wpAny_pure (And.intro rfl h')) fun _ _ x => x))))

theorem tests_false {env : Env} {E : Value → Shared → Prop} : ∀ (ifs : List Expr) {Q : Bool → Shared → Prop}, Q false s →
    wpAny (model prog w) A (forIn ifs false fun c r => if r = true then do let ok ← isTrue c env (eval c env); pure (ForInStep.yield ok) else pure (ForInStep.yield r)) Q E s
  | [], Q, q => wpAny_pure q
  | c :: ifs, Q, q => by
    rw [List.forIn_cons]
    exact wpAny_bind (wpAny_pure (tests_false ifs q))
end

section
variable {env : Env} {ns : Names} {bd bd' : Str → Option Value} {s s₁ s₂ s' s0 : Shared} {Fz Fz₁ Fz' Fz0 : FzM} {fp fp₁ fp' : Str → List Addr} {r o lv : LV} {t : AV} {σ σ' σ₁ : St} {v u u0 : Value} {A : Around} {n : Nat} {I : Interp} {e : Expr} {x f : Str} {h h' : Heap}
  {a : Addr} {fv : List Addr} {P Q : Addr → Prop} {X : Addr → Option Obj} {oi oi' : Obj}

theorem SPost.refl (R : Rel b Fz env ns σ bd fp s.heap) : SPost b env ns bd s Fz fp σ s := ⟨Fz, fp, .refl _ _ _, fun a m => .inl m, R⟩

theorem tests_ok (hT : TOk b n I.T) (rm : Room A n) (ok : EnvOk b env ns) : ∀ (ifs : List Expr) {k : Bool} {σ σ' : St} {Fz : FzM} {fp : Str → List Addr} {s : Shared}, tests I ns ifs σ = some (k, σ') → Rel b Fz env ns σ bd fp s.heap →
    wpAny (model b.prog b.w) A (forIn ifs true fun c r => if r = true then do let ok ← isTrue c env (eval c env); pure (ForInStep.yield ok) else pure (ForInStep.yield r)) (fun k' s' => k' = k ∧ SPost b env ns bd s Fz fp σ' s') NoE s
  | [], k, σ, σ', Fz, fp, s, h, R => by
    cases h
    exact wpAny_pure ⟨rfl, SPost.refl R⟩
  | c :: ifs, k, σ, σ', Fz, fp, s, h, R => by
    rw [List.forIn_cons, if_pos rfl]
    obtain ⟨k1, σ1, q, h⟩ := o2_some h
    refine wpAny_bind (wpAny_bind (wpAny_mono (hT A env ns c σ k1 σ1 bd fp Fz s rm ok q R) (fun k2 s₁ h₁ => ?_) fun _ _ x => x))
    obtain ⟨rfl, Fz₁, fp₁, S₁, n₁, R₁⟩ := h₁
    refine wpAny_pure ?_
    cases k2 with
    | true => exact wpAny_mono (tests_ok hT rm ok ifs h R₁) (fun k3 s₂ h₂ => ⟨h₂.1, SPost.after S₁ n₁ h₂.2⟩) fun _ _ x => x
    | false =>
      cases h
      exact tests_false ifs ⟨rfl, Fz₁, fp₁, S₁, n₁, R₁⟩

theorem emit_ok {elt : Expr} {gens : List Comprehension} {sc : Scope} {pp : Pos} {d : Nat} {p px : Pos} {ifs : List Expr} {it D : Addr} {R : Result → Shared → Prop} (hE : EOk b n I.E) (hT : TOk b n I.T) (rm : Room A n) (ok : EnvOk b env ns)
    (heq : compTurn (.ListComp elt gens sc pp) d (.ref it) (.ref D) env = emitTurn p (.Name x px) elt ifs (.ref it) (.ref D) env (.compLoop (.ListComp elt gens sc pp) d (.ref it) (.ref D) env))
    (hv : isVar ns x = true) (hs : ∀ a, SlotIs env ns x a → P a ∨ s0.heap.get? a = none) (ne : it ≠ D) {items us acc : List AV} (hev : compL (compRow I ns elt x ifs) items σ = some (us, σ')) (hlen : (acc ++ us).length ≤ lim)
    (C : CS b P s0 Fz0 env ns X σ bd Fz fp s) (hit : X it = some oi) (hio : IterObj b Fz oi items) {ws : List Value} {m : Nat} (hD : X D = some (W.listOf ws.toArray m)) (dw : DenL b Fz ws acc)
    (hR : ∀ s' Fz' fp' bd' X' ws' m', FzLe Fz Fz' → CS b P s0 Fz0 env ns X' σ' bd' Fz' fp' s' → (∀ c o, c ≠ D → c ≠ it → X c = some o → X' c = some o) → X' D = some (W.listOf ws'.toArray m') → DenL b Fz' ws' (acc ++ us) → R (.ok .next) s') :
    codeAny (model b.prog b.w) A (.compLoop (.ListComp elt gens sc pp) d (.ref it) (.ref D) env) R s := by
  refine emit_loop heq (fun k s => ∃ items us0 σ acc0 Xc bd Fzc fp ws m oi, items.length = k ∧ compL (compRow I ns elt x ifs) items σ = some (us0, σ') ∧ acc0 ++ us0 = acc ++ us ∧ FzLe Fz Fzc ∧ CS b P s0 Fz0 env ns Xc σ bd Fzc fp s ∧
      Xc it = some oi ∧ IterObj b Fzc oi items ∧ Xc D = some (W.listOf ws.toArray m) ∧ DenL b Fzc ws acc0 ∧ ∀ c o, c ≠ D → c ≠ it → X c = some o → Xc c = some o) ?_ items.length
    ⟨items, us, σ, acc, X, bd, Fz, fp, ws, m, oi, rfl, hev, rfl, .refl _, C, hit, hio, hD, dw, fun _ _ _ _ e => e⟩ fun v => rfl
  rintro k s ⟨items, us0, σ, acc0, Xc, bd, Fzc, fp, ws, m, oi, rfl, hev, happ, le, C, hit, hio, hD, dw, hX⟩
  have Oit := (C.ex it oi hit).2
  cases items with
  | nil =>
    cases hev
    refine next_none rm.handled C.rel.fz Oit.at' hio fun h' hx => ?_
    have C' := C.touchO (h' := h') (tk := s.toks) (o' := none) hit (fun c o nc e => hx c o nc e) (fun z e => nomatch e)
    rw [List.append_nil] at happ
    exact hR _ _ _ _ _ ws m le C' (fun c o n1 n2 e => by rw [upd_ne n2]; exact hX c o n1 n2 e) (by rw [upd_ne (Ne.symm ne)]; exact hD) (happ ▸ dw)
  | cons v rest =>
    obtain ⟨us1, σ1, q1, hev⟩ := o2_some hev
    obtain ⟨us2, σ2, q2, hev⟩ := o2_some hev
    cases hev
    obtain ⟨kt, σt, qt, q1⟩ := o2_some q1
    refine next_some C.rel.fz Oit.at' hio fun u h' tk oi' du ho' hio' hsb => ?_
    have C1 := C.touchO (h' := h') (tk := tk) (o' := some oi') hit (fun c o nc e => (hsb.2 c nc).trans e) (fun z e => by cases e; exact ho')
    refine wpAny_assign_Name (CS.storeTree ok C1 hv hs du fun s₂ C2 => wpAny_mono (tests_ok hT rm ok ifs qt C2.rel) (fun k' s₃ h₃ => ?_) fun _ _ x => x)
    obtain ⟨rfl, h₃⟩ := h₃
    obtain ⟨Fz3, fp3, le3, C3⟩ := C2.evalS h₃
    cases k' with
    | true =>
      obtain ⟨t, σe, qe, q1⟩ := o2_some q1
      cases q1
      rw [if_pos rfl]
      refine wpAny_mono (evE_ok hE rm ok qe C3.rel).2 (fun y s₄ h₄ => ?_) fun _ _ x => x
      obtain ⟨Fz4, fp4, le4, C4, dy⟩ := C3.evalT h₄
      have hD4 : upd Xc it (some oi') D = some (W.listOf ws.toArray m) := (upd_ne (Ne.symm ne)).trans hD
      have OD := (C4.ex D _ hD4).2
      have lws := dw.length
      have lll : acc0.length + ([t] ++ us2).length ≤ lim := by
        rw [← List.length_append, happ]; exact hlen
      rw [List.length_append] at lll
      refine wpAny_list_append_plain ⟨m, OD.at'⟩ (fun h5 hl5 hs5 => ?_) (by rw [List.size_toArray]; exact lim_line (by omega))
      obtain ⟨m5, h5o⟩ := hl5
      have C5 := C4.touchO (h' := h5) (tk := s₄.toks) (o' := some (W.listOf (ws ++ [y]).toArray m5)) hD4 (fun c o nc e => (hs5.2 c nc).trans e) (fun z e => by cases e; rw [← List.push_toArray]; exact h5o)
      exact ⟨rest.length, Nat.lt_succ_self _, rest, us2, _, acc0 ++ [t], _, _, Fz4, fp4, ws ++ [y], m5, oi', rfl, q2, by rw [List.append_assoc]; exact happ, le.trans (le3.trans le4), C5, (upd_ne ne).trans upd_at, hio'.mono (le3.trans le4), upd_at, (dw.mono (le3.trans le4)).append (.one dy),
        fun c o n1 n2 e => (upd_ne n1).trans ((upd_ne n2).trans (hX c o n1 n2 e))⟩
    | false =>
      cases q1
      rw [if_neg (by decide)]
      exact ⟨rest.length, Nat.lt_succ_self _, rest, us2, _, acc0, _, _, Fz3, fp3, ws, m, oi', rfl, q2, happ, le.trans le3, C3, upd_at, hio'.mono le3, (upd_ne (Ne.symm ne)).trans hD, dw.mono le3, fun c o n1 n2 e => (upd_ne n2).trans (hX c o n1 n2 e)⟩
end
end Mini

namespace Mini
open PySem PySem.W PySem.Calls PyProof.Rows PyProof.V PySem.Spec

variable {b : Base} {K : Frag}

section
variable {prog : Program} {w : World} {A : Around} {R : Result → Shared → Prop} {s : Shared}

theorem nest_loop {elt target iter target2 iter2 : Expr} {ifs2 : List Expr} {sc : Scope} {pp : Pos} {it acc : Value} {env : Env} (J : Nat → Shared → Prop) (hs : ∀ x, foldedSetIterable iter2 env x = pure x)
    (turn : ∀ n s, J n s → wpAny (model prog w) A (pyNext it) (fun r s₁ => match r with
      | none => R (.ok .next) s₁
      | some v => wpAny (model prog w) A (assign target env v) (fun _ s₂ => wpAny (model prog w) A (eval iter2 env) (fun x s₃ => wpAny (model prog w) A (pyIter x) (fun it2 s₄ =>
          codeAny (model prog w) A (.compStart (.ListComp elt [⟨target, iter, [], 0⟩, ⟨target2, iter2, ifs2, 0⟩] sc pp) 1 it2 acc env) (fun r s' => match r with | .ok _ => ∃ m, m < n ∧ J m s' | .error _ => False) s₄) NoE s₃) NoE s₂) NoE s₁) NoE s)
    (n : Nat) (h : J n s) (ht : ∀ v, letOwnedTupleGo target it v = pure ()) :
    codeAny (model prog w) A (.compLoop (.ListComp elt [⟨target, iter, [], 0⟩, ⟨target2, iter2, ifs2, 0⟩] sc pp) 0 it acc env) R s := by
  refine codeAny_loop rfl J (fun n s hI => ?_) n h
  show wpAny _ A ((compTurn (.ListComp elt [⟨target, iter, [], 0⟩, ⟨target2, iter2, ifs2, 0⟩] sc pp) 0 it acc env).onRaise (fun x => do noteFrame x env; theTreesLotGoes x)) _ _ s
  refine wpAny_noted (NoE.any ?_)
  rw [nest2]
  refine wpAny_bind (wpAny_standAt (wpAny_bind (wpAny_mono (turn n s hI) (fun r s₁ h₁ => ?_) fun _ _ h' => h')))
  cases r with
  | none => exact wpAny_pure h₁
  | some v =>
    refine wpAny_bind (wpAny_of_eq (ht v) ?_)
    refine wpAny_bind (wpAny_mono h₁ (fun _ s₂ h₂ => wpAny_bind (wpAny_mono h₂ (fun x s₃ h₃ => ?_) fun _ _ h' => h')) fun _ _ h' => h')
    refine wpAny_bind (wpAny_standAt (wpAny_bind (wpAny_of_eq (hs x) (wpAny_bind (wpAny_holding (wpAny_mono h₃ (fun it2 s₄ h₄ => wpAny_bind ?_) fun _ _ h' => h'))))))
    refine wpAny_runOwn (codeAny_mono h₄ fun r s' hr => ?_)
    cases r with
    | ok f => exact wpAny_pure ⟨rfl, hr⟩
    | error _ => exact hr.elim
end

section
variable {env : Env} {ns : Names} {bd bd' : Str → Option Value} {s s₁ s₂ s' s0 : Shared} {Fz Fz₁ Fz' Fz0 : FzM} {fp fp₁ fp' : Str → List Addr} {r o lv : LV} {t : AV} {σ σ' σ₁ : St} {v u u0 : Value} {A : Around} {n : Nat} {I : Interp} {e : Expr} {x y f : Str} {h h' : Heap}
  {a : Addr} {fv : List Addr} {P Q : Addr → Prop} {X : Addr → Option Obj} {oi oi' : Obj}

def NestJ (b : Base) (P : Addr → Prop) (s0 : Shared) (Fz0 : FzM) (env : Env) (ns : Names) (f : AV → St → Option (List AV × St)) (σ' : St) (all : List AV) (Fz : FzM) (it D : Addr) (k : Nat) (s : Shared) : Prop :=
  ∃ items us0 σ acc0 Xc bd Fzc fp ws m oi, items.length = k ∧ compL f items σ = some (us0, σ') ∧ acc0 ++ us0 = all ∧ FzLe Fz Fzc ∧ CS b P s0 Fz0 env ns Xc σ bd Fzc fp s ∧
      Xc it = some oi ∧ IterObj b Fzc oi items ∧ Xc D = some (W.listOf ws.toArray m) ∧ DenL b Fzc ws acc0

theorem nest_ok {elt iter iter2 : Expr} {ifs2 : List Expr} {sc : Scope} {pp px py : Pos} {it D : Addr} {R : Result → Shared → Prop} (hE : EOk b n I.E) (hT : TOk b n I.T) (rm : Room A n) (ok : EnvOk b env ns)
    (hv : isVar ns x = true) (hs : ∀ a, SlotIs env ns x a → P a ∨ s0.heap.get? a = none) (hv2 : isVar ns y = true) (hs2 : ∀ a, SlotIs env ns y a → P a ∨ s0.heap.get? a = none) (ne : it ≠ D) {items us acc : List AV}
    (hp : plainE iter2 = true) (hev : compL (compNest I ns elt x y iter2 ifs2) items σ = some (us, σ')) (hlen : (acc ++ us).length ≤ lim)
    (C : CS b P s0 Fz0 env ns X σ bd Fz fp s) (hit : X it = some oi) (hio : IterObj b Fz oi items) {ws : List Value} {m : Nat} (hD : X D = some (W.listOf ws.toArray m)) (dw : DenL b Fz ws acc)
    (hR : ∀ s' Fz' fp' bd' X' ws' m', FzLe Fz Fz' → CS b P s0 Fz0 env ns X' σ' bd' Fz' fp' s' → X' D = some (W.listOf ws'.toArray m') → DenL b Fz' ws' (acc ++ us) → R (.ok .next) s') :
    codeAny (model b.prog b.w) A (.compLoop (.ListComp elt [⟨.Name x px, iter, [], 0⟩, ⟨.Name y py, iter2, ifs2, 0⟩] sc pp) 0 (.ref it) (.ref D) env) R s := by
  refine nest_loop (NestJ b P s0 Fz0 env ns (compNest I ns elt x y iter2 ifs2) σ' (acc ++ us) Fz it D) (plain_set hp) ?_ items.length
    ⟨items, us, σ, acc, X, bd, Fz, fp, ws, m, oi, rfl, hev, rfl, .refl _, C, hit, hio, hD, dw⟩ fun v => rfl
  rintro k s ⟨items, us0, σ, acc0, Xc, bd, Fzc, fp, ws, m, oi, rfl, hev, happ, le, C, hit, hio, hD, dw⟩
  have Oit := (C.ex it oi hit).2
  cases items with
  | nil =>
    cases hev
    refine next_none rm.handled C.rel.fz Oit.at' hio fun h' hx => ?_
    have C' := C.touchO (h' := h') (tk := s.toks) (o' := none) hit (fun c o nc e => hx c o nc e) (fun z e => nomatch e)
    rw [List.append_nil] at happ
    exact hR _ _ _ _ _ ws m le C' (by rw [upd_ne (Ne.symm ne)]; exact hD) (happ ▸ dw)
  | cons v rest =>
    obtain ⟨us1, σ1, q1, hev⟩ := o2_some hev
    obtain ⟨us2, σ2, q2, hev⟩ := o2_some hev
    cases hev
    obtain ⟨t, σt, qt, q1⟩ := o2_some q1
    obtain ⟨its, qi, q1⟩ := o1_some q1
    refine next_some C.rel.fz Oit.at' hio fun u h' tk oi' du ho' hio' hsb => ?_
    have C1 := C.touchO (h' := h') (tk := tk) (o' := some oi') hit (fun c o nc e => (hsb.2 c nc).trans e) (fun z e => by cases e; exact ho')
    refine wpAny_assign_Name (CS.storeTree ok C1 hv hs du fun s₂ C2 => wpAny_mono (evE_ok hE rm ok qt C2.rel).2 (fun z s₃ h₃ => ?_) fun _ _ x => x)
    obtain ⟨Fz3, fp3, le3, C3, dz⟩ := C2.evalT h₃
    refine iter_of C3.rel.fz dz qi fun oi2 nf hio2 => ?_
    have C4 := C3.push (oi := oi2) nf
    have hD3 : upd Xc it (some oi') D = some (W.listOf ws.toArray m) := (upd_ne (Ne.symm ne)).trans hD
    have liveD := ((C3.ex D _ hD3).2).at'
    have liveI := ((C3.ex it oi' upd_at).2).at'
    have nn := size_none s₃.heap
    have neD : s₃.heap.objs.size ≠ D := fun q => by rw [q, liveD] at nn; cases nn
    have neI : s₃.heap.objs.size ≠ it := fun q => by rw [q, liveI] at nn; cases nn
    have go : codeAny (model b.prog b.w) A (.compLoop (.ListComp elt [⟨.Name x px, iter, [], 0⟩, ⟨.Name y py, iter2, ifs2, 0⟩] sc pp) 1 (.ref s₃.heap.objs.size) (.ref D) env)
        (fun r s' => match r with | .ok _ => ∃ m, m < (v :: rest).length ∧ NestJ b P s0 Fz0 env ns (compNest I ns elt x y iter2 ifs2) σ' (acc ++ us) Fz it D m s' | .error _ => False) { s₃ with heap := s₃.heap.push oi2 } := by
      refine emit_ok hE hT rm ok (emit2 _ _ _ _ _ _ _ _ _ _) hv2 hs2 neD (us := us1) (acc := acc0) q1 ?_ C4 upd_at hio2 ((upd_ne (Ne.symm neD)).trans hD3) (dw.mono le3) fun s' Fz' fp' bd' X' ws' m' le' C' hX' hD' dw' => ?_
      · rw [← happ] at hlen
        rw [List.length_append, List.length_append] at hlen
        rw [List.length_append]
        omega
      · exact ⟨rest.length, Nat.lt_succ_self _, rest, us2, _, acc0 ++ us1, X', _, Fz', fp', ws', m', oi', rfl, q2, by rw [List.append_assoc]; exact happ, le.trans (le3.trans le'), C', hX' it oi' ne (Ne.symm neI) ((upd_ne (Ne.symm neI)).trans upd_at), hio'.mono (le3.trans le'), hD', dw'⟩
    exact start_code (g := ⟨.Name y py, iter2, ifs2, 0⟩) rfl rfl go (iter_again (Fz := Fz3) (oi := oi2) (items := its) (Heap.get?_push_size _ nf) hio2 go)
end
end Mini

namespace Mini
open PySem PySem.W PySem.Calls PyProof.Rows PyProof.V PySem.Spec

variable {b : Base} {K : Frag}

theorem cellsFrom_app : ∀ (names : List (Str × NameKind)) (n : Nat) (acc : List (Str × Addr)), cellsFrom n names acc = cellsFrom n names [] ++ acc
  | [], _, _ => rfl
  | (y, k) :: r, n, acc => by
    unfold cellsFrom
    split
    · rw [cellsFrom_app r (n + 1) ((y, n) :: acc), cellsFrom_app r (n + 1) [(y, n)], List.append_assoc]; rfl
    · exact cellsFrom_app r n acc

theorem cellsFrom_mem : ∀ (names : List (Str × NameKind)) (n : Nat) {x : Str} {c : Addr}, (x, c) ∈ cellsFrom n names [] → (x, NameKind.cell) ∈ names
  | [], _, _, _, h => nomatch h
  | (y, k) :: r, n, x, c, h => by
    unfold cellsFrom at h
    split at h
    · rename_i hk
      rw [cellsFrom_app] at h
      rcases List.mem_append.mp h with h | h
      · exact .tail _ (cellsFrom_mem r _ h)
      · have : k = .cell := by simpa using hk
        cases List.mem_singleton.mp h
        rw [this]; exact .head _
    · exact .tail _ (cellsFrom_mem r _ h)

section
variable {M : Model} {A : Around} {E : Value → Shared → Prop} {s : Shared} {env : Env}

theorem clos_names : ∀ (names : List (Str × NameKind)) (acc : List (Str × Addr)), (∀ x ∈ names, x.2 = .free → ∃ c, env.cells.lookup x.1 = some c) →
    ∃ cl, (forIn names acc (fun (x : Str × NameKind) cs => if x.2 == .free then (cellOf env x.1 >>= fun c => pure (ForInStep.yield ((x.1, c) :: cs))) else pure (ForInStep.yield cs)) : Sem (List (Str × Addr))) = pure cl ∧
      (∀ y c, (y, c) ∈ cl → (y, c) ∈ acc ∨ ((y, NameKind.free) ∈ names ∧ env.cells.lookup y = some c)) ∧ (∀ p ∈ acc, p ∈ cl) ∧ ∀ y, (y, NameKind.free) ∈ names → ∃ c, (y, c) ∈ cl
  | [], acc, _ => ⟨acc, rfl, fun _ _ h => .inl h, fun _ h => h, fun _ h => nomatch h⟩
  | (x, k) :: r, acc, hf => by
    by_cases hk : k = .free
    · subst hk
      obtain ⟨c, hc⟩ := hf (x, .free) (.head _) rfl
      obtain ⟨cl, e, h1, h2, h3⟩ := clos_names r ((x, c) :: acc) fun y hy => hf y (.tail _ hy)
      refine ⟨cl, ?_, fun y d m => ?_, fun p m => h2 p (.tail _ m), fun y m => ?_⟩
      · rw [List.forIn_cons]
        have : cellOf env x = pure c := by unfold cellOf; rw [hc]
        simp only [beq_self_eq_true, if_true]
        rw [this]
        exact e
      · rcases h1 y d m with h | ⟨h, h'⟩
        · rcases List.mem_cons.mp h with h | h
          · cases h; exact .inr ⟨.head _, hc⟩
          · exact .inl h
        · exact .inr ⟨.tail _ h, h'⟩
      · rcases List.mem_cons.mp m with m | m
        · cases m; exact ⟨c, h2 _ (.head _)⟩
        · exact h3 y m
    · obtain ⟨cl, e, h1, h2, h3⟩ := clos_names r acc fun y hy => hf y (.tail _ hy)
      refine ⟨cl, ?_, fun y d m => (h1 y d m).imp id fun h => ⟨.tail _ h.1, h.2⟩, h2, fun y m => ?_⟩
      · rw [List.forIn_cons]
        have : (k == NameKind.free) = false := by simpa using hk
        simp only [this, Bool.false_eq_true, if_false]
        exact e
      · rcases List.mem_cons.mp m with m | m
        · cases m; exact absurd rfl hk
        · exact h3 y m

theorem clos_ok {sc : Scope} (hf : ∀ x ∈ sc.names, x.2 = .free → ∃ c, env.cells.lookup x.1 = some c) : ∃ cl, closureFor sc env = pure cl ∧ (∀ y c, (y, c) ∈ cl → (y, NameKind.free) ∈ sc.names ∧ env.cells.lookup y = some c) ∧ ∀ y, (y, NameKind.free) ∈ sc.names → ∃ c, (y, c) ∈ cl := by
  obtain ⟨cl, e, h1, _, h3⟩ := clos_names sc.names [] hf
  refine ⟨cl, ?_, fun y c m => (h1 y c m).elim (fun h => nomatch h) id, h3⟩
  have q : closureFor sc env = ((forIn sc.names [] (fun (x : Str × NameKind) cs => if x.2 == .free then (cellOf env x.1 >>= fun c => pure (ForInStep.yield ((x.1, c) :: cs))) else pure (ForInStep.yield cs)) : Sem (List (Str × Addr))) >>= fun cs => pure cs) := by
    unfold closureFor
    congr 1
  rw [q, e]; rfl

theorem compEnv_new {sc : Scope} {g : Addr} {cl : List (Str × Addr)} {q : Str} {Q : Env → Shared → Prop}
    (h : Q { scope := sc, locals := s.heap.objs.size, globals := g, cells := cellsFrom (s.heap.objs.size + 1) sc.names cl, qual := q, func := none, code := env.code, frame := env.frame, builtins := env.builtins }
      { s with heap := pushCells (s.heap.push { cls := .type "dict", data := .dict #[] }) sc.names }) :
    wpAny M A (newFunctionEnv sc g cl [] q none .none (some env)) Q E s := by
  simp only [newFunctionEnv, Option.isSome_some, if_true]
  refine wpAny_bind (wpAny_alloc ?_)
  refine wpAny_bind (wpAny_layCells _ (fun name kind cells => by cases hkc : kind == NameKind.cell <;> simp [hkc]) _ _ _ _ ?_)
  rw [show ({ s with heap := s.heap.push { cls := .type "dict", data := .dict #[] } } : Shared).heap.objs.size = s.heap.objs.size + 1 from Heap.size_push ..]
  exact wpAny_bind (wpAny_pure (wpAny_pure h))
end
end Mini

namespace Mini
open PySem PySem.W PySem.Calls PyProof.Rows PyProof.V PySem.Spec

variable {b : Base} {K : Frag}

theorem lookup_mapK {names : List (Str × NameKind)} {g : Str × NameKind → Str × NameKind} {f : NameKind → NameKind} (hg : ∀ n k, g (n, k) = (n, f k)) (x : Str) : (names.map g).lookup x = (names.lookup x).map f := by
  induction names with
  | nil => rfl
  | cons p r ih =>
    obtain ⟨n, k⟩ := p
    rw [List.map_cons, hg]
    by_cases h : x = n
    · subst h; simp
    · have : (x == n) = false := by simpa using h
      simp only [List.lookup_cons, this]; exact ih

theorem compNames_lookup (sc : Scope) (x : Str) : (compNames sc).lookup x = (sc.names.lookup x).map fun k => if k == .free then .cell else k := by
  unfold compNames
  exact lookup_mapK (fun n k => by cases k <;> rfl) x

theorem mem_lookup {α : Type} : ∀ {l : List (Str × α)} {x : Str} {c : α}, (x, c) ∈ l → (l.lookup x).isSome = true
  | (y, d) :: r, x, c, h => by
    by_cases e : x = y
    · subst e; simp
    · have q : (x == y) = false := by simpa using e
      rw [List.lookup_cons, q]
      rcases List.mem_cons.mp h with h | h
      · cases h; exact absurd rfl e
      · exact mem_lookup h

structure SO (sc : Scope) (ns : Names) : Prop where
  kind : sc.kind = .function
  cons : ∀ x ∈ sc.names, sc.names.lookup x.1 = some x.2
  free : ∀ x ∈ sc.names, x.2 = .free → ns.lookup x.1 = some .cell

theorem so_of {sc : Scope} {ns : Names} (h : scopeOk sc ns = true) : SO sc ns := by
  unfold scopeOk at h
  simp only [Bool.and_eq_true] at h
  obtain ⟨⟨⟨⟨⟨h1, _⟩, _⟩, h2⟩, _⟩, h3⟩ := h
  refine ⟨by simpa using h1, fun x m => by simpa using List.all_eq_true.mp h2 x m, fun x m e => ?_⟩
  have := List.all_eq_true.mp h3 x m
  rw [e] at this
  simpa using this

theorem freeIn_iff {sc : Scope} {ns : Names} {x : Str} : freeIn sc ns x = true ↔ sc.names.lookup x = some .free ∧ ns.lookup x = some .cell := by
  unfold freeIn
  split
  · rename_i h1 h2; simp [h1, h2]
  · rename_i h
    constructor
    · intro q; cases q
    · rintro ⟨h1, h2⟩; exact absurd h2 (h h1)

theorem relabel_names {sc : Scope} {env : Env} {ns : Names} (so : SO sc ns) (ok : EnvOk b env ns) : relabel sc env = { sc with names := compNames sc } := by
  unfold relabel compNames
  congr 1
  apply List.map_congr_left
  rintro ⟨n, k⟩ m
  by_cases hk : k = .free
  · subst hk
    have := so.free _ m rfl
    simp only [ok.kind, beq_self_eq_true, Bool.true_and]
    have e : env.kindOf n = some .cell := by unfold Env.kindOf; rw [ok.names]; exact this
    simp [e]
  · have : (k == NameKind.free) = false := by simpa using hk
    simp [this]

theorem lookup_filter {σ : St} {p : Str → Bool} {x : Str} : (σ.filter fun y => p y.1).lookup x = if p x then σ.lookup x else none := by
  induction σ with
  | nil => simp
  | cons q r ih =>
    obtain ⟨y, v⟩ := q
    by_cases h : x = y
    · subst h
      by_cases hp : p x = true
      · simp [List.filter_cons, hp]
      · have hp' : p x = false := by simpa using hp
        simp only [List.filter_cons, hp', Bool.false_eq_true, if_false] at ih ⊢
        exact ih
    · have hb : (x == y) = false := by simpa using h
      by_cases hp : p y = true
      · simp only [List.filter_cons, hp, if_true, List.lookup_cons, hb]; exact ih
      · have hp' : p y = false := by simpa using hp
        simp only [List.filter_cons, hp', Bool.false_eq_true, if_false, List.lookup_cons, hb]; exact ih

theorem lookup_backIn {sc : Scope} {ns : Names} {σ σ' : St} {x : Str} : (backIn sc ns σ σ').lookup x = (σ.lookup x).map fun v => if freeIn sc ns x then (σ'.lookup x).getD v else v := by
  unfold backIn
  induction σ with
  | nil => rfl
  | cons q r ih =>
    obtain ⟨y, v⟩ := q
    rw [List.map_cons]
    by_cases h : x = y
    · subst h
      by_cases hf : freeIn sc ns x = true
      · simp [hf]
      · have hf' : freeIn sc ns x = false := by simpa using hf
        simp [hf']
    · have hb : (x == y) = false := by simpa using h
      by_cases hf : freeIn sc ns y = true
      · simp only [hf, if_true, List.lookup_cons, hb]; exact ih
      · have hf' : freeIn sc ns y = false := by simpa using hf
        simp only [hf', Bool.false_eq_true, if_false, List.lookup_cons, hb]; exact ih

section
variable {env cenv : Env} {ns ns' : Names} {bd bd' bdc : Str → Option Value} {s s₁ s₂ s' s0 : Shared} {Fz Fz₁ Fz' Fz0 Fzc : FzM} {fp fp₁ fp' fpc : Str → List Addr} {r o lv : LV} {t : AV} {σ σ' σ₁ σc : St} {v u u0 : Value} {A : Around} {n : Nat} {I : Interp} {e : Expr} {x y f : Str} {h h' : Heap}
  {a : Addr} {fv : List Addr} {P Q : Addr → Prop} {X : Addr → Option Obj} {oi oi' : Obj} {sc : Scope}

def freeP (sc : Scope) (ns : Names) (fp : Str → List Addr) (a : Addr) : Prop := ∃ x, freeIn sc ns x = true ∧ a ∈ fp x

theorem isCell_eq {h : Heap} {c : Addr} {v w : Option Value} (x : h.IsCell c v) (y : h.IsCell c w) : v = w := by
  obtain ⟨o, h1, h2⟩ := x
  obtain ⟨o', h3, h4⟩ := y
  rw [h1] at h3; cases h3
  rw [h2] at h4; cases h4; rfl

theorem Rel.back (R : Rel b Fz env ns σ bd fp s.heap) (C : CS b (freeP sc ns fp) s Fz cenv ns' X σc bdc Fzc fpc s') (hc : ∀ x, freeIn sc ns x = true → ns'.lookup x = some .cell ∧ ∀ c, cenv.cells.lookup x = some c → env.cells.lookup x = some c)
    (hb : backOk sc ns σ σc = true) :
    ∃ fp', Rel b Fzc env ns (backIn sc ns σ σc) bd fp' s'.heap ∧ (∀ a, inFp fp' a → inFp fp a ∨ s.heap.get? a = none) ∧ ∀ a, inFp fp' a → inFp fpc a ∨ inFp fp a := by
  have R' := C.rel
  have live : ∀ {y a}, a ∈ fp y → ∃ o, s.heap.get? a = some o := fun m => R.fpLive m
  have pSlot : ∀ a, freeP sc ns fp a → ¬ slotAt env ns a := fun a ⟨x, _, m⟩ => (R.fpFree x a m).2
  have nonP : ∀ y a, freeIn sc ns y = false → a ∈ fp y → ¬ freeP sc ns fp a := fun y a hy m ⟨x, hx, m'⟩ => by
    by_cases q : x = y
    · rw [q, hy] at hx; cases hx
    · exact R.apart x y a q m' m
  have F' : Frame env ns bd s'.heap := R.frame.keep fun a o hs e => C.stp.keep a o (fun p => pSlot a p hs) e
  have fpLiveC : ∀ y a, a ∈ fpc y → freeP sc ns fp a ∨ s.heap.get? a = none := fun y a m => C.nw a ⟨y, m⟩
  have cases' : ∀ y, (freeIn sc ns y = true ∧ (σ.lookup y).isSome = true) ∨ (freeIn sc ns y = false ∨ σ.lookup y = none) := fun y => by
    cases h1 : freeIn sc ns y
    · exact .inr (.inl rfl)
    · cases h2 : σ.lookup y
      · exact .inr (.inr rfl)
      · exact .inl ⟨rfl, rfl⟩
  let g : Str → List Addr := fun y => if freeIn sc ns y = true ∧ (σ.lookup y).isSome = true then fpc y else fp y
  have g1 : ∀ y, freeIn sc ns y = true ∧ (σ.lookup y).isSome = true → g y = fpc y := fun y q => if_pos q
  have g2 : ∀ y, (freeIn sc ns y = false ∨ σ.lookup y = none) → g y = fp y := fun y q => if_neg fun ⟨z1, z2⟩ => by
    rcases q with q | q
    · rw [q] at z1; cases z1
    · rw [q] at z2; cases z2
  have g3 : ∀ y a, (freeIn sc ns y = false ∨ σ.lookup y = none) → a ∈ fp y → freeIn sc ns y = false := fun y a q m => by
    rcases q with q | q
    · exact q
    · rw [R.fpOff y q] at m; cases m
  refine ⟨g, ⟨R'.fz, R'.base, F', fun a hs => ?_, fun y w e => ?_, fun y e => ?_, fun y a m => ?_, fun y z a hyz m1 m2 => ?_⟩, fun a ⟨y, m⟩ => ?_, fun a ⟨y, m⟩ => ?_⟩
  · obtain ⟨o', ho'⟩ := slot_live R hs
    cases q : Fzc a with
    | none => rfl
    | some o =>
      rcases C.stp.new a o q with z | z | z
      · rw [R.slotFree a hs] at z; cases z
      · rw [ho'] at z; cases z
      · exact absurd hs (pSlot a z)
  · rw [lookup_backIn] at e
    cases q : σ.lookup y with
    | none => rw [q] at e; cases e
    | some v =>
      rw [q] at e
      rcases cases' y with hy | hy
      · have : ∃ w', σc.lookup y = some w' := by
          have m := mem_of_lookup q
          have := List.all_eq_true.mp hb _ m
          rw [hy.1] at this
          simpa [Option.isSome_iff_exists] using this
        obtain ⟨w', hw'⟩ := this
        simp only [Option.map_some, hy.1, if_true, hw', Option.getD_some] at e
        cases e
        obtain ⟨u, hu, O⟩ := R'.var y _ hw'
        obtain ⟨hk, hl⟩ := hc y hy.1
        obtain ⟨c, hc1, hc2⟩ := R'.frame.cell y hk
        obtain ⟨c', hc3, hc4⟩ := F'.cell y (freeIn_iff.mp hy.1).2
        rw [hl c hc1] at hc3; cases hc3
        refine ⟨u, (isCell_eq hc4 hc2).trans hu, ?_⟩
        rw [g1 y hy]; exact O
      · have hf : freeIn sc ns y = false := hy.elim id fun z => by rw [q] at z; cases z
        simp only [Option.map_some, hf, Bool.false_eq_true, if_false] at e
        cases e
        obtain ⟨u, hu, O⟩ := R.var y _ q
        refine ⟨u, hu, ?_⟩
        rw [g2 y hy]
        exact O.keep C.stp.le fun a o m e => C.stp.keep a o (nonP y a hf m) e
  · rw [lookup_backIn] at e
    have q : σ.lookup y = none := by
      cases q : σ.lookup y with
      | none => rfl
      | some v => rw [q] at e; cases e
    rw [g2 y (.inr q)]; exact R.fpOff y q
  · rcases cases' y with hy | hy
    · rw [g1 y hy] at m
      refine ⟨(R'.fpFree y a m).1, fun hs => ?_⟩
      rcases fpLiveC y a m with z | z
      · exact pSlot a z hs
      · obtain ⟨o', ho'⟩ := slot_live R hs
        rw [z] at ho'; cases ho'
    · rw [g2 y hy] at m
      refine ⟨?_, (R.fpFree y a m).2⟩
      obtain ⟨o', ho'⟩ := live m
      cases q : Fzc a with
      | none => rfl
      | some o =>
        rcases C.stp.new a o q with z | z | z
        · rw [(R.fpFree y a m).1] at z; cases z
        · rw [ho'] at z; cases z
        · exact absurd z (nonP y a (g3 y a hy m) m)
  · rcases cases' y with hy | hy <;> rcases cases' z with hz | hz
    · rw [g1 y hy] at m1; rw [g1 z hz] at m2
      exact R'.apart y z a hyz m1 m2
    · rw [g1 y hy] at m1; rw [g2 z hz] at m2
      rcases fpLiveC y a m1 with q | q
      · exact nonP z a (g3 z a hz m2) m2 q
      · obtain ⟨o', ho'⟩ := live m2
        rw [q] at ho'; cases ho'
    · rw [g2 y hy] at m1; rw [g1 z hz] at m2
      rcases fpLiveC z a m2 with q | q
      · exact nonP y a (g3 y a hy m1) m1 q
      · obtain ⟨o', ho'⟩ := live m1
        rw [q] at ho'; cases ho'
    · rw [g2 y hy] at m1; rw [g2 z hz] at m2
      exact R.apart y z a hyz m1 m2
  · rcases cases' y with hy | hy
    · rw [g1 y hy] at m
      exact (fpLiveC y a m).imp (fun ⟨x, _, z⟩ => ⟨x, z⟩) id
    · rw [g2 y hy] at m; exact .inl ⟨y, m⟩
  · rcases cases' y with hy | hy
    · rw [g1 y hy] at m; exact .inl ⟨y, m⟩
    · rw [g2 y hy] at m; exact .inr ⟨y, m⟩
end
end Mini

namespace Mini
open PySem PySem.W PySem.Calls PyProof.Rows PyProof.V PySem.Spec

variable {b : Base} {K : Frag}

section
variable {env cenv : Env} {ns ns' : Names} {bd bd' bdc : Str → Option Value} {s s₁ s₂ s' s0 : Shared} {Fz Fz₁ Fz' Fz0 Fzc : FzM} {fp fp₁ fp' fpc : Str → List Addr} {r o lv : LV} {t : AV} {σ σ' σ₁ σc : St} {v u u0 : Value} {A : Around} {n : Nat} {I : Interp} {e : Expr} {x y f : Str} {h h' : Heap}
  {a : Addr} {fv : List Addr} {P Q : Addr → Prop} {X : Addr → Option Obj} {oi oi' : Obj} {sc : Scope}

noncomputable def cenvOf (sc : Scope) (env : Env) (C : Addr) (cl : List (Str × Addr)) : Env :=
  { scope := { sc with names := compNames sc }, locals := C, globals := env.globals, cells := cellsFrom (C + 1) sc.names cl, qual := env.qual, func := none, code := env.code, frame := env.frame, builtins := env.builtins }

theorem lookup_mem {α : Type} {l : List (Str × α)} {x : Str} {c : α} (h : l.lookup x = some c) : (x, c) ∈ l := mem_of_lookup h

theorem comp_start (so : SO sc ns) (ok : EnvOk b env ns) (R : Rel b Fz env ns σ bd fp s.heap) {cl : List (Str × Addr)} (hcl1 : ∀ y c, (y, c) ∈ cl → (y, NameKind.free) ∈ sc.names ∧ env.cells.lookup y = some c) (hcl2 : ∀ y, (y, NameKind.free) ∈ sc.names → ∃ c, (y, c) ∈ cl)
    {H : Heap} (hH : H = pushCells (s.heap.push { cls := .type "dict", data := .dict #[] }) sc.names) :
    EnvOk b (cenvOf sc env s.heap.objs.size cl) (compNames sc) ∧
    Rel b Fz (cenvOf sc env s.heap.objs.size cl) (compNames sc) (σ.filter fun y => freeIn sc ns y.1) (fun y => if freeIn sc ns y = true then bd y else none) (fun y => if freeIn sc ns y = true then fp y else []) H ∧
    (∀ a, slotAt (cenvOf sc env s.heap.objs.size cl) (compNames sc) a → s.heap.get? a = none ∨ slotAt env ns a) ∧
    (∀ x a, tgtOk sc x = true → SlotIs (cenvOf sc env s.heap.objs.size cl) (compNames sc) x a → s.heap.get? a = none) ∧
    (∀ a o, s.heap.get? a = some o → H.get? a = some o) ∧
    (∀ x, freeIn sc ns x = true → (compNames sc).lookup x = some .cell ∧ ∀ c, (cenvOf sc env s.heap.objs.size cl).cells.lookup x = some c → env.cells.lookup x = some c) := by
  subst hH
  generalize hC : s.heap.objs.size = C
  have nnC : ∀ a, C ≤ a → s.heap.get? a = none := fun a ha => Heap.get?_none_of_le (by rw [hC]; exact ha)
  have okc := cellsFrom_ok sc.names (s.heap.push { cls := .type "dict", data := .dict #[] }) (C + 1) [] ⟨fun _ _ hm => (nomatch hm), List.Pairwise.nil⟩ (by rw [Heap.size_push, hC]; exact Nat.le_refl _)
  rw [Heap.size_push, hC] at okc
  generalize hH : pushCells (s.heap.push { cls := .type "dict", data := .dict #[] }) sc.names = H at okc ⊢
  have old : ∀ a o, s.heap.get? a = some o → H.get? a = some o := fun a o e => hH ▸ pushCells_keeps _ _ a o (Heap.get?_push_of_some _ e)
  have nsC : H.Ns C (fun _ => none) := by
    have := (Heap.Ns.new s.heap (.type "dict")).keeps (pushCells_keeps sc.names _)
    rw [hC] at this; rw [← hH]; exact this
  have mem1 : ∀ x k, (x, k) ∈ sc.names → sc.names.lookup x = some k := fun x k m => so.cons _ m
  have cellCase : ∀ x c, (cenvOf sc env C cl).cells.lookup x = some c → (sc.names.lookup x = some .cell ∧ (x, c) ∈ cellsFrom (C + 1) sc.names []) ∨ (sc.names.lookup x = some .free ∧ ns.lookup x = some .cell ∧ env.cells.lookup x = some c) := by
    intro x c hl
    have m : (x, c) ∈ cellsFrom (C + 1) sc.names cl := lookup_mem hl
    rw [cellsFrom_app] at m
    rcases List.mem_append.mp m with m | m
    · exact .inl ⟨mem1 x _ (cellsFrom_mem _ _ m), m⟩
    · obtain ⟨h1, h2⟩ := hcl1 x c m
      exact .inr ⟨mem1 x _ h1, so.free _ h1 rfl, h2⟩
  have cellEx : ∀ x, (compNames sc).lookup x = some .cell → ∃ c, (cenvOf sc env C cl).cells.lookup x = some c := by
    intro x hx
    rw [compNames_lookup] at hx
    apply Option.isSome_iff_exists.mp
    show ((cellsFrom (C + 1) sc.names cl).lookup x).isSome = true
    cases q : sc.names.lookup x with
    | none => rw [q] at hx; cases hx
    | some k =>
      rw [q] at hx
      by_cases hk : k = .free
      · subst hk
        obtain ⟨c, hc⟩ := hcl2 x (lookup_mem q)
        exact cellsFrom_some _ _ _ (.inr (mem_lookup hc))
      · have hk' : (k == NameKind.free) = false := by simpa using hk
        simp only [Option.map_some, hk', Bool.false_eq_true, if_false] at hx
        exact cellsFrom_some _ _ _ (.inl (q.trans hx))
  have ownGe : ∀ x c, (x, c) ∈ cellsFrom (C + 1) sc.names [] → C + 1 ≤ c ∧ H.IsCell c none := fun x c m => ⟨(okc.empty x c m).2, (okc.empty x c m).1⟩
  have oldCell : ∀ x c, ns.lookup x = some .cell → env.cells.lookup x = some c → s.heap.IsCell c (bd x) := fun x c hx hc => by
    obtain ⟨c', h1, h2⟩ := R.frame.cell x hx
    rw [hc] at h1; cases h1; exact h2
  have ltC : ∀ x c, ns.lookup x = some .cell → env.cells.lookup x = some c → c < C := fun x c hx hc => hC ▸ (oldCell x c hx hc).lt
  have slots : ∀ a, slotAt (cenvOf sc env C cl) (compNames sc) a → (C ≤ a) ∨ slotAt env ns a := by
    rintro a (rfl | ⟨x, hx, hc⟩)
    · exact .inl (Nat.le_refl _)
    · rcases cellCase x a hc with ⟨_, m⟩ | ⟨h1, h2, h3⟩
      · exact .inl (Nat.le_of_succ_le (ownGe x a m).1)
      · exact .inr (.inr ⟨x, h2, h3⟩)
  have slotFz : ∀ a, slotAt (cenvOf sc env C cl) (compNames sc) a → Fz a = none := fun a hs => by
    rcases slots a hs with h | h
    · cases q : Fz a with
      | none => rfl
      | some o =>
        have := R.fz a o q
        rw [nnC a h] at this; cases this
    · exact R.slotFree a h
  refine ⟨⟨so.kind, rfl, ok.globals, ok.builtins, fun x y c hx hy h1 h2 => ?_, fun x c hx h1 => ?_⟩, ⟨fun a o e => old a o (R.fz a o e), R.base, ⟨⟨_, nsC, fun x hx => ?_⟩, fun x hx => ?_⟩, slotFz, fun x v e => ?_, fun x e => ?_, fun x a m => ?_, fun x y a hxy m1 m2 => ?_⟩,
    fun a hs => (slots a hs).imp (nnC a) id, fun x a tg sl => ?_, old, fun x hx => ⟨?_, fun c hc => ?_⟩⟩
  · rcases cellCase x c h1 with ⟨a1, a2⟩ | ⟨a1, a2, a3⟩ <;> rcases cellCase y c h2 with ⟨b1, b2⟩ | ⟨b1, b2, b3⟩
    · exact name_of_addr okc.apart a2 b2
    · exact absurd (ltC y c b2 b3) (Nat.not_lt.mpr (Nat.le_of_succ_le (ownGe x c a2).1))
    · exact absurd (ltC x c a2 a3) (Nat.not_lt.mpr (Nat.le_of_succ_le (ownGe y c b2).1))
    · exact ok.apart x y c a2 b2 a3 b3
  · show c ≠ C
    rcases cellCase x c h1 with ⟨a1, a2⟩ | ⟨a1, a2, a3⟩
    · exact Nat.ne_of_gt (ownGe x c a2).1
    · exact Nat.ne_of_lt (ltC x c a2 a3)
  · show (none : Option Value) = _
    have : freeIn sc ns x = false := by
      cases q : freeIn sc ns x with
      | false => rfl
      | true =>
        rw [compNames_lookup, (freeIn_iff.mp q).1] at hx
        cases hx
    simp [this]
  · obtain ⟨c, hc⟩ := cellEx x hx
    refine ⟨c, hc, ?_⟩
    rcases cellCase x c hc with ⟨a1, a2⟩ | ⟨a1, a2, a3⟩
    · have : freeIn sc ns x = false := by
        cases q : freeIn sc ns x with
        | false => rfl
        | true => rw [(freeIn_iff.mp q).1] at a1; cases a1
      simp only [this, Bool.false_eq_true, if_false]
      exact (ownGe x c a2).2
    · have : freeIn sc ns x = true := freeIn_iff.mpr ⟨a1, a2⟩
      simp only [this, if_true]
      obtain ⟨o, h1, h2⟩ := oldCell x c a2 a3
      exact ⟨o, old _ _ h1, h2⟩
  · rw [lookup_filter (p := fun y => freeIn sc ns y)] at e
    split at e
    · rename_i hf
      obtain ⟨u, hu, O⟩ := R.var x v e
      refine ⟨u, by simp [hf, hu], ?_⟩
      simp only [hf, if_true]
      exact O.keep (.refl _) fun a o _ e => old a o e
    · cases e
  · rw [lookup_filter (p := fun y => freeIn sc ns y)] at e
    by_cases hf : freeIn sc ns x = true
    · simp only [hf, if_true] at e ⊢; exact R.fpOff x e
    · simp [hf]
  · by_cases hf : freeIn sc ns x = true
    · simp only [hf, if_true] at m
      refine ⟨(R.fpFree x a m).1, fun hs => ?_⟩
      rcases slots a hs with h | h
      · obtain ⟨o', ho'⟩ := R.fpLive m
        rw [nnC a h] at ho'; cases ho'
      · exact (R.fpFree x a m).2 h
    · simp [hf] at m
  · by_cases hf : freeIn sc ns x = true
    · by_cases hg : freeIn sc ns y = true
      · simp only [hf, if_true] at m1
        simp only [hg, if_true] at m2
        exact R.apart x y a hxy m1 m2
      · simp [hg] at m2
    · simp [hf] at m1
  · rcases sl with ⟨_, rfl⟩ | ⟨h1, h2⟩
    · exact nnC _ (Nat.le_refl _)
    · rcases cellCase x a h2 with ⟨a1, a2⟩ | ⟨a1, a2, a3⟩
      · exact nnC a (Nat.le_of_succ_le (ownGe x a a2).1)
      · unfold tgtOk at tg
        rw [a1] at tg
        simp at tg
  · rw [compNames_lookup, (freeIn_iff.mp hx).1]; rfl
  · rcases cellCase x c hc with ⟨a1, a2⟩ | ⟨a1, a2, a3⟩
    · rw [(freeIn_iff.mp hx).1] at a1; cases a1
    · exact a3

noncomputable def CEnd (b : Base) (env : Env) (ns : Names) (bd : Str → Option Value) (s : Shared) (Fz : FzM) (fp : Str → List Addr) (r : LV) (σ' : St) (v : Value) (C : Addr) (s' : Shared) : Prop :=
  ∃ Fz' fp' fv, Stp (inFp fp) s Fz s' Fz' ∧ (∀ a, inFp fp' a → inFp fp a ∨ s.heap.get? a = none) ∧ Rel b Fz' env ns σ' bd fp' s'.heap ∧ Own b Fz' s'.heap v r fv ∧
    (∀ a ∈ fv, Fz' a = none ∧ ¬ slotAt env ns a ∧ (∀ x, a ∉ fp' x) ∧ (s.heap.get? a = none ∨ inFp fp a)) ∧
    (∃ m, s'.heap.Ns C m) ∧ Fz' C = none ∧ ¬ slotAt env ns C ∧ (∀ x, C ∉ fp' x) ∧ C ∉ fv ∧ (s.heap.get? C = none ∨ inFp fp C)

theorem CEnd.drop {C : Addr} (E : CEnd b env ns bd s Fz fp r σ' v C s') (hs : Heap.SameBut C s'.heap h') : EPost b env ns bd s Fz fp r σ' v { s' with heap := h' } := by
  obtain ⟨Fz', fp', fv, S, nw, R, O, hv, _, c1, c2, c3, c4, c5⟩ := E
  have S2 : Stp (· = C) s' Fz' { s' with heap := h' } Fz' := ⟨⟨h', s'.toks, rfl⟩, fun c o ne e => (hs.2 c ne).trans e, .refl _, fun c o e => .inl e⟩
  refine ⟨Fz', fp', fv, S.trans S2 fun a q => q ▸ c5.symm, nw, R.stp S2 (fun a o e => (hs.2 a fun q => ?_).trans (R.fz a o e)) (fun a q => q ▸ c2) (fun a y q => q ▸ c3 y), O.keep (.refl _) fun a o m e => (hs.2 a fun q => c4 (q ▸ m)).trans e, hv⟩
  rw [q, c1] at e; cases e
end
end Mini

namespace Mini
open PySem PySem.W PySem.Calls PyProof.Rows PyProof.V PySem.Spec

variable {b : Base} {K : Frag}

section
variable {env cenv : Env} {ns ns' : Names} {bd bd' bdc : Str → Option Value} {s s₁ s₂ s' s0 : Shared} {Fz Fz₁ Fz' Fz0 Fzc : FzM} {fp fp₁ fp' fpc : Str → List Addr} {r o lv : LV} {t : AV} {σ σ' σ₁ σc : St} {v u u0 : Value} {A : Around} {n : Nat} {I : Interp} {e : Expr} {x y f : Str} {h h' : Heap}
  {a : Addr} {fv : List Addr} {P Q : Addr → Prop} {X : Addr → Option Obj} {oi oi' : Obj} {sc : Scope}

theorem isZero_eq {n : Int} (h : isZero n = true) : n = 0 := of_decide_eq_true h
theorem compIn_cases {ns : Names} {elt : Expr} {gens : List Comprehension} {items us : List AV} (h : compIn I ns elt gens items σ = some (us, σ')) :
    (∃ x px it ifs, gens = [⟨.Name x px, it, ifs, 0⟩] ∧ compL (compRow I ns elt x ifs) items σ = some (us, σ')) ∨
    (∃ x px it y py it2 ifs, gens = [⟨.Name x px, it, [], 0⟩, ⟨.Name y py, it2, ifs, 0⟩] ∧ plainE it2 = true ∧ compL (compNest I ns elt x y it2 ifs) items σ = some (us, σ')) := by
  rcases gens with _ | ⟨⟨tg, it, ifs, as⟩, _ | ⟨⟨tg2, it2, ifs2, as2⟩, _ | ⟨_, _⟩⟩⟩
  · cases h
  · obtain ⟨x, qx, h⟩ := o1_some h
    obtain ⟨px, rfl⟩ := nameOf_some qx
    cases ha : isZero as with
    | false =>
      have h : (match isZero as with | true => compL (compRow I ns elt x ifs) items σ | false => Option.none) = some (us, σ') := h
      rw [ha] at h; cases h
    | true =>
      have h' : (match isZero as with | true => compL (compRow I ns elt x ifs) items σ | false => Option.none) = some (us, σ') := h
      rw [ha] at h'
      cases isZero_eq ha
      exact .inl ⟨x, px, it, ifs, rfl, h'⟩
  · obtain ⟨x, qx, h⟩ := o1_some h
    obtain ⟨y, qy, h⟩ := o1_some h
    obtain ⟨px, rfl⟩ := nameOf_some qx
    obtain ⟨py, rfl⟩ := nameOf_some qy
    cases ha : isZero as && isNil ifs && isZero as2 && plainE it2 with
    | false =>
      have h : (match isZero as && isNil ifs && isZero as2 && plainE it2 with | true => compL (compNest I ns elt x y it2 ifs2) items σ | false => Option.none) = some (us, σ') := h
      rw [ha] at h; cases h
    | true =>
      have h' : (match isZero as && isNil ifs && isZero as2 && plainE it2 with | true => compL (compNest I ns elt x y it2 ifs2) items σ | false => Option.none) = some (us, σ') := h
      rw [ha] at h'
      simp only [Bool.and_eq_true] at ha
      obtain ⟨⟨⟨a1, a2⟩, a3⟩, a4⟩ := ha
      cases isZero_eq a1
      cases isZero_eq a3
      cases ifs with
      | cons _ _ => cases a2
      | nil => exact .inr ⟨x, px, it, y, py, it2, ifs2, rfl, a4, h'⟩
  · cases h
theorem comp_async {ns : Names} {elt : Expr} {gens : List Comprehension} {items us : List AV} (h : compIn I ns elt gens items σ = some (us, σ')) : firstAsync gens = false := by
  rcases compIn_cases h with ⟨x, px, it, ifs, rfl, _⟩ | ⟨x, px, it, y, py, it2, ifs, rfl, _, _⟩ <;> rfl

theorem tgt_isVar {sc : Scope} (h : tgtOk sc x = true) : isVar (compNames sc) x = true := by
  unfold tgtOk at h
  simp only [Bool.and_eq_true] at h
  unfold isVar
  rw [compNames_lookup]
  obtain ⟨h1, h2⟩ := h
  split at h2
  · rename_i q; rw [q]; exact h1
  · rename_i q; rw [q]; exact h1
  · cases h2

theorem fresh_back (S : Stp P s Fz s₁ Fz₁) (e : s₁.heap.get? a = none) : s.heap.get? a = none ∨ P a := by
  by_cases p : P a
  · exact .inr p
  · cases q : s.heap.get? a with
    | none => exact .inl rfl
    | some o => rw [S.keep a o p q] at e; cases e

theorem comp_ok {elt : Expr} {gens : List Comprehension} {pos p : Pos} {use : Option (Value → Sem Unit)} {Qf E : Value → Shared → Prop} (hE : EOk b n I.E) (hT : TOk b n I.T) (rm : Room A n) (ok : EnvOk b env ns) (R : Rel b Fz env ns σ bd fp s.heap)
    (h : compE I ns elt gens sc σ = some (r, σ'))
    (hQ : ∀ v C s', CEnd b env ns bd s Fz fp r σ' v C s' → compPost (model b.prog b.w) A E use Qf v C (.ok .next) s') :
    firstAsync gens = false ∧ wpAny (model b.prog b.w) A (comprehension (.ListComp elt gens sc pos) sc env p (newList []) false (firstIter gens env) use) Qf E s := by
  rcases gens with _ | ⟨g, gs⟩
  · cases h
  obtain ⟨hso, h⟩ := if_some h
  obtain ⟨t, σ₁, q1, h⟩ := o2_some h
  obtain ⟨its, qi, h⟩ := o1_some h
  obtain ⟨vs, σ₂, q2, h⟩ := o2_some h
  obtain ⟨⟨hlen, hback⟩, h⟩ := if_some h
  cases h
  refine ⟨comp_async q2, ?_⟩
  have so := so_of hso.1
  have hp := evE_plain q1
  have w1 := (evE_ok hE rm ok q1 R).2
  obtain ⟨cl, hcl, hcl1, hcl2⟩ := clos_ok (env := env) (sc := sc) fun x m e => by
    obtain ⟨c, hc, _⟩ := R.frame.cell x.1 (so.free x m e)
    exact ⟨c, hc⟩
  refine wpAny_comprehension_free (use := use) (cl := cl) rfl (plain_set hp) hcl so.kind (fun x m e => (so.cons x m).trans (by rw [e])) ?_
  rw [show firstIter (g :: gs) env = eval g.iter env from by cases g; rfl]
  refine NoE.any (wpAny_mono w1 (fun vt s₁ h₁ => ?_) fun _ _ x => x)
  obtain ⟨Fz₁, fp₁, S₁, n₁, R₁, d₁⟩ := h₁
  refine iter_of R₁.fz d₁ qi fun oi nf hio => ?_
  refine wpAny_newObj_type (dict := none) ?_ (by size_fits)
  have R₂ := R₁.push (oi := oi)
  have R₃ := R₂.push (oi := W.listOf ([] : List Value).toArray 0)
  generalize hs₃ : ({ s₁ with heap := (s₁.heap.push oi).push (W.listOf ([] : List Value).toArray 0) } : Shared) = s₃
  have R₃' : Rel b Fz₁ env ns σ₁ bd fp₁ s₃.heap := by rw [← hs₃]; exact R₃
  have nnI := size_none s₁.heap
  have nnD := size_none (s₁.heap.push oi)
  have nnD1 : s₁.heap.get? (s₁.heap.push oi).objs.size = none := by
    cases q : s₁.heap.get? (s₁.heap.push oi).objs.size with
    | none => rfl
    | some o' => rw [Heap.get?_push_of_some oi q] at nnD; cases nnD
  have old3 : ∀ a o, s₁.heap.get? a = some o → s₃.heap.get? a = some o := fun a o e => by rw [← hs₃]; exact Heap.get?_push_of_some _ (Heap.get?_push_of_some _ e)
  have atI : s₃.heap.get? s₁.heap.objs.size = some oi := by rw [← hs₃]; exact Heap.get?_push_of_some _ (Heap.get?_push_size _ nf)
  have atD : s₃.heap.get? (s₁.heap.push oi).objs.size = some (W.listOf ([] : List Value).toArray 0) := by rw [← hs₃]; exact Heap.get?_push_size _ rfl
  have neID : s₁.heap.objs.size ≠ (s₁.heap.push oi).objs.size := by rw [Heap.size_push]; exact Nat.ne_of_lt (Nat.lt_succ_self _)
  show wpAny _ _ _ _ _ s₃
  refine compEnv_new ?_
  obtain ⟨ok', Rc, hsl, htg, old4, hfree⟩ := comp_start so ok R₃' hcl1 hcl2 rfl
  generalize hH4 : pushCells (s₃.heap.push { cls := .type "dict", data := .dict #[] }) sc.names = H4 at Rc old4 ⊢
  have hce : ({ scope := relabel sc env, locals := s₃.heap.objs.size, globals := env.globals, cells := cellsFrom (s₃.heap.objs.size + 1) sc.names cl, qual := env.qual, func := none, code := env.code, frame := env.frame, builtins := env.builtins } : Env) = cenvOf sc env s₃.heap.objs.size cl := by
    unfold cenvOf; rw [relabel_names so ok]
  show codeAny _ _ (.compStart _ 0 _ _ ({ scope := relabel sc env, locals := s₃.heap.objs.size, globals := env.globals, cells := cellsFrom (s₃.heap.objs.size + 1) sc.names cl, qual := env.qual, func := none, code := env.code, frame := env.frame, builtins := env.builtins } : Env)) (compPost (model b.prog b.w) A E use Qf (.ref (s₁.heap.push oi).objs.size) s₃.heap.objs.size) _
  rw [hce]
  generalize hcenv : cenvOf sc env s₃.heap.objs.size cl = cenv at ok' Rc hsl htg hfree ⊢
  have hloc : cenv.locals = s₃.heap.objs.size := by rw [← hcenv]; rfl
  have slotOld : ∀ {a}, slotAt env ns a → ∃ o, s₁.heap.get? a = some o := fun hs => slot_live R₁ hs
  have offSlot : ∀ a o, s₁.heap.get? a = none → s₃.heap.get? a = some o → ¬ slotAt cenv (compNames sc) a := fun a o e1 e3 hs => by
    rcases hsl a hs with z | z
    · rw [e3] at z; cases z
    · obtain ⟨o', ho'⟩ := slotOld z
      rw [e1] at ho'; cases ho'
  have fzNone : ∀ a, s₁.heap.get? a = none → Fz₁ a = none := fun a e => by
    cases q : Fz₁ a with
    | none => rfl
    | some o' => rw [R₁.fz a o' q] at e; cases e
  have fpNone : ∀ a, s₁.heap.get? a = none → ∀ y, a ∉ fp₁ y := fun a e y m => by
    obtain ⟨o', ho'⟩ := R₁.fpLive m
    rw [e] at ho'; cases ho'
  have fpcNone : ∀ a, s₁.heap.get? a = none → ∀ y, a ∉ (fun y => if freeIn sc ns y = true then fp₁ y else []) y := fun a e y m => by
    by_cases hf : freeIn sc ns y = true
    · simp only [hf, if_true] at m; exact fpNone a e y m
    · simp [hf] at m
  have CS0 : CS b (freeP sc ns fp₁) s₁ Fz₁ cenv (compNames sc) (upd (upd (fun _ => none) s₁.heap.objs.size (some oi)) (s₁.heap.push oi).objs.size (some (W.listOf ([] : List Value).toArray 0))) (σ₁.filter fun y => freeIn sc ns y.1)
      (fun y => if freeIn sc ns y = true then bd y else none) Fz₁ (fun y => if freeIn sc ns y = true then fp₁ y else []) { s₃ with heap := H4 } := by
    refine ⟨⟨⟨H4, s₃.toks, by rw [← hs₃]⟩, fun a o _ e => old4 a o (old3 a o e), .refl _, fun a o e => .inl e⟩, fun a m => ?_, Rc, fun a o e => ?_⟩
    · obtain ⟨y, m⟩ := m
      by_cases hf : freeIn sc ns y = true
      · simp only [hf, if_true] at m; exact .inl ⟨y, hf, m⟩
      · simp [hf] at m
    · by_cases qD : a = (s₁.heap.push oi).objs.size
      · subst qD
        rw [upd_at] at e; cases e
        exact ⟨.inr nnD1, old4 _ _ atD, fzNone _ nnD1, offSlot _ _ nnD1 atD, fpcNone _ nnD1⟩
      · rw [upd_ne qD] at e
        by_cases qI : a = s₁.heap.objs.size
        · subst qI
          rw [upd_at] at e; cases e
          exact ⟨.inr nnI, old4 _ _ atI, fzNone _ nnI, offSlot _ _ nnI atI, fpcNone _ nnI⟩
        · rw [upd_ne qI] at e; cases e
  have hI : upd (upd (fun _ => none) s₁.heap.objs.size (some oi)) (s₁.heap.push oi).objs.size (some (W.listOf ([] : List Value).toArray 0)) s₁.heap.objs.size = some oi := by rw [upd_ne neID]; exact upd_at
  have tgFresh : ∀ x, tgtOk sc x = true → ∀ a, SlotIs cenv (compNames sc) x a → freeP sc ns fp₁ a ∨ s₁.heap.get? a = none := fun x tg a sl => by
    have := htg x a tg sl
    cases q : s₁.heap.get? a with
    | none => exact .inr rfl
    | some o' => rw [old3 a o' q] at this; cases this
  have fin : ∀ s' Fz' fp' bd' X' ws' m', FzLe Fz₁ Fz' → CS b (freeP sc ns fp₁) s₁ Fz₁ cenv (compNames sc) X' σ₂ bd' Fz' fp' s' → X' (s₁.heap.push oi).objs.size = some (W.listOf ws'.toArray m') → DenL b Fz' ws' ([] ++ vs) →
      compPost (model b.prog b.w) A E use Qf (.ref (s₁.heap.push oi).objs.size) s₃.heap.objs.size (.ok .next) s' := by
    intro s' Fz' fp' bd' X' ws' m' le C' hD' dw'
    refine hQ _ _ _ ?_
    obtain ⟨fpo, Ro, nwo, sub⟩ := Rel.back R₁ C' hfree hback
    have OD := (C'.ex _ _ hD').2
    obtain ⟨mC, nsC, _⟩ := C'.rel.frame.loc
    rw [hloc] at nsC
    have nnC1 : s₁.heap.get? s₃.heap.objs.size = none := by
      cases q : s₁.heap.get? s₃.heap.objs.size with
      | none => rfl
      | some o' =>
        have := size_none s₃.heap
        rw [old3 _ _ q] at this; cases this
    have slotC : slotAt cenv (compNames sc) s₃.heap.objs.size := .inl hloc.symm
    have noSlot : ∀ a, s₁.heap.get? a = none → ¬ slotAt env ns a := fun a e hs => by
      obtain ⟨o', ho'⟩ := slotOld hs
      rw [e] at ho'; cases ho'
    refine ⟨Fz', fpo, [(s₁.heap.push oi).objs.size], S₁.trans C'.stp fun a ⟨y, _, m⟩ => n₁ a ⟨y, m⟩, fun a m => ?_, Ro, .mlist OD.at' (by simpa using dw'), fun a m => ?_, ⟨mC, nsC⟩, C'.rel.slotFree _ slotC, noSlot _ nnC1, fun y m => ?_, fun m => ?_, fresh_back S₁ nnC1⟩
    · rcases nwo a m with z | z
      · exact n₁ a z
      · exact (fresh_back S₁ z).symm
    · rw [List.mem_singleton.mp m]
      refine ⟨OD.fz, noSlot _ nnD1, fun y m => ?_, fresh_back S₁ nnD1⟩
      rcases sub _ ⟨y, m⟩ with ⟨z, mz⟩ | ⟨z, mz⟩
      · exact OD.fp z mz
      · exact fpNone _ nnD1 z mz
    · rcases sub _ ⟨y, m⟩ with ⟨z, mz⟩ | ⟨z, mz⟩
      · exact (C'.rel.fpFree z _ mz).2 slotC
      · exact fpNone _ nnC1 z mz
    · have := List.mem_singleton.mp m
      have q := size_none s₃.heap
      rw [this, atD] at q; cases q
  have hgs : ∀ g' ∈ g :: gs, tgtIn sc g'.target = true := List.all_eq_true.mp hso.2
  rcases compIn_cases q2 with ⟨x, px, iter, ifs, hg, q3⟩ | ⟨x, px, iter, y, py, it2, ifs, hg, hp2, q3⟩
  · cases hg
    have tg : tgtOk sc x = true := hgs _ (.head _)
    have go : codeAny (model b.prog b.w) A (.compLoop (.ListComp elt [⟨.Name x px, iter, ifs, 0⟩] sc pos) 0 (.ref s₁.heap.objs.size) (.ref (s₁.heap.push oi).objs.size) cenv) (compPost (model b.prog b.w) A E use Qf (.ref (s₁.heap.push oi).objs.size) s₃.heap.objs.size) { s₃ with heap := H4 } :=
      emit_ok hE hT rm ok' (emit1 _ _ _ _ _ _ _ _ _) (tgt_isVar tg) (tgFresh x tg) neID (acc := []) q3 hlen CS0 hI hio upd_at .nil fun s' Fz' fp' bd' X' ws' m' le C' _ hD' dw' => fin s' Fz' fp' bd' X' ws' m' le C' hD' dw'
    exact start_code (g := ⟨.Name x px, iter, ifs, 0⟩) rfl rfl go (iter_again (Fz := Fz₁) (oi := oi) (old4 _ _ atI) hio go)
  · cases hg
    have tg : tgtOk sc x = true := hgs _ (.head _)
    have tg2 : tgtOk sc y = true := hgs _ (.tail _ (.head _))
    have go : codeAny (model b.prog b.w) A (.compLoop (.ListComp elt [⟨.Name x px, iter, [], 0⟩, ⟨.Name y py, it2, ifs, 0⟩] sc pos) 0 (.ref s₁.heap.objs.size) (.ref (s₁.heap.push oi).objs.size) cenv) (compPost (model b.prog b.w) A E use Qf (.ref (s₁.heap.push oi).objs.size) s₃.heap.objs.size) { s₃ with heap := H4 } :=
      nest_ok hE hT rm ok' (tgt_isVar tg) (tgFresh x tg) (tgt_isVar tg2) (tgFresh y tg2) neID (acc := []) hp2 q3 hlen CS0 hI hio upd_at .nil fin
    exact start_code (g := ⟨.Name x px, iter, [], 0⟩) rfl rfl go (iter_again (Fz := Fz₁) (oi := oi) (old4 _ _ atI) hio go)

theorem step_ListComp {elt : Expr} {gens : List Comprehension} {pos : Pos} (hE : EOk b n I.E) (hT : TOk b n I.T) (rm : Room A n) (ok : EnvOk b env ns) (R : Rel b Fz env ns σ bd fp s.heap)
    (h : compE I ns elt gens sc σ = some (r, σ')) : wpAny (model b.prog b.w) A (eval (.ListComp elt gens sc pos) env) (EPost b env ns bd s Fz fp r σ') NoE s := by
  rw [eval_ListComp]
  obtain ⟨h1, h2⟩ := comp_ok (pos := pos) (p := firstIterPos gens pos) (use := none) (Qf := EPost b env ns bd s Fz fp r σ') (E := NoE) hE hT rm ok R h fun v C s' e => by
    obtain ⟨m, hm⟩ : ∃ m, s'.heap.Ns C m := by obtain ⟨_, _, _, _, _, _, _, _, h, _⟩ := e; exact h
    exact ⟨m, hm, fun h' hs => e.drop hs⟩
  rw [h1]; exact h2
end
end Mini

namespace Mini
open PySem PySem.W PySem.Calls PyProof.Rows PyProof.V PySem.Spec

variable {b : Base} {K : Frag}

section
variable {env : Env} {ns : Names} {bd : Str → Option Value} {s s₁ s₂ s' : Shared} {Fz Fz₁ Fz' : FzM} {fp fp₁ : Str → List Addr} {r o : LV} {t : AV} {σ σ' σ₁ : St} {v u0 : Value} {A : Around} {n : Nat} {I : Interp} {e : Expr} {x f : Str} {h h' : Heap}

theorem step_callE {p pos : Pos} {args : List Expr} (B : BaseOk b K) (hE : EOk b n I.E) (hC : COk b n I.C) (rm : Room A n) (ok : EnvOk b env ns) (R : Rel b Fz env ns σ bd fp s.heap) (hg : isGlob ns f = true)
    (h : callE I ns f args σ = some (r, σ')) : wpAny (model b.prog b.w) A (eval (.Call (.Name f p) args [] pos) env) (EPost b env ns bd s Fz fp r σ') NoE s := by
  by_cases hf : f = "isinstance"
  · subst hf
    exact call_isinst B ok R hg h
  · unfold callE at h
    rw [if_neg hf] at h
    by_cases hb : isBuiltin f = true
    · rw [if_pos hb] at h
      obtain ⟨vs, σ₁, q1, h⟩ := o2_some h
      obtain ⟨r', q2, h⟩ := o1_some h
      cases h
      by_cases hf : f = "len" ∨ f = "range" ∨ f = "list" ∨ f = "str"
      · exact call_builtin B hE rm ok R hg hf q1 q2
      · simp only [not_or] at hf
        unfold builtin1 at q2
        rw [if_neg hf.1, if_neg hf.2.1, if_neg hf.2.2.1, if_neg hf.2.2.2] at q2
        rcases if_some3 q2 with ⟨rfl, q2⟩ | ⟨_, q2⟩
        · exact call_Vector B hE rm ok R hg q1 q2
        · rcases if_some3 q2 with ⟨rfl, q2⟩ | ⟨_, q2⟩
          · exact call_Null B hE rm ok R hg q1 q2
          · obtain ⟨rfl, q2⟩ := if_some q2
            exact call_Missing B hE rm ok R hg q1 q2
    · rw [if_neg hb] at h
      rcases if_some3 h with ⟨_, h⟩ | ⟨_, h⟩
      · cases args with
        | nil => cases h
        | cons e rest =>
          have h : (match ownNamed ns σ e with | some p => inoutName I ns f p.1 rest σ | Option.none => inoutTemp I ns f e rest σ) = some (r, σ') := h
          cases q0 : ownNamed ns σ e with
          | none => rw [q0] at h; exact call_inoutTemp B hE hC rm ok R hg h
          | some p => rw [q0] at h; exact call_inoutName B hE hC rm ok R hg q0 h
      · obtain ⟨vs, σ₁, q1, h⟩ := o2_some h
        obtain ⟨fl, o', q2, h⟩ := o2_some h
        cases fl with
        | ret r' => cases h; exact call_user B hE hC rm ok R hg q1 q2 (.inl rfl)
        | next => cases h; exact call_user B hE hC rm ok R hg q1 q2 (.inr ⟨rfl, rfl⟩)
        | _ => cases h

theorem sliceOf_some {i u : Expr} (h : sliceOf i = some u) : ∃ p, i = .Slice Option.none (some u) Option.none p := by
  cases i <;> first | cases h | skip
  rename_i lo up st p
  cases lo <;> first | cases h | skip
  cases up <;> first | cases h | skip
  cases st <;> first | cases h | skip
  exact ⟨_, rfl⟩
theorem strOf_some {k : Str} (h : strOf e = some k) : ∃ kd p, e = .Constant (.str k) kd p := by
  cases e <;> first | cases h | skip
  rename_i c kd p
  cases c <;> first | cases h | skip
  exact ⟨_, _, rfl⟩

theorem step_dict {ks : List (Option Expr)} {es : List Expr} {pos : Pos} (B : BaseOk b K) (hE : EOk b n I.E) (rm : Room A n) (ok : EnvOk b env ns) (R : Rel b Fz env ns σ bd fp s.heap) (h : dictE I ns ks es σ = some (r, σ')) :
    wpAny (model b.prog b.w) A (eval (.Dict ks es pos) env) (EPost b env ns bd s Fz fp r σ') NoE s := by
  rcases ks with _ | ⟨ko, _ | ⟨_, _⟩⟩
  · cases es with
    | nil => cases h; exact step_Dict0 B R
    | cons _ _ => cases h
  · obtain ⟨k, q1, h⟩ := o1_some h
    obtain ⟨k', q2, h⟩ := o1_some h
    cases q1
    obtain ⟨_, _, rfl⟩ := strOf_some q2
    rcases es with _ | ⟨e, _ | ⟨_, _⟩⟩
    · cases h
    · exact step_Dict1 B hE rm ok R h
    · cases h
  · cases h
theorem step_sub {v i : Expr} {pos : Pos} (hE : EOk b n I.E) (rm : Room A n) (ok : EnvOk b env ns) (R : Rel b Fz env ns σ bd fp s.heap) (h : subE I ns v i σ = some (r, σ')) :
    wpAny (model b.prog b.w) A (eval (.Subscript v i pos) env) (EPost b env ns bd s Fz fp r σ') NoE s := by
  unfold subE at h
  cases q : sliceOf i with
  | none => rw [q] at h; exact step_Sub hE rm ok R h
  | some u =>
    rw [q] at h
    obtain ⟨p, rfl⟩ := sliceOf_some q
    exact step_Slice hE rm ok R h
theorem step_cmp {l : Expr} {ops : List CmpOp} {rs : List Expr} {pos : Pos} (hE : EOk b n I.E) (rm : Room A n) (ok : EnvOk b env ns) (R : Rel b Fz env ns σ bd fp s.heap) (h : cmpE I ns l ops rs σ = some (r, σ')) :
    wpAny (model b.prog b.w) A (eval (.Compare l ops rs pos) env) (EPost b env ns bd s Fz fp r σ') NoE s := by
  rcases ops with _ | ⟨op, _ | ⟨_, _⟩⟩
  · cases h
  · rcases rs with _ | ⟨q, _ | ⟨_, _⟩⟩
    · cases h
    · exact step_Compare hE rm ok R h
    · cases h
  · cases h
theorem step_acall {o : Expr} {m : Str} {apos pos : Pos} {args : List Expr} (hE : EOk b n I.E) (rm : Room A n) (ok : EnvOk b env ns) (R : Rel b Fz env ns σ bd fp s.heap) (h : acallE I ns o m apos args pos σ = some (r, σ')) :
    wpAny (model b.prog b.w) A (eval (.Call (.Attribute o m apos) args [] pos) env) (EPost b env ns bd s Fz fp r σ') NoE s := by
  unfold acallE at h
  cases q : nameOf o with
  | some x =>
    rw [q] at h
    obtain ⟨_, rfl⟩ := nameOf_some q
    obtain ⟨hl, h⟩ := if_some h
    exact step_meth hE rm ok R hl h
  | none =>
    rw [q] at h
    rcases args with _ | ⟨e, _ | ⟨_, _⟩⟩
    · cases h
    · obtain ⟨⟨hm, q2, q3⟩, h⟩ := if_some (show (if _ then getE I ns o e σ else Option.none) = _ from h)
      obtain ⟨t, σ₁, q1, h⟩ := o2_some h
      obtain ⟨ks, vs, q4, h⟩ := o2_some h
      obtain ⟨u, σ₂, q5, h⟩ := o2_some h
      obtain ⟨k, q6, h⟩ := o1_some h
      cases h
      cases hm
      cases asDict_some q4
      cases asStr_some q6
      exact meth_get hE rm ok R q2 q3 q1 q5
    · cases h
theorem step_call {f : Expr} {args : List Expr} {kw : List Keyword} {pos : Pos} (B : BaseOk b K) (hE : EOk b n I.E) (hC : COk b n I.C) (rm : Room A n) (ok : EnvOk b env ns) (R : Rel b Fz env ns σ bd fp s.heap) (h : callX I ns f args kw pos σ = some (r, σ')) :
    wpAny (model b.prog b.w) A (eval (.Call f args kw pos) env) (EPost b env ns bd s Fz fp r σ') NoE s := by
  cases kw with
  | cons _ _ => cases h
  | nil =>
    cases f with
    | Name f p =>
      obtain ⟨q, h⟩ := if_some h
      exact step_callE B hE hC rm ok R q.1 h
    | Attribute o m apos => exact step_acall hE rm ok R h
    | _ => cases h

theorem step_E (B : BaseOk b K) (S : Sound b n I) : EOk b (n + 1) (stepE I) := by
  intro A env ns e σ r σ' bd fp Fz s rm1 ok h R
  have rm : Room A n := rm1.less (Nat.le_succ n)
  cases e with
  | Constant c _ _ => exact step_const R h
  | Name _ _ => exact step_Name ok R h
  | BinOp _ _ _ _ => exact step_BinOp S.E rm ok R h
  | BoolOp op es _ =>
    cases op with
    | Or => cases h
    | And =>
      rcases es with _ | ⟨a, _ | ⟨b, _ | ⟨_, _⟩⟩⟩ <;> first | cases h | skip
      exact step_And S.E rm ok R h
  | UnaryOp op _ _ =>
    cases op <;> first | cases h | skip
    exact step_USub S.E rm ok R h
  | Compare _ _ _ _ => exact step_cmp S.E rm ok R h
  | IfExp _ _ _ _ => exact step_IfExp S.E S.T rm ok R h
  | List _ _ => exact step_List S.E rm ok R h
  | Tuple _ _ _ => exact step_Tuple S.E rm ok R h
  | Dict _ _ _ => exact step_dict B S.E rm ok R h
  | Subscript _ _ _ => exact step_sub S.E rm ok R h
  | Attribute _ _ _ => exact step_Attr B S.E rm ok R h
  | Call _ _ _ _ => exact step_call B S.E S.C rm ok R h
  | ListComp _ _ _ _ => exact step_ListComp S.E S.T rm ok R h
  | _ => cases h
end
end Mini

namespace Mini
open PySem PySem.W PySem.Calls PyProof.Rows PyProof.V PySem.Spec

variable {b : Base} {K : Frag}

section
variable {M : Model} {A : Around} {E : Value → Shared → Prop} {s : Shared} {env : Env}
theorem isTrue_cmp {l q : Expr} {op : CmpOp} {pos : Pos} {whole : Sem Value} {Q : Bool → Shared → Prop} (h : wpAny M A (eval (.Compare l [op] [q] pos) env) (fun c s' => wpAny M A (truthy c) Q E s') E s) :
    wpAny M A (isTrue (.Compare l [op] [q] pos) env whole) Q E s := fun Γ p hΓ => by
  have h1 := h Γ p hΓ
  simp only [eval_Compare1, Sem.wp_bind', Sem.wp_holding, Sem.wp_cmd_standAt, Sem.wp_operate] at h1
  simp only [isTrue_Compare1, Sem.wp_bind', Sem.wp_holding, Sem.wp_cmd_standAt, Sem.wp_operate]
  exact Sem.wp_mono M Γ _ (fun a p₁ s₁ h₁ => Sem.wp_mono M Γ _ (fun b _ s₂ h₂ => Sem.wp_mono M Γ _ (fun c p₃ s₃ h₃ => h₃ Γ p₃ hΓ)
    (fun _ _ _ h' => h') _ _ h₂) (fun _ _ _ h' => h') _ _ h₁) (fun _ _ _ h' => h') _ _ h1
end

section
variable {env : Env} {ns : Names} {bd : Str → Option Value} {s s₁ s₂ s' : Shared} {Fz Fz₁ Fz' : FzM} {fp fp₁ : Str → List Addr} {r o : LV} {t : AV} {σ σ' σ₁ : St} {v u0 : Value} {A : Around} {n : Nat} {I : Interp} {e : Expr} {x f : Str} {h h' : Heap}

theorem tOk_plain {e : Expr} (h : tOk e = true) {Q : Bool → Shared → Prop} (k : wpAny (model b.prog b.w) A (eval e env) (fun v s₁ => wpAny (model b.prog b.w) A (truthy v) Q NoE s₁) NoE s) : wpAny (model b.prog b.w) A (isTrue e env (eval e env)) Q NoE s := by
  cases e with
  | Compare l ops rs p =>
    rcases ops with _ | ⟨op, _ | ⟨_, _⟩⟩ <;> first | cases h | skip
    rcases rs with _ | ⟨q, _ | ⟨_, _⟩⟩ <;> first | cases h | skip
    exact isTrue_cmp k
  | UnaryOp op x p => cases op <;> first | exact isTrue_plain k rfl | cases h
  | BoolOp _ _ _ => cases h
  | IfExp _ _ _ _ => cases h
  | _ => exact isTrue_plain k rfl

theorem allT_ok {pos : Pos} {whole : Sem Value} (hT : TOk b n I.T) (rm : Room A n) (ok : EnvOk b env ns) : ∀ (op : BoolOp) (es : List Expr) {k : Bool} {σ σ' : St} {Fz : FzM} {fp : Str → List Addr} {s : Shared}, allT I ns op es σ = some (k, σ') → Rel b Fz env ns σ bd fp s.heap →
    wpAny (model b.prog b.w) A (isTrue (.BoolOp op es pos) env whole) (fun k' s' => k' = k ∧ SPost b env ns bd s Fz fp σ' s') NoE s
  | .And, [], k, σ, σ', Fz, fp, s, h, R => by cases h; exact isTrue_and_nil ⟨rfl, SPost.refl R⟩
  | .Or, [], k, σ, σ', Fz, fp, s, h, R => by cases h; exact isTrue_or_nil ⟨rfl, SPost.refl R⟩
  | op, e :: es, k, σ, σ', Fz, fp, s, h, R => by
    obtain ⟨c, σ1, q, h⟩ := o2_some h
    have w := hT A env ns e σ _ _ bd fp Fz s rm ok q R
    cases op with
    | And =>
      refine isTrue_and (wpAny_mono w (fun c' s₁ h₁ => ?_) fun _ _ x => x)
      obtain ⟨rfl, Fz₁, fp₁, S₁, n₁, R₁⟩ := h₁
      cases c' with
      | true => exact wpAny_mono (allT_ok hT rm ok .And es h R₁) (fun k' s₂ h₂ => ⟨h₂.1, SPost.after S₁ n₁ h₂.2⟩) fun _ _ x => x
      | false => cases h; exact ⟨rfl, Fz₁, fp₁, S₁, n₁, R₁⟩
    | Or =>
      refine isTrue_or (wpAny_mono w (fun c' s₁ h₁ => ?_) fun _ _ x => x)
      obtain ⟨rfl, Fz₁, fp₁, S₁, n₁, R₁⟩ := h₁
      cases c' with
      | true => cases h; exact ⟨rfl, Fz₁, fp₁, S₁, n₁, R₁⟩
      | false => exact wpAny_mono (allT_ok hT rm ok .Or es h R₁) (fun k' s₂ h₂ => ⟨h₂.1, SPost.after S₁ n₁ h₂.2⟩) fun _ _ x => x

theorem val_T (S : Sound b n I) (rm : Room A n) (ok : EnvOk b env ns) {k : Bool} (h : valT I ns e σ = some (k, σ')) (R : Rel b Fz env ns σ bd fp s.heap) :
    wpAny (model b.prog b.w) A (isTrue e env (eval e env)) (fun k' s' => k' = k ∧ SPost b env ns bd s Fz fp σ' s') NoE s := by
  obtain ⟨ht, h⟩ := if_some h
  obtain ⟨v, σ1, q, h⟩ := o2_some h
  obtain ⟨c, q2, h⟩ := o1_some h
  cases h
  cases asBool_some q2
  refine tOk_plain ht (wpAny_mono (S.E A env ns e σ _ _ bd fp Fz s rm ok q R) (fun c s₁ h₁ => ?_) fun _ _ x => x)
  obtain ⟨Fz', fp', fv, S1, n1, R1, O, _⟩ := h₁
  have d := O.den.1
  cases d
  exact wpAny_truthy_bool ⟨rfl, Fz', fp', S1, n1, R1⟩

theorem step_T (S : Sound b n I) : TOk b (n + 1) (stepT I) := by
  intro A env ns e σ r σ' bd fp Fz s rm1 ok h R
  have rm : Room A n := rm1.less (Nat.le_succ n)
  cases e with
  | UnaryOp op x p =>
    cases op with
    | Not =>
      obtain ⟨k, σ1, q, h⟩ := o2_some (show notT I ns x σ = _ from h)
      cases h
      refine isTrue_not (wpAny_mono (S.T A env ns _ σ _ _ bd fp Fz s rm ok q R) (fun c s₁ h₁ => ?_) fun _ _ x => x)
      obtain ⟨rfl, h₁⟩ := h₁
      exact ⟨rfl, h₁⟩
    | _ => exact val_T S rm ok h R
  | BoolOp op es _ => exact allT_ok S.T rm ok _ _ h R
  | _ => exact val_T S rm ok h R
end
end Mini

namespace Mini
open PySem PySem.W PySem.Calls PyProof.Rows PyProof.V PySem.Spec

variable {b : Base} {K : Frag}

section
variable {prog : Program} {w : World} {A : Around} {E : Value → Shared → Prop} {s : Shared} {x d C : Addr} {es : List DictEntry} {n : Nat} {name : Str} {v : Value}

theorem store_attr {Q : Unit → Shared → Prop} (X : K.In s.heap) (hx : s.heap.get? x = some (instObj C d)) (hd : s.heap.get? d = some (dictOf es n)) (hs : findIn K (.ref C) "__setattr__" = some (some (.builtin "object.__setattr__"))) (hp : plainOver K C = true)
    (ht : takerIn K C name = some none) (hh : hasDictIn K C = true) (hl : es.any (·.key.isStr name) = true) (hz : (putL name (PyData.keyHash w.params name) (.str name (s.toks + 1)) v es).length ≤ 1000)
    (h : ∀ h', h'.get? d = some (dictOf (putL name (PyData.keyHash w.params name) (.str name (s.toks + 1)) v es) (putN name es n)) → Heap.SameBut d s.heap h' → Q () { s with heap := h', toks := s.toks + 2 }) :
    wpAny (model prog w) A (setAttr (.ref x) name v) Q E s := by
  have I : InstAt s.heap x (instObj C d) C (some (dictOf es n)) := ⟨hx, rfl, rfl, hd⟩
  refine set_plain X I hs (osa_open (s := { s with toks := s.toks + 1 }) X I hp ht fun k => ?_)
  obtain ⟨cd, hc, hcd⟩ := any_some hh
  have up : ∀ y, Obj.putName name (PyData.keyHash w.params name) (.str name y) v (dictOf es n) = dictOf (putL name (PyData.keyHash w.params name) (.str name y) v es) (putN name es n) := fun y => putName_dict _ _ _ _ _ _
  refine wpAny_bind (wpAny_pure (wpAny_bind (wpAny_bind (wpAny_loadPart hx (wpAny_bind (Looks.here (s := { s with toks := s.toks + 1 }) (looks_clsIn X hc) ?_))))))
  rw [hcd]
  refine wpAny_pure (a := some d) (wpAny_bind (wpAny_pure (wpAny_bind ?_)))
  unfold nsSet
  refine wpAny_bind (wpAny_bind (wpAny_askSetting (wpAny_pure (wpAny_bind (wpAny_mkText (wpAny_bind (wpAny_loadPart hd ?_)))))))
  have c : (!es.toArray.any (·.key.isStr name) && es.toArray.any (·.refKey)) = false := by rw [List.any_toArray, hl]; rfl
  dsimp only
  rw [aRefKeyMayBeTheName_at, c]
  refine wpAny_updatePart hd ?_
  have at' := Heap.get?_update_self (Obj.putName name (PyData.keyHash w.params name) (.str name (s.toks + 1)) v) hd (by rw [up]; rfl)
  rw [up] at at'
  exact wpAny_bind (wpAny_lookBehind at' (by exact pastItsLine_dict (by rw [List.size_toArray, sizeLine_eq]; omega)) (wpAny_pure (h _ at' (Heap.SameBut.update ..))))
end
end Mini

namespace Mini
open PySem PySem.W PySem.Calls PyProof.Rows PyProof.V PySem.Spec

variable {b : Base} {K : Frag}

section
variable {env : Env} {ns : Names} {bd bd' : Str → Option Value} {s s₁ s₂ s' : Shared} {Fz Fz₁ Fz' : FzM} {fp fp₁ fp' : Str → List Addr} {r o lv : LV} {t : AV} {σ σ' σ₁ : St} {v u u0 : Value} {A : Around} {n : Nat} {I : Interp} {e : Expr} {x f fx : Str} {h h' : Heap}
  {a : Addr} {fv fw : List Addr} {fl : Flw} {fo : Flow}

theorem swaps_not {tg : Option Expr} {k : Nat} (hp : plainE e = true) (hc : isComp e = false) : swapsWith e tg k env = pure false := by
  cases e <;> first | rfl | (exfalso; revert hp; show false = true → False; intro q; cases q) | (exfalso; revert hc; show true = false → False; intro q; cases q)

theorem not_inter (ok : EnvOk b env ns) : interactive env = false := by
  unfold interactive
  rw [ok.kind]; rfl

theorem BPost.ofS (h : SPost b env ns bd s Fz fp σ' s') : BPost b env ns bd s Fz fp fx .next σ' .next s' := by
  obtain ⟨Fz', fp', S, nw, R⟩ := h
  exact ⟨Fz', fp', bd, S.weak fun a m => .inl m, nw, R, rfl, rfl⟩

theorem EPost.toS (h : EPost b env ns bd s Fz fp r σ' v s') : SPost b env ns bd s Fz fp σ' s' := by
  obtain ⟨Fz', fp', fv, S, nw, R, _⟩ := h
  exact ⟨Fz', fp', S, nw, R⟩
theorem TPost.toS (h : TPost b env ns bd s Fz fp t σ' v s') : SPost b env ns bd s Fz fp σ' s' := by
  obtain ⟨Fz', fp', S, nw, R, _⟩ := h
  exact ⟨Fz', fp', S, nw, R⟩

def PP (env : Env) (ns : Names) (fp : Str → List Addr) (a : Addr) : Prop := inFp fp a ∨ slotAt env ns a

theorem freshP (S : Stp (PP env ns fp) s Fz s₁ Fz₁) (R : Rel b Fz env ns σ bd fp s.heap) (hn : s₁.heap.get? a = none) (hs : ¬ slotAt env ns a) : s.heap.get? a = none ∨ inFp fp a := by
  rcases fresh_back S hn with z | z | z
  · exact .inl z
  · exact .inr z
  · exact absurd z hs

theorem BPost.after (R : Rel b Fz env ns σ bd fp s.heap) (S : Stp (PP env ns fp) s Fz s₁ Fz₁) (nw : ∀ a, inFp fp₁ a → inFp fp a ∨ s.heap.get? a = none) (R₁ : Rel b Fz₁ env ns σ₁ bd' fp₁ s₁.heap) (hb : bd' fx = bd fx) (h : BPost b env ns bd' s₁ Fz₁ fp₁ fx fl σ' fo s') :
    BPost b env ns bd s Fz fp fx fl σ' fo s' := by
  obtain ⟨Fz', fp', bd2, S', nw', R', hb', F⟩ := h
  have liveSlot : ∀ a, slotAt env ns a → s₁.heap.get? a ≠ none := fun a hs e => by
    obtain ⟨o, ho⟩ := slot_live R₁ hs
    rw [e] at ho; cases ho
  refine ⟨Fz', fp', bd2, S.trans S' fun a q => ?_, fun a m => ?_, R', hb'.trans hb, ?_⟩
  · rcases q with q | q
    · exact (nw a q).imp .inl id
    · exact .inl (.inr q)
  · rcases nw' a m with z | z
    · exact nw a z
    · exact (freshP S R z fun hs => liveSlot a hs z).symm
  · cases fl with
    | next => exact F
    | brk => exact F
    | ret lv =>
      obtain ⟨v, fv, e, O, hv⟩ := F
      refine ⟨v, fv, e, O, fun a m => ⟨(hv a m).1, (hv a m).2.1, (hv a m).2.2.1, ?_⟩⟩
      rcases (hv a m).2.2.2 with z | z
      · exact freshP S R z fun hs => liveSlot a hs z
      · exact (nw a z).symm
    | retv x lv => exact F

theorem store_E (ok : EnvOk b env ns) (hv : isVar ns x = true) (hx : x ≠ fx) (R0 : Rel b Fz env ns σ bd fp s.heap) {Q : Flow → Shared → Prop} {E : Value → Shared → Prop} (h : EPost b env ns bd s Fz fp r σ' v s')
    (k : ∀ s'', BPost b env ns bd s Fz fp fx .next (put σ' x r) .next s'' → Q .next s'') : wpAny (model b.prog b.w) A (storeName env x v) (fun _ => Q .next) E s' := by
  obtain ⟨Fz', fp', fv, S, nw, R, O, hf⟩ := h
  refine store_ok ok R hv O (fun c m => ⟨(hf c m).1, (hf c m).2.1, fun y _ => (hf c m).2.2.1 y⟩) fun a h' tk sl sb R' => k _ ?_
  have S2 : Stp (· = a) s' Fz' { s' with heap := h', toks := tk } Fz' := ⟨⟨h', tk, rfl⟩, fun c o ne e => (sb.2 c ne).trans e, .refl _, fun c o e => .inl e⟩
  refine ⟨Fz', _, _, (S.weak fun a m => .inl m).trans (P := PP env ns fp) S2 fun c q => .inl (.inr (q ▸ sl.at)), fun c m => ?_, R', ?_, rfl⟩
  · obtain ⟨y, m⟩ := m
    by_cases q : y = x
    · simp only [q, if_true] at m
      exact (hf c m).2.2.2.symm
    · simp only [q, if_false] at m
      exact nw c ⟨y, m⟩
  · simp [Ne.symm hx]

theorem swaps_comp {elt : Expr} {gens : List Comprehension} {sc : Scope} {p px : Pos} {k : Nat} : ∃ B : Bool, swapsWith (.ListComp elt gens sc p) (some (.Name x px)) k env = pure B := ⟨_, rfl⟩

theorem st_Assign {px pos : Pos} (S : Sound b n I) (rm : Room A n) (ok : EnvOk b env ns) (R : Rel b Fz env ns σ bd fp s.heap) (hv : isVar ns x = true) (hx : x ≠ fx) (hp : plainE e = true) (h : evA I ns e σ = some (r, σ')) :
    wpAny (model b.prog b.w) A (exec (.Assign [.Name x px] e pos) env) (BPost b env ns bd s Fz fp fx .next (put σ' x r)) NoE s := by
  have fin : ∀ {Q : Flow → Shared → Prop}, (∀ s'', BPost b env ns bd s Fz fp fx .next (put σ' x r) .next s'' → Q .next s'') → ∀ v s₁, EPost b env ns bd s Fz fp r σ' v s₁ → wpAny (model b.prog b.w) A (storeName env x v) (fun _ => Q .next) NoE s₁ :=
    fun k v s₁ e => store_E ok hv hx R e k
  cases e with
  | ListComp elt gens sc p =>
    obtain ⟨B, hB⟩ := swaps_comp (elt := elt) (gens := gens) (sc := sc) (p := p) (px := px) (k := pos.line) (x := x) (env := env)
    cases B with
    | false =>
      refine wpAny_Assign_Name (wpAny_mono (step_ListComp S.E S.T rm ok R h) (fun v s₁ e => ?_) fun _ _ x => x) hB
      exact fin (fun _ q => q) v s₁ e
    | true =>
      rw [exec_Assign_Name_used _ _ _ _ hB]
      refine wpAny_bind (wpAny_standAt (wpAny_bind ?_))
      show wpAny _ A (do let _ ← comprehension (.ListComp elt gens sc p) sc env (firstIterPos gens p) (newList []) (firstAsync gens) (firstIter gens env) (some (assign (.Name x px) env))) _ _ s
      obtain ⟨h1, h2⟩ := comp_ok (pos := p) (p := firstIterPos gens p) (use := some (assign (.Name x px) env)) (Qf := fun _ s' => BPost b env ns bd s Fz fp fx .next (put σ' x r) .next s') (E := NoE) S.E S.T rm ok R h fun v C s₁ e => by
        show wpAny _ A (assign (.Name x px) env v) _ _ s₁
        obtain ⟨Fz', fp', fv, S1, nw, R1, O, hf, ⟨m, hm⟩, c1, c2, c3, c4, c5⟩ := e
        refine wpAny_assign_Name (store_ok ok R1 hv O (fun c m => ⟨(hf c m).1, (hf c m).2.1, fun y _ => (hf c m).2.2.1 y⟩) fun a h' tk sl sb R' => ?_)
        have neC : C ≠ a := fun q => c2 (q ▸ sl.at)
        refine ⟨m, hm.sameBut sb neC, fun h'' hs => ?_⟩
        have S2 : Stp (· = a) s₁ Fz' { s₁ with heap := h', toks := tk } Fz' := ⟨⟨h', tk, rfl⟩, fun c o ne e => (sb.2 c ne).trans e, .refl _, fun c o e => .inl e⟩
        have S3 : Stp (· = C) { s₁ with heap := h', toks := tk } Fz' { s₁ with heap := h'', toks := tk } Fz' := ⟨⟨h'', tk, rfl⟩, fun c o ne e => (hs.2 c ne).trans e, .refl _, fun c o e => .inl e⟩
        have S12 := (S1.weak fun a m => .inl m).trans (P := PP env ns fp) S2 fun c q => .inl (.inr (q ▸ sl.at))
        refine ⟨Fz', _, _, S12.trans S3 fun c q => q ▸ ?_, fun c m => ?_, R'.stp S3 (fun a o e => (hs.2 a fun q => ?_).trans (R'.fz a o e)) (fun a q => q ▸ c2) (fun a y q => q ▸ fun m => ?_), ?_, rfl⟩
        · exact c5.symm.imp .inl id
        · obtain ⟨y, m⟩ := m
          by_cases q : y = x
          · simp only [q, if_true] at m
            exact (hf c m).2.2.2.symm
          · simp only [q, if_false] at m
            exact nw c ⟨y, m⟩
        · rw [q, c1] at e; cases e
        · by_cases q : y = x
          · simp only [q, if_true] at m; exact c4 m
          · simp only [q, if_false] at m; exact c3 y m
        · simp [Ne.symm hx]
      rw [h1]
      exact wpAny_bind (wpAny_mono h2 (fun v s₁ q => wpAny_pure (wpAny_pure q)) fun _ _ x => x)
  | _ => exact wpAny_Assign_Name (wpAny_mono (S.E A env ns _ σ r σ' bd fp Fz s rm ok h R) (fun v s₁ e => fin (fun _ q => q) v s₁ e) fun _ _ x => x) (swaps_not hp rfl)
end
end Mini

namespace Mini
open PySem PySem.W PySem.Calls PyProof.Rows PyProof.V PySem.Spec

variable {b : Base} {K : Frag}

theorem Own.isMvec {Fz : FzM} {h : Heap} {v : Value} {k : Str} {its ats : AV} {f : List Addr} (O : Own b Fz h v (.mvec k its ats) f) :
    ∃ a d tk t0 t1 t2 t3 t4 n vi va vs vl fa, v = .ref a ∧ f = a :: d :: fa ∧ h.get? a = some (instObj b.CV d) ∧ h.get? d = some (dictOf (vecEs b.w.params t0 t1 t2 t3 t4 (.str k tk) vi va vs vl) n) ∧ Den b Fz vi its ∧ AOwn b Fz h va ats fa ∧ a ≠ d ∧ a ∉ fa ∧ d ∉ fa := by
  cases O with | mvec e1 e2 r1 r2 n1 n2 n3 => exact ⟨_, _, _, _, _, _, _, _, _, _, _, _, _, _, rfl, rfl, e1, e2, r1, r2, n1, n2, n3⟩
theorem Own.isMdict {Fz : FzM} {h : Heap} {v : Value} {ks : List Str} {vs : List AV} {f : List Addr} (O : Own b Fz h v (.mdict ks vs) f) :
    ∃ a o kvs, v = .ref a ∧ f = [a] ∧ ks = kvs.map (·.1) ∧ h.get? a = some o ∧ o.IsDictOf (strKind b.prog b.w) kvs ∧ (a == sysModules) = false ∧ DenL b Fz (kvs.map (·.2)) vs := by
  cases O with | mdict e i s r => exact ⟨_, _, _, rfl, rfl, rfl, e, i, s, r⟩
theorem AOwn.isDict {Fz : FzM} {h : Heap} {v : Value} {ks : List Str} {vs : List AV} {f : List Addr} (O : AOwn b Fz h v (.dict ks vs) f) :
    ∃ a o kvs, v = .ref a ∧ f = [a] ∧ ks = kvs.map (·.1) ∧ h.get? a = some o ∧ o.IsDictOf (strKind b.prog b.w) kvs ∧ (a == sysModules) = false ∧ DenL b Fz (kvs.map (·.2)) vs := by
  cases O with | dict e i s r => exact ⟨_, _, _, rfl, rfl, rfl, e, i, s, r⟩

section
variable {env : Env} {ns : Names} {bd bd' : Str → Option Value} {s s₁ s₂ s' : Shared} {Fz Fz₁ Fz' : FzM} {fp fp₁ fp' : Str → List Addr} {r o lv : LV} {t : AV} {σ σ' σ₁ : St} {v u u0 : Value} {A : Around} {n : Nat} {I : Interp} {e : Expr} {x f fx : Str} {h h' : Heap}
  {a d : Addr} {fv fw : List Addr} {fl : Flw} {fo : Flow}

theorem putL_len2 (p : Params) (t0 t1 t2 t3 t4 : Tok) (vk vi va vs vl key v : Value) (hsh : Int) : (putL "attrs" hsh key v (vecEs p t0 t1 t2 t3 t4 vk vi va vs vl)).length = 5 := rfl
theorem putL_len3 (p : Params) (t0 t1 t2 t3 t4 : Tok) (vk vi va vs vl key v : Value) (hsh : Int) : (putL "shared" hsh key v (vecEs p t0 t1 t2 t3 t4 vk vi va vs vl)).length = 5 := rfl

theorem BPost.write {f' : List Addr} {tk : Nat} (S : Stp (inFp fp) s Fz s₁ Fz₁) (nw : ∀ a, inFp fp₁ a → inFp fp a ∨ s.heap.get? a = none) (R : Rel b Fz₁ env ns σ₁ bd fp₁ s₁.heap) (hu : bd x = some u) (hd : d ∈ fp₁ x) (hs : Heap.SameBut d s₁.heap h')
    (O : Own b Fz₁ h' u lv f') (hf : ∀ a ∈ f', a ∈ fp₁ x ∨ (Fz₁ a = none ∧ ¬ slotAt env ns a ∧ (∀ y, a ∉ fp₁ y) ∧ (s.heap.get? a = none ∨ inFp fp a))) :
    BPost b env ns bd s Fz fp fx .next (put σ₁ x lv) .next { s₁ with heap := h', toks := tk } := by
  have oth : ∀ c o, c ≠ d → s₁.heap.get? c = some o → h'.get? c = some o := fun c o ne e => (hs.2 c ne).trans e
  have fzd : Fz₁ d = none := (R.fpFree x d hd).1
  have S2 : Stp (· = d) s₁ Fz₁ { s₁ with heap := h', toks := tk } Fz₁ := ⟨⟨h', tk, rfl⟩, fun c o ne e => oth c o ne e, .refl _, fun c o e => .inl e⟩
  have hf2 : ∀ a ∈ f', Fz₁ a = none ∧ ¬ slotAt env ns a ∧ ∀ y, y ≠ x → a ∉ fp₁ y := fun a m => by
    rcases hf a m with z | z
    · exact ⟨(R.fpFree x a z).1, (R.fpFree x a z).2, fun y hy m2 => R.apart x y a (Ne.symm hy) z m2⟩
    · exact ⟨z.1, z.2.1, fun y _ => z.2.2.1 y⟩
  refine ⟨Fz₁, fun y => if y = x then f' else fp₁ y, bd, (S.weak fun a m => .inl m).trans (P := PP env ns fp) S2 fun c q => ?_, fun c m => ?_, ⟨fun c o e => oth c o (fun q => by rw [q, fzd] at e; cases e) (R.fz c o e), R.base, R.frame.keep fun c o hsl e => oth c o (fun q => (R.fpFree x d hd).2 (q ▸ hsl)) e, R.slotFree, fun y w e => ?_, fun y e => ?_, fun y c m => ?_, fun y z c hyz m1 m2 => ?_⟩, rfl, rfl⟩
  · subst q
    exact (nw c ⟨x, hd⟩).imp .inl id
  · obtain ⟨y, m⟩ := m
    by_cases q : y = x
    · simp only [q, if_true] at m
      rcases hf c m with z | z
      · exact nw c ⟨x, z⟩
      · exact z.2.2.2.symm
    · simp only [q, if_false] at m
      exact nw c ⟨y, m⟩
  · rw [lookup_put] at e
    by_cases q : y = x
    · rw [if_pos q] at e; cases e
      refine ⟨u, q ▸ hu, ?_⟩
      simp only [q, if_true]; exact O
    · rw [if_neg q] at e
      obtain ⟨u', hu', O'⟩ := R.var y w e
      refine ⟨u', hu', ?_⟩
      simp only [q, if_false]
      exact O'.keep (.refl _) fun c o m e => oth c o (fun z => R.apart y x c q m (z ▸ hd)) e
  · rw [lookup_put] at e
    by_cases q : y = x
    · rw [if_pos q] at e; cases e
    · rw [if_neg q] at e ⊢; exact R.fpOff y e
  · by_cases q : y = x
    · simp only [q, if_true] at m
      exact ⟨(hf2 c m).1, (hf2 c m).2.1⟩
    · simp only [q, if_false] at m; exact R.fpFree y c m
  · by_cases q : y = x
    · simp only [q, if_true] at m1
      have q2 : z ≠ x := fun e => hyz (q.trans e.symm)
      simp only [q2, if_false] at m2
      exact (hf2 c m1).2.2 z q2 m2
    · simp only [q, if_false] at m1
      by_cases q2 : z = x
      · simp only [q2, if_true] at m2
        exact (hf2 c m2).2.2 y q m1
      · simp only [q2, if_false] at m2; exact R.apart y z c hyz m1 m2

theorem vecOf_some {lv : LV} {p : Str × AV × AV} (h : vecOf lv = some p) : lv = .mvec p.1 p.2.1 p.2.2 := by cases lv <;> first | (cases h; rfl) | cases h
theorem dictOfL_some {lv : LV} {ks : List Str} {vs : List AV} (h : dictOfL lv = some (ks, vs)) : lv = .mdict ks vs := by cases lv <;> first | (cases h; rfl) | cases h

theorem st_Attr {an : Str} {px ap pos : Pos} (B : BaseOk b K) (S : Sound b n I) (rm : Room A n) (ok : EnvOk b env ns) (R : Rel b Fz env ns σ bd fp s.heap) (hp : plainE e = true) (hc : isComp e = false) (q1 : I.E ns e σ = some (r, σ₁)) (q2 : attrStore ns x an r σ₁ = some (fl, σ')) :
    wpAny (model b.prog b.w) A (exec (.Assign [.Attribute (.Name x px) an ap] e pos) env) (BPost b env ns bd s Fz fp fx fl σ') NoE s := by
  refine plainObj_wpAny_Assign_Attribute (wpAny_mono (S.E A env ns e σ r σ₁ bd fp Fz s rm ok q1 R) (fun v s₁ h₁ => ?_) fun _ _ x => x) (swaps_not hp hc)
  obtain ⟨Fz₁, fp₁, fv, S₁, n₁, R₁, O, hv⟩ := h₁
  obtain ⟨lv, g, q2⟩ := o1_some q2
  obtain ⟨⟨k, i, t⟩, q3, q2⟩ := o1_some q2
  cases vecOf_some q3
  obtain ⟨u, hu, Ou, _, kk⟩ := name_ok (A := A) ok R₁ g
  refine kk px _ _ ?_
  obtain ⟨a, d, tk, t0, t1, t2, t3, t4, m, vi, va, vs, vl, fa, rfl, hfp, ha, hd, di, da, ne, na, nd⟩ := Ou.isMvec
  have X : K.In s₁.heap := fun c o e => R₁.fz _ _ (R₁.base _ _ (B.X c o e))
  have memA : a ∈ fp₁ x := by rw [hfp]; exact .head _
  have memD : d ∈ fp₁ x := by rw [hfp]; exact .tail _ (.head _)
  rcases if_some3 q2 with ⟨hn, q2⟩ | ⟨_, q2⟩
  · obtain ⟨ks, vs', q4, q2⟩ := o2_some q2
    cases q2
    cases dictOfL_some q4
    cases hn
    obtain ⟨c, oo, kvs, rfl, rfl, rfl, hc', hi, hsys, dk⟩ := O.isMdict
    have hvc := hv c (.head _)
    refine store_attr X ha hd B.V.set B.V.plain (B.V.taker _ (.tail _ (.tail _ (.head _)))) B.V.dict rfl (by rw [putL_len2]; decide) fun h' hd' hs => ?_
    have ncd : c ≠ d := fun q => hvc.2.2.1 x (q ▸ memD)
    have nca : c ≠ a := fun q => hvc.2.2.1 x (q ▸ memA)
    refine BPost.write S₁ n₁ R₁ hu memD hs (.mvec (d := d) (fa := [c]) ((hs.2 a ne).trans ha) hd' di (.dict ((hs.2 c ncd).trans hc') hi hsys dk) ne (fun m => nca (List.mem_singleton.mp m).symm) (fun m => ncd (List.mem_singleton.mp m).symm)) fun z m => ?_
    rcases List.mem_cons.mp m with rfl | m
    · exact .inl memA
    · rcases List.mem_cons.mp m with rfl | m
      · exact .inl memD
      · rw [List.mem_singleton.mp m]
        exact .inr hvc
  · obtain ⟨hn, q2⟩ := if_some q2
    obtain ⟨kb, q4, q2⟩ := o1_some q2
    cases q2
    cases asBool_some q4
    cases hn
    obtain ⟨dv, rfl⟩ := O.den
    cases dv
    refine store_attr X ha hd B.V.set B.V.plain (B.V.taker _ (.tail _ (.tail _ (.tail _ (.head _))))) B.V.dict rfl (by rw [putL_len3]; decide) fun h' hd' hs => ?_
    refine BPost.write S₁ n₁ R₁ hu memD hs (.mvec (d := d) (fa := fa) ((hs.2 a ne).trans ha) hd' di (da.keep (.refl _) fun c o m e => (hs.2 c fun q => nd (q ▸ m)).trans e) ne na nd) fun z m => ?_
    rw [← hfp] at m
    exact .inl m
end
end Mini

namespace Mini
open PySem PySem.W PySem.Calls PyProof.Rows PyProof.V PySem.Spec

variable {b : Base} {K : Frag}

theorem stored_new {kvs : List (Str × Value)} {k : Str} {v : Value} (h : (kvs.map (·.1)).contains k = false) : stored kvs k v = kvs ++ [(k, v)] := by
  unfold stored
  rw [if_neg]
  intro q
  rw [List.any_eq_true] at q
  obtain ⟨p, hp, e⟩ := q
  have : (kvs.map (·.1)).contains k = true := List.contains_iff_mem.mpr (List.mem_map.mpr ⟨p, hp, of_decide_eq_true e⟩)
  rw [h] at this; cases this

section
variable {env : Env} {ns : Names} {bd bd' : Str → Option Value} {s s₁ s₂ s' : Shared} {Fz Fz₁ Fz' : FzM} {fp fp₁ fp' : Str → List Addr} {r o lv : LV} {t : AV} {σ σ' σ₁ : St} {v u u0 : Value} {A : Around} {n : Nat} {I : Interp} {e : Expr} {x f fx : Str} {h h' : Heap}
  {a d : Addr} {fv fw : List Addr} {fl : Flw} {fo : Flow}

theorem Stp.toks {P : Addr → Prop} {k : Nat} (S : Stp P s Fz s₁ Fz₁) : Stp P s Fz { s₁ with toks := k } Fz₁ := by
  obtain ⟨⟨h, tk, rfl⟩, e2, e3, e4⟩ := S
  exact ⟨⟨h, k, rfl⟩, e2, e3, e4⟩

theorem st_Sub {key : Str} {kk : Nat} {px ap cp sp pos : Pos} {ks : List Str} {vs : List AV} {k : Str} {i : AV} (B : BaseOk b K) (S : Sound b n I) (rm : Room A n) (ok : EnvOk b env ns) (R : Rel b Fz env ns σ bd fp s.heap) (hc : isComp e = false) (q1 : evE I ns e σ = some (t, σ₁)) (q2 : getV ns σ₁ x = some (.mvec k i (.dict ks vs)))
    (q3 : ks.length < 100 ∧ ks.contains key = false) :
    wpAny (model b.prog b.w) A (exec (.Assign [.Subscript (.Attribute (.Name x px) "attrs" ap) (.Constant (.str key) kk cp) sp] e pos) env) (BPost b env ns bd s Fz fp fx .next (put σ₁ x (.mvec k i (.dict (ks ++ [key]) (vs ++ [t]))))) NoE s := by
  obtain ⟨hp, w1⟩ := evE_ok S.E rm ok q1 R
  refine wpAny_Assign_Subscript (wpAny_mono w1 (fun v s₁ h₁ => ?_) fun _ _ x => x) (swaps_not hp hc)
  obtain ⟨Fz₁, fp₁, S₁, n₁, R₁, dt⟩ := h₁
  obtain ⟨u, hu, Ou, _, kn⟩ := name_ok (A := A) ok R₁ q2
  obtain ⟨a, d, tk, t0, t1, t2, t3, t4, m, vi, va, vs', vl, fa, rfl, hfp, ha, hd, di, da, ne, na, nd⟩ := Ou.isMvec
  obtain ⟨c, oo, kvs, rfl, rfl, rfl, ho, hi, hsys, dk⟩ := da.isDict
  have X : K.In s₁.heap := fun c o e => R₁.fz _ _ (R₁.base _ _ (B.X c o e))
  have memC : c ∈ fp₁ x := by rw [hfp]; simp
  refine Attribute_any_ (kn px _ _ (getAttr_own X B.V (by simp) ha hd (getL_vec2 ..) rfl ?_)) rfl
  refine Constant_str ?_
  refine wpAny_setItem_pairs (knd := PySem.strKind b.prog b.w) (k := key) (is_str _ _ _ _) (Heap.dictOf_iff.mpr ⟨oo, ho, hi⟩) (fun h' hd' hs => ?_) ?_
  · obtain ⟨o', ho', hi'⟩ := Heap.dictOf_iff.mp hd'
    rw [stored_new q3.2] at hi'
    have nac : a ≠ c := fun q => na (q ▸ .head _)
    have ndc : d ≠ c := fun q => nd (q ▸ .head _)
    have e1 : kvs.map (·.1) ++ [key] = (kvs ++ [(key, v)]).map (·.1) := by simp
    rw [e1]
    have dd : DenL b Fz₁ ((kvs ++ [(key, v)]).map (·.2)) (vs ++ [t]) := by rw [List.map_append]; exact dk.append (.one dt)
    refine BPost.write (s₁ := { s₁ with toks := s₁.toks + 1 + 1 }) (f' := a :: d :: [c]) S₁.toks n₁ R₁ hu memC hs (.mvec ((hs.2 a nac).trans ha) ((hs.2 d ndc).trans hd) di (.dict ho' hi' hsys dd) ne na nd) fun z m => ?_
    rw [← hfp] at m
    exact .inl m
  · have := q3.1
    rw [List.length_map] at this
    rw [sizeLine_eq]; omega

theorem load_ok {lv : LV} (ok : EnvOk b env ns) (R : Rel b Fz env ns σ bd fp s.heap) (g : getV ns σ x = some lv) :
    ∃ u, bd x = some u ∧ Own b Fz s.heap u lv (fp x) ∧ ∀ (Q E : Value → Shared → Prop), Q u s → wpAny (model b.prog b.w) A (loadName env x) Q E s := by
  obtain ⟨hv, g⟩ := if_some g
  obtain ⟨hk, hd⟩ := isVar_or hv
  obtain ⟨u, hu, O⟩ := R.var x lv g
  refine ⟨u, hu, O, fun Q E q => ?_⟩
  rcases hk with hk | hk
  · obtain ⟨m, hm, e⟩ := R.frame.loc
    exact wpAny_loadName_local ok.kind (by unfold Env.kindOf; rw [ok.names]; exact hk) hm ((e x hk).trans hu) q
  · obtain ⟨c, hl, hc⟩ := R.frame.cell x hk
    exact wpAny_loadName_cell ok.kind (by unfold Env.kindOf; rw [ok.names]; exact hk) hl (hu ▸ hc) q

theorem getV_var {lv : LV} (g : getV ns σ x = some lv) : isVar ns x = true := by
  exact (if_some g).1

theorem st_Aug {i j : Int} {px pos : Pos} (S : Sound b n I) (rm : Room A n) (ok : EnvOk b env ns) (R : Rel b Fz env ns σ bd fp s.heap) (hx : x ≠ fx) (q1 : getV ns σ x = some (.tree (.int i))) (q2 : evE I ns e σ = some (.int j, σ₁)) :
    wpAny (model b.prog b.w) A (exec (.AugAssign (.Name x px) .Add e pos) env) (BPost b env ns bd s Fz fp fx .next (put σ₁ x (.tree (.int (i + j))))) NoE s := by
  obtain ⟨u, hu, O, kl⟩ := load_ok (A := A) ok R q1
  obtain ⟨d, _⟩ := O.den
  cases d
  refine wpAny_AugAssign_Name (kl _ _ ?_)
  refine wpAny_mono (evE_ok S.E rm ok q2 R).2 (fun v s₁ h₁ => ?_) fun _ _ x => x
  have h2 := h₁
  obtain ⟨Fz₁, fp₁, S₁, n₁, R₁, d₁⟩ := h₁
  cases d₁
  refine wpAny_iadd_int ?_
  refine store_E ok (getV_var q1) hx R (r := .tree (.int (i + j))) (σ' := σ₁) (Fz := Fz) ⟨Fz₁, fp₁, [], S₁.toks, n₁, R₁, .tree (.int _ _), fun _ m => nomatch m⟩ fun _ q => q

theorem CS.nwI {s0 : Shared} {Fz0 : FzM} {fp0 : Str → List Addr} {X : Addr → Option Obj} (C : CS b (PP env ns fp0) s0 Fz0 env ns X σ bd Fz fp s) : ∀ a, inFp fp a → inFp fp0 a ∨ s0.heap.get? a = none := fun a m => by
  rcases C.nw a m with (z | z) | z
  · exact .inl z
  · obtain ⟨y, m⟩ := m
    exact absurd z (C.rel.fpFree y a m).2
  · exact .inr z

def ForJ (b : Base) (env : Env) (ns : Names) (fp : Str → List Addr) (s : Shared) (Fz : FzM) (f : St → Option (Flw × St)) (x fx : Str) (fl : Flw) (σ' : St) (bd : Str → Option Value) (it : Addr) (k : Nat) (s' : Shared) : Prop :=
  ∃ items σc bdc Fzc fpc Xc oi, items.length = k ∧ forL f x items σc = some (fl, σ') ∧ CS b (PP env ns fp) s Fz env ns Xc σc bdc Fzc fpc s' ∧ bdc fx = bd fx ∧ Xc it = some oi ∧ IterObj b Fzc oi items

theorem st_For {body : List Stmt} {it : Expr} {items : List AV} {px pos : Pos} (S : Sound b n I) (rm : Room A n) (ok : EnvOk b env ns) (R : Rel b Fz env ns σ bd fp s.heap) (hv : isVar ns x = true) (hx : x ≠ fx) (q1 : evE I ns it σ = some (t, σ₁)) (q2 : iterOf t = some items)
    (q3 : forL (I.B ns fx body) x items σ₁ = some (fl, σ')) :
    wpAny (model b.prog b.w) A (exec (.For (.Name x px) it body [] pos) env) (BPost b env ns bd s Fz fp fx fl σ') NoE s := by
  obtain ⟨hp, w1⟩ := evE_ok S.E rm ok q1 R
  refine wpAny_For (wpAny_mono w1 (fun v s₁ h₁ => ?_) fun _ _ x => x) (plain_set hp)
  obtain ⟨Fz₁, fp₁, S₁, n₁, R₁, dt⟩ := h₁
  refine iter_of R₁.fz dt q2 fun oi nf hio => ?_
  have C0 : CS b (PP env ns fp) s Fz env ns (fun _ => none) σ₁ bd Fz₁ fp₁ s₁ := ⟨S₁.weak fun a m => .inl m, fun a m => (n₁ a m).imp .inl id, R₁, fun _ _ e => nomatch e⟩
  have C1 := C0.push nf
  refine codeAny_forLoop (ForJ b env ns fp s Fz (I.B ns fx body) x fx fl σ' bd s₁.heap.objs.size) ?_ items.length ⟨items, σ₁, bd, Fz₁, fp₁, _, oi, rfl, q3, C1, rfl, upd_at, hio⟩ fun v => rfl
  rintro k s₂ ⟨items, σc, bdc, Fzc, fpc, Xc, oi, rfl, q3, C, hb, hit, hio⟩
  have Oit := (C.ex _ oi hit).2
  cases items with
  | nil =>
    cases q3
    refine next_none rm.handled C.rel.fz Oit.at' hio fun h' hx => ?_
    have C' := C.touchO (h' := h') (tk := s₂.toks) (o' := none) hit (fun c o nc e => hx c o nc e) (fun z e => nomatch e)
    exact wpAny_execs_nil ⟨_, _, _, C'.stp, C'.nwI, C'.rel, hb, rfl⟩
  | cons w rest =>
    obtain ⟨f1, σ2, q4, q3⟩ := o2_some q3
    refine next_some C.rel.fz Oit.at' hio fun u h' tk oi' du ho' hio' hsb => ?_
    have C1 := C.touchO (h' := h') (tk := tk) (o' := some oi') hit (fun c o nc e => (hsb.2 c nc).trans e) (fun z e => by cases e; exact ho')
    refine wpAny_assign_Name (CS.storeTree ok C1 hv (fun a sl => .inl (.inr sl.at)) du fun s₃ C2 => ?_)
    refine NoE.any (wpAny_mono (S.B A env ns fx body _ f1 σ2 _ _ _ s₃ rm ok q4 C2.rel) (fun f s₄ h₄ => ?_) fun _ _ x => x)
    obtain ⟨Fz4, fp4, bd4, S4, n4, R4, hb4, F⟩ := h₄
    have C4 := C2.eval S4 (fun a m => m) (fun a m => by
      rcases m with m | m
      · exact C2.nw a m
      · exact .inl (.inr m)) n4 R4
    have hb4' : bd4 fx = bd fx := by
      rw [hb4]
      simp only [Ne.symm hx, if_false]
      exact hb
    cases f1 with
    | next =>
      cases F
      exact ⟨rest.length, Nat.lt_succ_self _, rest, σ2, bd4, Fz4, fp4, _, oi', rfl, q3, C4, hb4', upd_at, hio'.mono S4.le⟩
    | brk =>
      cases F
      cases q3
      exact ⟨_, _, _, C4.stp, C4.nwI, C4.rel, hb4', rfl⟩
    | ret lv =>
      obtain ⟨v, fv, rfl, O, hfv⟩ := F
      cases q3
      refine ⟨_, _, _, C4.stp, C4.nwI, C4.rel, hb4', v, fv, rfl, O, fun a m => ⟨(hfv a m).1, (hfv a m).2.1, (hfv a m).2.2.1, ?_⟩⟩
      have ns' := (hfv a m).2.1
      rcases (hfv a m).2.2.2 with z | z
      · rcases C2.fresh z with (y | y) | y
        · exact .inr y
        · exact absurd y ns'
        · exact .inl y
      · exact (C2.nwI a z).symm
    | retv y lv =>
      obtain ⟨v, rfl, e1, e2⟩ := F
      cases q3
      exact ⟨_, _, _, C4.stp, C4.nwI, C4.rel, hb4', v, rfl, e1, e2⟩
end
end Mini

namespace Mini
open PySem PySem.W PySem.Calls PyProof.Rows PyProof.V PySem.Spec

variable {b : Base} {K : Frag}

section
variable {env : Env} {ns : Names} {bd bd' : Str → Option Value} {s s₁ s₂ s' : Shared} {Fz Fz₁ Fz' : FzM} {fp fp₁ fp' : Str → List Addr} {r o lv : LV} {t : AV} {σ σ' σ₁ : St} {v u u0 : Value} {A : Around} {n : Nat} {I : Interp} {e : Expr} {x f fx : Str} {h h' : Heap}
  {a d : Addr} {fv fw : List Addr} {fl : Flw} {fo : Flow}

theorem SPost.weakB (S : Stp (inFp fp) s Fz s₁ Fz₁) : Stp (PP env ns fp) s Fz s₁ Fz₁ := S.weak fun _ m => .inl m

theorem st_If {c : Expr} {p q : List Stmt} {pos : Pos} (S : Sound b n I) (rm : Room A n) (ok : EnvOk b env ns) (R : Rel b Fz env ns σ bd fp s.heap)
    (h : ifS I ns fx c p q σ = some (fl, σ')) : wpAny (model b.prog b.w) A (exec (.If c p q pos) env) (BPost b env ns bd s Fz fp fx fl σ') NoE s := by
  obtain ⟨k, σ1, q1, h⟩ := o2_some h
  refine wpAny_If (wpAny_mono (S.T A env ns c σ _ _ bd fp Fz s rm ok q1 R) (fun k s₁ h₁ => ?_) fun _ _ x => x)
  obtain ⟨rfl, Fz₁, fp₁, S₁, n₁, R₁⟩ := h₁
  cases k with
  | true => exact wpAny_mono (S.B A env ns fx p _ fl σ' bd fp₁ Fz₁ s₁ rm ok h R₁) (fun f s₂ h₂ => BPost.after R (SPost.weakB S₁) n₁ R₁ rfl h₂) fun _ _ x => x
  | false => exact wpAny_mono (S.B A env ns fx q _ fl σ' bd fp₁ Fz₁ s₁ rm ok h R₁) (fun f s₂ h₂ => BPost.after R (SPost.weakB S₁) n₁ R₁ rfl h₂) fun _ _ x => x

theorem st_Expr {pos : Pos} (S : Sound b n I) (rm : Room A n) (ok : EnvOk b env ns) (R : Rel b Fz env ns σ bd fp s.heap) (hp : plainE e = true) (hc : isComp e = false) (q1 : I.E ns e σ = some (r, σ')) :
    wpAny (model b.prog b.w) A (exec (.Expr e pos) env) (BPost b env ns bd s Fz fp fx .next σ') NoE s := by
  refine wpAny_Expr_any (wpAny_mono (S.E A env ns e σ r σ' bd fp Fz s rm ok q1 R) (fun v s₁ h₁ => BPost.ofS h₁.toS) fun _ _ x => x) (not_inter ok) (swaps_not hp hc)

theorem st_Return {pos : Pos} (S : Sound b n I) (rm : Room A n) (ok : EnvOk b env ns) (R : Rel b Fz env ns σ bd fp s.heap) (h : ret1 I ns e σ = some (fl, σ')) :
    wpAny (model b.prog b.w) A (exec (.Return (some e) pos) env) (BPost b env ns bd s Fz fp fx fl σ') NoE s := by
  unfold ret1 at h
  cases q1 : ownNamed ns σ e with
  | some p =>
    rw [q1] at h
    cases h
    obtain ⟨⟨p, rfl⟩, g, _⟩ := ownNamed_some q1
    obtain ⟨u, hu, O, hl, k⟩ := name_ok (A := A) ok R g
    exact wpAny_Return_some (k p _ _ ⟨Fz, fp, bd, .refl _ _ _, fun a m => .inl m, R, rfl, u, rfl, hu, hl⟩)
  | none =>
    rw [q1] at h
    obtain ⟨v, σ1, q2, h⟩ := o2_some h
    cases h
    refine wpAny_Return_some (wpAny_mono (S.E A env ns e σ v _ bd fp Fz s rm ok q2 R) (fun u s₁ h₁ => ?_) fun _ _ x => x)
    obtain ⟨Fz₁, fp₁, fv, S₁, n₁, R₁, O, hf⟩ := h₁
    exact ⟨Fz₁, fp₁, bd, SPost.weakB S₁, n₁, R₁, rfl, u, fv, rfl, O, hf⟩

theorem dotOf_some {a : Str} (h : dotOf e = some (x, a)) : ∃ px p, e = .Attribute (.Name x px) a p := by
  cases e <;> first | cases h | skip
  obtain ⟨y, q, h⟩ := o1_some h
  cases h
  obtain ⟨px, rfl⟩ := nameOf_some q
  exact ⟨_, _, rfl⟩

theorem st_tgt {tg : Expr} {pos : Pos} (B : BaseOk b K) (S : Sound b n I) (rm : Room A n) (ok : EnvOk b env ns) (R : Rel b Fz env ns σ bd fp s.heap) (h : tgtS I ns fx tg e σ = some (fl, σ')) :
    wpAny (model b.prog b.w) A (exec (.Assign [tg] e pos) env) (BPost b env ns bd s Fz fp fx fl σ') NoE s := by
  cases tg with
  | Name x px =>
    obtain ⟨hc, h⟩ := if_some h
    obtain ⟨v, σ1, q1, h⟩ := o2_some h
    cases h
    exact st_Assign S rm ok R hc.1 hc.2.1 hc.2.2 q1
  | Attribute o a _ =>
    obtain ⟨x, q, h⟩ := o1_some h
    obtain ⟨_, rfl⟩ := nameOf_some q
    obtain ⟨hc, h⟩ := if_some h
    obtain ⟨v, σ1, q1, h⟩ := o2_some h
    exact st_Attr B S rm ok R hc.1 hc.2 q1 h
  | Subscript o i _ =>
    obtain ⟨x, a, q, h⟩ := o2_some (show o2 (dotOf o) (fun x a => o1 (strOf i) fun key => keyS I ns x a key e σ) = some (fl, σ') from h)
    obtain ⟨key, q0, h⟩ := o1_some h
    obtain ⟨hc, h⟩ := if_some h
    obtain ⟨v, σ1, q1, h⟩ := o2_some h
    obtain ⟨lv, q2, h⟩ := o1_some h
    obtain ⟨p, q3, h⟩ := o1_some h
    obtain ⟨ks, vs, q4, h⟩ := o2_some h
    obtain ⟨q5, h⟩ := if_some h
    cases h
    obtain ⟨_, _, rfl⟩ := dotOf_some q
    obtain ⟨_, _, rfl⟩ := strOf_some q0
    obtain ⟨rfl, hc⟩ := hc
    cases vecOf_some q3
    rw [asDict_some q4] at q2
    exact st_Sub B S rm ok R hc q1 q2 q5
  | _ => cases h

theorem step_S (B : BaseOk b K) (S : Sound b n I) {A : Around} {env : Env} {ns : Names} {fx : Str} (st : Stmt) {σ : St} {fl : Flw} {σ' : St} {bd : Str → Option Value} {fp : Str → List Addr} {Fz : FzM} {s : Shared} (rm : Room A n) (ok : EnvOk b env ns)
    (h : stepS I ns fx st σ = some (fl, σ')) (R : Rel b Fz env ns σ bd fp s.heap) : wpAny (model b.prog b.w) A (exec st env) (BPost b env ns bd s Fz fp fx fl σ') NoE s := by
  cases st with
  | Assign ts e _ =>
    rcases ts with _ | ⟨tg, _ | ⟨_, _⟩⟩ <;> first | cases h | skip
    exact st_tgt B S rm ok R h
  | AugAssign tg op e _ =>
    obtain ⟨x, q, h⟩ := o1_some h
    obtain ⟨_, rfl⟩ := nameOf_some q
    cases op <;> first | cases h | skip
    obtain ⟨hc, h⟩ := if_some (show aug1 I ns fx x e σ = _ from h)
    obtain ⟨u, q1, h⟩ := o1_some h
    obtain ⟨i, q2, h⟩ := o1_some h
    obtain ⟨v, σ1, q3, h⟩ := o2_some h
    obtain ⟨j, q4, h⟩ := o1_some h
    cases h
    cases asInt_some q4
    cases u <;> first | cases q2 | skip
    cases asInt_some q2
    exact st_Aug S rm ok R hc q1 q3
  | Expr e _ =>
    obtain ⟨hc, h⟩ := if_some h
    obtain ⟨v, σ1, q1, h⟩ := o2_some h
    cases h
    exact st_Expr S rm ok R hc.1 hc.2 q1
  | If _ _ _ _ => exact st_If S rm ok R h
  | For tg it body els _ =>
    obtain ⟨x, q, h⟩ := o1_some h
    obtain ⟨_, rfl⟩ := nameOf_some q
    cases els <;> first | cases h | skip
    obtain ⟨hc, h⟩ := if_some h
    obtain ⟨t, σ1, q1, h⟩ := o2_some h
    obtain ⟨its, q2, h⟩ := o1_some h
    exact st_For S rm ok R hc.1 hc.2 q1 q2 h
  | Return eo _ =>
    cases eo with
    | none =>
      cases h
      exact wpAny_Return_none ⟨Fz, fp, bd, .refl _ _ _, fun a m => .inl m, R, rfl, .none, [], rfl, .tree .none, fun _ m => nomatch m⟩
    | some e => exact st_Return S rm ok R h
  | Break _ =>
    cases h
    exact wpAny_Break ⟨Fz, fp, bd, .refl _ _ _, fun a m => .inl m, R, rfl, rfl⟩
  | _ => cases h

theorem step_B (B : BaseOk b K) (S : Sound b n I) : BOk b (n + 1) (stepB I) := by
  intro A env ns fx ss σ fl σ' bd fp Fz s rm1 ok h R
  have rm : Room A n := rm1.less (Nat.le_succ n)
  induction ss generalizing σ bd fp Fz s with
  | nil =>
    cases h
    exact wpAny_execs_nil ⟨Fz, fp, bd, .refl _ _ _, fun a m => .inl m, R, rfl, rfl⟩
  | cons st rest ih =>
    obtain ⟨f1, σ1, q1, h⟩ := o2_some h
    refine wpAny_execs_cons (wpAny_mono (step_S B S st rm ok q1 R) (fun f s₁ h₁ => ?_) fun _ _ x => x)
    cases f1 with
    | next =>
      obtain ⟨Fz₁, fp₁, bd₁, S₁, n₁, R₁, hb, F⟩ := h₁
      cases F
      exact wpAny_mono (ih _ _ _ _ _ h R₁) (fun f s₂ h₂ => BPost.after R S₁ n₁ R₁ hb h₂) fun _ _ x => x
    | brk =>
      cases h
      have F := h₁
      obtain ⟨_, _, _, _, _, _, _, F⟩ := F
      cases F
      exact h₁
    | ret lv =>
      cases h
      have F := h₁
      obtain ⟨_, _, _, _, _, _, _, v, fv, rfl, _⟩ := F
      exact h₁
    | retv y lv =>
      cases h
      have F := h₁
      obtain ⟨_, _, _, _, _, _, _, v, rfl, _⟩ := F
      exact h₁
end
end Mini

namespace Mini
open PySem PySem.W PySem.Calls PyProof.Rows PyProof.V PySem.Spec

variable {b : Base} {K : Frag}

theorem cells_lookup : ∀ (names : List (Str × NameKind)) (n : Nat) {x : Str}, (x, NameKind.cell) ∈ names → ∃ c, (cellsFrom n names []).lookup x = some c
  | [], n, x, h => nomatch h
  | (y, k) :: r, n, x, h => by
    unfold cellsFrom
    by_cases hk : k == .cell
    · rw [if_pos hk, cellsFrom_app]
      rw [List.lookup_append]
      rcases List.mem_cons.mp h with e | h
      · cases e
        cases q : (cellsFrom (n + 1) r []).lookup y with
        | some c => exact ⟨c, by simp⟩
        | none => exact ⟨n, by simp [List.lookup_cons]⟩
      · obtain ⟨c, hc⟩ := cells_lookup r (n + 1) h
        rw [hc]; exact ⟨c, rfl⟩
    · rw [if_neg hk]
      rcases List.mem_cons.mp h with e | h
      · cases e; exact absurd rfl hk
      · exact cells_lookup r n h

theorem bindL_off (kd : Str → Option NameKind) : ∀ (bs : List (Str × Value)) (m : Str → Option Value) (p : Str), p ∉ bs.map (·.1) → bindL kd bs m p = m p
  | [], m, p, _ => rfl
  | (n, v) :: r, m, p, h => by
    unfold bindL
    rw [List.map_cons, List.mem_cons, not_or] at h
    rw [bindL_off kd r _ p h.2]
    split
    · exact if_neg h.1
    · rfl
theorem bindL_at (kd : Str → Option NameKind) : ∀ (bs : List (Str × Value)) (m : Str → Option Value) (p : Str) (v : Value), (bs.map (·.1)).Nodup → bs.lookup p = some v → kd p = some .local → bindL kd bs m p = some v
  | [], m, p, v, _, h, _ => nomatch h
  | (n, u) :: r, m, p, v, nd, h, hk => by
    unfold bindL
    rw [List.map_cons, List.nodup_cons] at nd
    rw [List.lookup_cons] at h
    cases q : p == n with
    | true =>
      rw [q] at h; cases h
      have e := beq_iff_eq.mp q
      subst e
      rw [bindL_off kd r _ p nd.1, if_pos hk, if_pos rfl]
    | false =>
      rw [q] at h
      exact bindL_at kd r _ p v nd.2 h hk
theorem bindC_off (kd : Str → Option NameKind) : ∀ (bs : List (Str × Value)) (m : Str → Option Value) (p : Str), p ∉ bs.map (·.1) → bindC kd bs m p = m p
  | [], m, p, _ => rfl
  | (n, v) :: r, m, p, h => by
    unfold bindC
    rw [List.map_cons, List.mem_cons, not_or] at h
    rw [bindC_off kd r _ p h.2]
    split
    · rfl
    · exact if_neg h.1
theorem bindC_at (kd : Str → Option NameKind) : ∀ (bs : List (Str × Value)) (m : Str → Option Value) (p : Str) (v : Value), (bs.map (·.1)).Nodup → bs.lookup p = some v → kd p ≠ some .local → bindC kd bs m p = some v
  | [], m, p, v, _, h, _ => nomatch h
  | (n, u) :: r, m, p, v, nd, h, hk => by
    unfold bindC
    rw [List.map_cons, List.nodup_cons] at nd
    rw [List.lookup_cons] at h
    cases q : p == n with
    | true =>
      rw [q] at h; cases h
      have e := beq_iff_eq.mp q
      subst e
      rw [bindC_off kd r _ p nd.1, if_neg hk, if_pos rfl]
    | false =>
      rw [q] at h
      exact bindC_at kd r _ p v nd.2 h hk

structure FnAt (b : Base) (f : Str) (d : FDef) : Prop where
  ex : ∃ a o pm code doc ps, b.mg f = some (.ref a) ∧ b.base.get? a = some o ∧ o.data = .func (docDef f ps d.body d.scope pm code doc) ∧ b.base.CodeRec code f ∧
    ∀ vs : List Value, vs.length = d.params.length → bindArgs (docDef f ps d.body d.scope pm code doc) ⟨vs, []⟩ = pure (d.params.zip vs)
  kind : d.scope.kind = .function
  gen : d.scope.isGenerator = false
  co : d.scope.isCoroutine = false
  par : ∀ p ∈ d.params, isVar d.scope.names p = true
  nodup : d.params.Nodup

theorem zip_names {α : Type} : ∀ {ps : List Str} {vs : List α}, vs.length = ps.length → (ps.zip vs).map (·.1) = ps
  | [], _, _ => rfl
  | p :: ps, v :: vs, h => by
    simp only [List.zip_cons_cons, List.map_cons]
    rw [zip_names (by simpa using h)]
theorem zip_look {α β : Type} : ∀ {ps : List Str} {vs : List α} {us : List β} {p : Str} {v : α}, us.length = vs.length → (ps.zip vs).lookup p = some v → ∃ u : β, (ps.zip us).lookup p = some u ∧ ∃ i : Nat, vs[i]? = some v ∧ us[i]? = some u ∧ ps[i]? = some p
  | [], _, _, _, _, _, h => nomatch h
  | q :: ps, [], _, _, _, _, h => nomatch h
  | q :: ps, w :: vs, [], _, _, l, h => by simp at l
  | q :: ps, w :: vs, x :: us, p, v, l, h => by
    rw [List.zip_cons_cons, List.lookup_cons] at h
    rw [List.zip_cons_cons, List.lookup_cons]
    cases e : p == q with
    | true =>
      rw [e] at h
      cases h
      exact ⟨x, rfl, 0, rfl, rfl, by rw [beq_iff_eq.mp e]; rfl⟩
    | false =>
      rw [e] at h
      obtain ⟨u, h1, i, h2, h3, h4⟩ := zip_look (by simpa using l) h
      exact ⟨u, h1, i + 1, by simpa using h2, by simpa using h3, by simpa using h4⟩

section
variable {s s' s₁ : Shared} {Fz Fz₁ Fz' : FzM} {A : Around} {n : Nat} {I : Interp} {f : Str} {d : FDef} {fl : Flw} {o : LV}

theorem enter_ok {fp0 : List Addr} {m cm : Str → Option Value} {env : Env} {p0 : Str} {args : List LV} {us : List Value} (kd : ∀ y, env.kindOf y = d.scope.names.lookup y)
    (hcells : ∀ x, d.scope.names.lookup x = some .cell → ∃ c, env.cells.lookup x = some c) (hm : m = bindL env.kindOf (d.params.zip us) fun _ => none) (hcm : cm = bindC env.kindOf (d.params.zip us) fun _ => none)
    (x : InCallC s env.locals m env.cells cm s₁) (hz : ∀ a o, Fz a = some o → s.heap.get? a = some o) (hb : ∀ a o, b.base.get? a = some o → Fz a = some o)
    (hl : args.length = d.params.length) (hu : us.length = args.length) (par : ∀ p ∈ d.params, isVar d.scope.names p = true) (nodup : d.params.Nodup)
    (hown : ∀ (i : Nat) v u, args[i]? = some v → us[i]? = some u → Own b Fz s.heap u v (if i = 0 then fp0 else [])) (hp0 : fp0 ≠ [] → d.params.head? = some p0)
    (h0 : ∀ a ∈ fp0, Fz a = none ∧ ∃ o, s.heap.get? a = some o) (hp1 : ∀ p, d.params.head? = some p → p = p0) :
    Rel b Fz env d.scope.names (d.params.zip args) (fun y => match d.scope.names.lookup y with | some .local => m y | _ => cm y) (fun y => if y = p0 then fp0 else []) s₁.heap ∧ (∀ a, slotAt env d.scope.names a → s.heap.get? a = none) ∧
      (∀ y u, (d.params.zip us).lookup y = some u → y ∈ d.params → (match d.scope.names.lookup y with | some .local => m y | _ => cm y) = some u) ∧ (d.params = [] → ∀ y, (match d.scope.names.lookup y with | some .local => m y | _ => cm y) = none) := by
  have keep := x.toInCall.keep
  have slotNew : ∀ a, slotAt env d.scope.names a → s.heap.get? a = none := by
    rintro a (rfl | ⟨y, hy, hc⟩)
    · exact Heap.get?_none_of_le x.toInCall.fresh
    · exact Heap.get?_none_of_le (Nat.le_trans x.toInCall.fresh (Nat.le_of_lt (x.above y a (mem_of_lookup hc))))
  have slotFree : ∀ a, slotAt env d.scope.names a → Fz a = none := fun a hs => by
    cases q : Fz a with
    | none => rfl
    | some o => have := hz a o q; rw [slotNew a hs] at this; cases this
  have names : (d.params.zip us).map (·.1) = d.params := zip_names (hu.trans hl)
  have bdAt : ∀ y u, (d.params.zip us).lookup y = some u → y ∈ d.params → (match d.scope.names.lookup y with | some .local => m y | _ => cm y) = some u := fun y u h1 hp => by
    obtain ⟨hk, _⟩ := isVar_or (par y hp)
    rcases hk with hk | hk
    · simp only [hk]
      rw [hm]
      exact bindL_at _ _ _ y u (by rw [names]; exact nodup) h1 ((kd y).trans hk)
    · simp only [hk]
      rw [hcm]
      exact bindC_at _ _ _ y u (by rw [names]; exact nodup) h1 (by rw [kd y, hk]; decide)
  have bdNone : d.params = [] → ∀ y, (match d.scope.names.lookup y with | some .local => m y | _ => cm y) = none := fun e y => by
    rw [hm, hcm, e]
    split <;> rfl
  refine ⟨⟨fun a o e => keep a o (hz a o e), hb, ⟨⟨m, x.toInCall.ns, fun y hy => by simp only [hy]⟩, fun y hy => ?_⟩, slotFree, fun y v e => ?_, fun y e => ?_, fun y a ma => ?_, fun y z a ne m1 m2 => ?_⟩, slotNew, bdAt, bdNone⟩
  · obtain ⟨c, hc⟩ := hcells y hy
    refine ⟨c, hc, ?_⟩
    simp only [hy]
    exact x.cell y c hc
  · obtain ⟨u, h1, i, h2, h3, h4⟩ := zip_look (us := us) hu e
    have O := hown i v u h2 h3
    have hp : y ∈ d.params := List.mem_of_getElem? h4
    refine ⟨u, bdAt y u h1 hp, ?_⟩
    have ef : (if i = 0 then fp0 else []) = (if y = p0 then fp0 else []) := by
      by_cases hi : i = 0
      · subst hi
        have : d.params.head? = some y := by rw [List.head?_eq_getElem?]; exact h4
        rw [if_pos rfl, if_pos (hp1 y this)]
      · rw [if_neg hi]
        by_cases hy : y = p0
        · rw [if_pos hy]
          by_cases hf : fp0 = []
          · exact hf.symm
          · have h5 := hp0 hf
            rw [List.head?_eq_getElem?, ← hy] at h5
            have : i = 0 := by
              have l1 : i < d.params.length := (List.getElem?_eq_some_iff.mp h4).1
              have l2 : 0 < d.params.length := by omega
              have g1 : d.params[i] = y := (List.getElem?_eq_some_iff.mp h4).2
              have g2 : d.params[0] = y := (List.getElem?_eq_some_iff.mp h5).2
              exact (List.getElem_inj (h₀ := l1) (h₁ := l2) nodup).mp (g1.trans g2.symm)
            exact absurd this hi
        · rw [if_neg hy]
    rw [← ef]
    exact O.keep (.refl _) fun a o _ e => keep a o e
  · by_cases hy : y = p0
    · by_cases hf : fp0 = []
      · simp [hf]
      · exfalso
        have h5 := hp0 hf
        rw [← hy, List.head?_eq_getElem?] at h5
        have : y ∈ (d.params.zip args).map (·.1) := by
          rw [zip_names hl]; exact List.mem_of_getElem? h5
        obtain ⟨⟨y', v⟩, hv, rfl⟩ := List.mem_map.mp this
        have := mem_lookup hv
        rw [e] at this; cases this
    · simp [hy]
  · by_cases hy : y = p0
    · simp only [hy, if_true] at ma
      refine ⟨(h0 a ma).1, fun hs => ?_⟩
      obtain ⟨o', ho'⟩ := (h0 a ma).2
      rw [slotNew a hs] at ho'; cases ho'
    · simp only [hy, if_false] at ma; cases ma
  · by_cases hy : y = p0
    · have hz' : z ≠ p0 := fun q => ne (hy.trans q.symm)
      simp only [hz', if_false] at m2; cases m2
    · simp only [hy, if_false] at m1; cases m1
end
end Mini

namespace Mini
open PySem PySem.W PySem.Calls PyProof.Rows PyProof.V PySem.Spec

variable {b : Base} {K : Frag}

section
variable {s s' s₁ : Shared} {Fz Fz₁ Fz' : FzM} {A : Around} {n : Nat} {I : Interp} {f : Str} {d : FDef} {fl fl0 : Flw} {o : LV} {σ' : St}

def outV : Flow → Value
  | .ret v => v
  | _ => .none

theorem Room.deeper {env : Env} (rm : Room A (n + 1)) : Room (A.deeper env) n := ⟨rm.handled, by have := rm.depth; show A.depth + 1 + n < 900; omega, by have := rm.units; show A.units + 3 + 16 * n < 9000; omega⟩

theorem call_raw {a : Addr} {oo : Obj} {pm code doc : Value} {ps : Arguments} {fp0 : List Addr} {p0 : Str} {args : List LV} {us : List Value} (F : FnAt b f d) (lim : b.base.NoLimit) (hB : BOk b n I.B)
    (ha : b.base.get? a = some oo) (hdat : oo.data = .func (docDef f ps d.body d.scope pm code doc)) (hcd : b.base.CodeRec code f) (hbind : ∀ vs : List Value, vs.length = d.params.length → bindArgs (docDef f ps d.body d.scope pm code doc) ⟨vs, []⟩ = pure (d.params.zip vs))
    (rm : Room A (n + 1)) (hz : ∀ a o, Fz a = some o → s.heap.get? a = some o) (hb : ∀ a o, b.base.get? a = some o → Fz a = some o)
    (hl : args.length = d.params.length) (hu : us.length = args.length)
    (hown : ∀ (i : Nat) v u, args[i]? = some v → us[i]? = some u → Own b Fz s.heap u v (if i = 0 then fp0 else [])) (hp0 : fp0 ≠ [] → d.params.head? = some p0)
    (h0 : ∀ a ∈ fp0, Fz a = none ∧ ∃ o, s.heap.get? a = some o) (hp1 : ∀ p, d.params.head? = some p → p = p0) (ev : I.B d.scope.names p0 d.body (d.params.zip args) = some (fl0, σ')) :
    wpAny (model b.prog b.w) A (call (.ref a) us) (fun v s' => ∃ env s₁ bd fo, (∃ h tk, s₁ = { s with heap := h, toks := tk }) ∧ (∀ a o, s.heap.get? a = some o → s₁.heap.get? a = some o) ∧ (∀ a, slotAt env d.scope.names a → s.heap.get? a = none) ∧
      (∀ y u, (d.params.zip us).lookup y = some u → y ∈ d.params → bd y = some u) ∧ (d.params = [] → ∀ y, bd y = none) ∧
      BPost b env d.scope.names bd s₁ Fz (fun y => if y = p0 then fp0 else []) p0 fl0 σ' fo s' ∧ v = outV fo) NoE s := by
  have toS : ∀ c o, b.base.get? c = some o → s.heap.get? c = some o := fun c o e => hz c o (hb c o e)
  refine wpAny_call ?_
  refine codeAny_call_cells (fd := docDef f ps d.body d.scope pm code doc) (by have := rm.depth; unfold recursionLimit; omega) (toS _ _ ha) hdat (lim.keeps toS) (hcd.keeps toS) rfl (hbind us (hu.trans hl)) rfl (fun x hx => ?_) (fun s₁ x => ?_) F.co F.gen F.kind
  · have hx' : x.1 ∈ d.params := by
      have : x.1 ∈ (d.params.zip us).map (·.1) := List.mem_map.mpr ⟨x, hx, rfl⟩
      rw [zip_names (hu.trans hl)] at this
      exact this
    obtain ⟨hk, _⟩ := isVar_or (F.par x.1 hx')
    rcases hk with hk | hk
    · exact .inl hk
    · obtain ⟨c, hc⟩ := cells_lookup d.scope.names (s.heap.objs.size + 1) (mem_of_lookup hk)
      exact .inr ⟨hk, by rw [show (docDef f ps d.body d.scope pm code doc).scope.names = d.scope.names from rfl, hc]; rfl⟩
  · have ok : EnvOk b (callEnvC (docDef f ps d.body d.scope pm code doc) s.heap.objs.size a) d.scope.names := ⟨F.kind, rfl, rfl, rfl, fun y z c hy hz1 h1 h2 => name_of_addr x.apart (mem_of_lookup h1) (mem_of_lookup h2), fun y c hy hc => Nat.ne_of_gt (x.above y c (mem_of_lookup hc))⟩
    obtain ⟨R, sn, bdAt, bdN⟩ := enter_ok (d := d) (args := args) (us := us) (fp0 := fp0) (p0 := p0) (b := b) (Fz := Fz) (fun y => rfl) (fun y hy => cells_lookup d.scope.names _ (mem_of_lookup hy)) rfl rfl x hz hb hl hu F.par F.nodup hown hp0 h0 hp1
    refine NoE.any (wpAny_mono (hB (A.deeper _) _ d.scope.names p0 d.body _ fl0 σ' _ _ Fz s₁ rm.deeper ok ev R) (fun fo s' h' => ?_) fun _ _ x => x)
    exact ⟨_, s₁, _, fo, x.toInCall.same, x.toInCall.keep, sn, bdAt, bdN, h', rfl⟩

theorem call_post {env : Env} {bd : Str → Option Value} {fo : Flow} {fp0 : List Addr} {p0 : Str} {u0 : Value} (hs : ∃ h tk, s₁ = { s with heap := h, toks := tk }) (keep : ∀ a o, s.heap.get? a = some o → s₁.heap.get? a = some o) (sn : ∀ a, slotAt env d.scope.names a → s.heap.get? a = none)
    (h0 : ∀ a ∈ fp0, Fz a = none ∧ ∃ o, s.heap.get? a = some o) (hbd : bd p0 = some u0) (hnb : fl0 ≠ .brk) (ho : σ'.lookup p0 = some o)
    (P : BPost b env d.scope.names bd s₁ Fz (fun y => if y = p0 then fp0 else []) p0 fl0 σ' fo s') : CPost b s Fz fp0 u0 (endC p0 fl0) o (outV fo) s' := by
  obtain ⟨Fz', fp', bd', S, nw, R, hb, F⟩ := P
  have back : ∀ a, s₁.heap.get? a = none → s.heap.get? a = none := fun a e => by
    cases q : s.heap.get? a with
    | none => rfl
    | some o' => rw [keep a o' q] at e; cases e
  have inf : ∀ a, inFp (fun y => if y = p0 then fp0 else []) a → a ∈ fp0 := by
    rintro a ⟨y, m⟩
    by_cases q : y = p0
    · simp only [q, if_true] at m; exact m
    · simp only [q, if_false] at m; cases m
  obtain ⟨u, hu, O⟩ := R.var p0 o ho
  have : u = u0 := by
    have := hb.symm.trans hu
    rw [hbd] at this
    exact (Option.some.inj this).symm
  subst this
  refine ⟨Fz', fp' p0, ⟨?_, fun a o' m e => ?_, S.le, fun a o' e => ?_⟩, R.fz, O, fun a m => ⟨(R.fpFree p0 a m).1, ?_⟩, ?_⟩
  · obtain ⟨h, tk, rfl⟩ := hs
    obtain ⟨h', tk', rfl⟩ := S.same
    exact ⟨h', tk', rfl⟩
  · refine S.keep a o' (fun q => ?_) (keep a o' e)
    rcases q with q | q
    · exact m (inf a q)
    · rw [sn a q] at e; cases e
  · rcases S.new a o' e with z | z | z | z
    · exact .inl z
    · exact .inr (.inl (back a z))
    · exact .inr (.inr (inf a z))
    · exact .inr (.inl (sn a z))
  · rcases nw a ⟨p0, m⟩ with z | z
    · exact .inl (inf a z)
    · exact .inr (back a z)
  · cases fl0 with
    | brk => exact absurd rfl hnb
    | next =>
      cases F
      rfl
    | ret lv =>
      obtain ⟨v, fv, rfl, Ov, hv⟩ := F
      exact ⟨fv, Ov, fun a m => ⟨(hv a m).1, (hv a m).2.2.1 p0, (hv a m).2.2.2.imp (back a) (inf a)⟩⟩
    | retv x lv =>
      obtain ⟨v, rfl, h1, h2⟩ := F
      unfold endC
      dsimp only
      split
      · rename_i q
        subst q
        rw [hu] at h1; cases h1
        rfl
      · rename_i q
        obtain ⟨w, hw, Ow⟩ := R.var x lv h2
        rw [h1] at hw; cases hw
        refine ⟨fp' x, Ow, fun a m => ⟨(R.fpFree x a m).1, R.apart x p0 a q m, ?_⟩⟩
        rcases nw a ⟨x, m⟩ with z | z
        · exact .inr (inf a z)
        · exact .inl (back a z)

theorem call_post0 {env : Env} {bd : Str → Option Value} {fo : Flow} {p0 : Str} (hs : ∃ h tk, s₁ = { s with heap := h, toks := tk }) (keep : ∀ a o, s.heap.get? a = some o → s₁.heap.get? a = some o) (sn : ∀ a, slotAt env d.scope.names a → s.heap.get? a = none)
    (hbd : bd p0 = none) (hnb : fl0 ≠ .brk)
    (P : BPost b env d.scope.names bd s₁ Fz (fun y => if y = p0 then [] else []) p0 fl0 σ' fo s') : CPost b s Fz [] .none (endC p0 fl0) (.tree .none) (outV fo) s' := by
  obtain ⟨Fz', fp', bd', S, nw, R, hb, F⟩ := P
  have back : ∀ a, s₁.heap.get? a = none → s.heap.get? a = none := fun a e => by
    cases q : s.heap.get? a with
    | none => rfl
    | some o' => rw [keep a o' q] at e; cases e
  have inf : ∀ a, ¬ inFp (fun y : Str => if y = p0 then ([] : List Addr) else []) a := by
    rintro a ⟨y, m⟩
    simp at m
  refine ⟨Fz', [], ⟨?_, fun a o' m e => ?_, S.le, fun a o' e => ?_⟩, R.fz, .tree .none, (fun a m => nomatch m), ?_⟩
  · obtain ⟨h, tk, rfl⟩ := hs
    obtain ⟨h', tk', rfl⟩ := S.same
    exact ⟨h', tk', rfl⟩
  · refine S.keep a o' (fun q => ?_) (keep a o' e)
    rcases q with q | q
    · exact inf a q
    · rw [sn a q] at e; cases e
  · rcases S.new a o' e with z | z | z | z
    · exact .inl z
    · exact .inr (.inl (back a z))
    · exact absurd z (inf a)
    · exact .inr (.inl (sn a z))
  · cases fl0 with
    | brk => exact absurd rfl hnb
    | next =>
      cases F
      rfl
    | ret lv =>
      obtain ⟨v, fv, rfl, Ov, hv⟩ := F
      exact ⟨fv, Ov, fun a m => ⟨(hv a m).1, (fun z => nomatch z), (hv a m).2.2.2.imp (back a) fun z => absurd z (inf a)⟩⟩
    | retv x lv =>
      obtain ⟨v, rfl, h1, h2⟩ := F
      unfold endC
      dsimp only
      split
      · rename_i q
        subst q
        rw [hb, hbd] at h1; cases h1
      · rename_i q
        obtain ⟨w, hw, Ow⟩ := R.var x lv h2
        rw [h1] at hw; cases hw
        refine ⟨fp' x, Ow, fun a m => ⟨(R.fpFree x a m).1, (fun z => nomatch z), ?_⟩⟩
        rcases nw a ⟨x, m⟩ with z | z
        · exact absurd z (inf a)
        · exact .inl (back a z)

theorem step_C {tab : Str → Option FDef} (B : BaseOk b K) (hT : ∀ f d, tab f = some d → FnAt b f d) (S : Sound b n I) : COk b (n + 1) (stepC tab I) := by
  intro f args fl o h
  obtain ⟨d, hd, h⟩ := o1_some h
  have F := hT f d hd
  obtain ⟨a, oo, pm, code, doc, ps, hmg, ha, hdat, hcd, hbind⟩ := F.ex
  obtain ⟨hl, h⟩ := if_some h
  refine ⟨a, ⟨hmg, oo, _, ha, hdat⟩, fun A lv0 ts u0 us fp0 Fz s hargs rm hz hb O hf hus => ?_, fun A Fz s hargs rm hz hb => ?_⟩
  · subst hargs
    unfold runD at h
    cases hp : d.params with
    | nil => rw [hp] at hl; cases hl
    | cons p rest =>
      rw [hp] at h
      obtain ⟨fl0, σ', q, h⟩ := o2_some h
      rw [← hp] at q
      cases hk : isBrk fl0 with
      | true => rw [hk] at h; cases h
      | false =>
        rw [hk] at h
        obtain ⟨v, hv, h⟩ := o1_some h
        cases h
        refine wpAny_mono (call_raw (p0 := p) (fp0 := fp0) (args := lv0 :: ts.map .tree) (us := u0 :: us) F B.lim S.B ha hdat hcd hbind rm hz hb hl (by rw [List.length_cons, List.length_cons, List.length_map, hus.length]) (fun i v u h1 h2 => ?_) (fun _ => by rw [hp]; rfl) (fun c m => ⟨hf c m, O.live c m⟩) (fun p' e => by rw [hp] at e; cases e; rfl) q) (fun v s' h' => ?_) fun _ _ x => x
        · cases i with
          | zero => cases h1; cases h2; exact O
          | succ i =>
            rw [if_neg (Nat.succ_ne_zero i)]
            rw [List.getElem?_cons_succ, List.getElem?_map] at h1
            rw [List.getElem?_cons_succ] at h2
            obtain ⟨t, ht, rfl⟩ := Option.map_eq_some_iff.mp h1
            obtain ⟨t', ht', dt⟩ := hus.getN h2
            rw [ht] at ht'; cases ht'
            exact .tree dt
        · obtain ⟨env, s₁, bd, fo, hs, keep, sn, bdAt, _, P, rfl⟩ := h'
          refine call_post (u0 := u0) hs keep sn (fun c m => ⟨hf c m, O.live c m⟩) (bdAt p u0 ?_ ?_) (fun e => ?_) hv P
          · rw [hp, List.zip_cons_cons, List.lookup_cons, beq_self_eq_true]
          · rw [hp]; exact .head _
          · rw [e] at hk; cases hk
  · subst hargs
    unfold runD at h
    cases hp : d.params with
    | cons p rest => rw [hp] at hl; cases hl
    | nil =>
      rw [hp] at h
      obtain ⟨fl0, σ', q, h⟩ := o2_some h
      cases hk : isBrk fl0 with
      | true => rw [hk] at h; cases h
      | false =>
        rw [hk] at h
        cases h
        have q' : I.B d.scope.names "" d.body (d.params.zip ([] : List LV)) = some (fl0, σ') := by rw [hp]; exact q
        refine wpAny_mono (call_raw (p0 := "") (fp0 := []) (args := []) (us := []) F B.lim S.B ha hdat hcd hbind rm hz hb hl rfl (fun i v u h1 h2 => nomatch h1) (fun q => absurd rfl q) (fun c m => nomatch m) (fun p' e => by rw [hp] at e; cases e) q') (fun v s' h' => ?_) fun _ _ x => x
        obtain ⟨env, s₁, bd, fo, hs, keep, sn, _, bdN, P, rfl⟩ := h'
        exact call_post0 hs keep sn (bdN hp _) (fun e => by rw [e] at hk; cases hk) P

theorem sound {tab : Str → Option FDef} (B : BaseOk b K) (hT : ∀ f d, tab f = some d → FnAt b f d) : ∀ n, Sound b n (interp tab n)
  | 0 => ⟨(fun _ _ _ _ _ _ _ _ _ _ _ _ _ h _ => nomatch h), (fun _ _ _ _ _ _ _ _ _ _ _ _ _ h _ => nomatch h), (fun _ _ _ _ _ _ _ _ _ _ _ _ _ _ h _ => nomatch h), (fun _ _ _ _ h => nomatch h)⟩
  | n + 1 =>
    have S := sound B hT n
    ⟨step_E B S, step_T S, step_B B S, step_C B hT S⟩
end
end Mini

namespace Mini
open PySem PySem.W PySem.Calls PyProof.Rows PyProof.V PySem.Spec

variable {b : Base} {K : Frag}

theorem fm_congr {α β : Type} {f g : α → Option β} : ∀ {l : List α}, (∀ x ∈ l, f x = g x) → l.filterMap f = l.filterMap g
  | [], _ => rfl
  | x :: l, h => by
    rw [List.filterMap_cons, List.filterMap_cons, h x (.head _), fm_congr fun y hy => h y (.tail _ hy)]

theorem zip_filterMap {α : Type} : ∀ (ps : List Str) (vs : List α), ps.Nodup → vs.length = ps.length → (ps.filterMap fun n => ((ps.zip vs).lookup n).map (n, ·)) = ps.zip vs
  | [], _, _, _ => rfl
  | p :: ps, [], _, h => by simp at h
  | p :: ps, v :: vs, nd, h => by
    rw [List.nodup_cons] at nd
    have ih := zip_filterMap ps vs nd.2 (by simpa using h)
    rw [List.zip_cons_cons, List.filterMap_cons]
    rw [show ((p, v) :: ps.zip vs).lookup p = some v by simp [List.lookup_cons]]
    simp only [Option.map_some]
    congr 1
    rw [← ih]
    apply fm_congr
    intro q hq
    have hne : (q == p) = false := by
      have : q ≠ p := fun e => nd.1 (e ▸ hq)
      simpa using this
    rw [List.lookup_cons, hne]
    rw [ih]

theorem zip_isSome {α : Type} : ∀ (ps : List Str) (vs : List α), vs.length = ps.length → ∀ p ∈ ps, ((ps.zip vs).lookup p).isNone = false
  | p :: ps, [], h, _, _ => by simp at h
  | p :: ps, v :: vs, h, q, hq => by
    rw [List.zip_cons_cons, List.lookup_cons]
    by_cases e : q = p
    · subst e; simp
    · have : (q == p) = false := by simpa using e
      rw [this]
      rcases List.mem_cons.mp hq with z | z
      · exact absurd z e
      · exact zip_isSome ps vs (by simpa using h) q z

theorem bind_plain {name : Str} {pr : Arguments} {body : List Stmt} {sc : Scope} {pm code doc : Value} {vs : List Value} (h1 : pr.posonlyargs = []) (h2 : pr.kwonlyargs = []) (h3 : pr.vararg = none) (h4 : pr.kwarg = none)
    (nd : (pr.args.map (·.arg)).Nodup) (hl : vs.length = (pr.args.map (·.arg)).length) :
    bindArgs (docDef name pr body sc pm code doc) ⟨vs, []⟩ = pure ((pr.args.map (·.arg)).zip vs) := by
  have e1 : ¬ (vs.length > (pr.args.map (·.arg)).length) := by omega
  have e2 : ((pr.args.map (·.arg)).filter fun n => (((pr.args.map (·.arg)).zip vs).lookup n).isNone) = [] := by
    rw [List.filter_eq_nil_iff]
    intro p hp
    rw [zip_isSome _ _ hl p hp]; decide
  unfold bindArgs
  simp only [docDef, h1, h2, h3, h4, List.map_nil, List.nil_append, List.append_nil, List.forIn_nil]
  rw [pure_bind]
  rw [show seqItems? .none = (pure none : Sem (Option (Array Value))) from rfl, pure_bind]
  simp only [Option.getD_none, List.length_nil, Nat.sub_zero, List.take_length, e2, List.isEmpty_nil, Bool.not_true, Bool.false_eq_true, if_false, List.drop_nil, List.zip_nil_right, List.forIn_nil, zip_filterMap _ _ nd hl]
  simp [e1]
  rw [if_neg (by simpa using e1), ← List.filterMap_map, zip_filterMap _ _ nd hl]

noncomputable def argsPlain (a : Arguments) (sc : Scope) : Bool := a.posonlyargs.isEmpty && a.kwonlyargs.isEmpty && a.vararg.isNone && a.kwarg.isNone && decide ((a.args.map (·.arg)).Nodup) && (a.args.map (·.arg)).all (isVar sc.names) &&
  sc.kind == .function && !sc.isGenerator && !sc.isCoroutine && a.defaults.isEmpty && a.kw_defaults.isEmpty

noncomputable def tabOf (p : Program) (f : Str) : Option FDef := match p.theDef f with
  | some (a, b, sc) => if argsPlain a sc then some ⟨a.args.map (·.arg), b, sc⟩ else none
  | none => none

theorem recs_of {p : Program} {f : Str} {a : Arguments} {bd : List Stmt} {sc : Scope} (h : p.theDef f = some (a, bd, sc)) (h1 : a.defaults = []) (h2 : a.kwonlyargs = []) (h3 : a.kw_defaults = []) : ∃ pos, (⟨f, a, bd, sc, pos⟩ : DefRec) ∈ recsOf p := by
  have h0 := h
  unfold Program.theDef at h
  split at h
  · rename_i n args b x scope y z pos hf
    cases h
    have hm := List.mem_filter.mp (Eq.mpr (congrArg (fun l => Stmt.FunctionDef n a bd [] x [] sc y z pos ∈ l) hf) (List.mem_singleton.mpr rfl))
    obtain ⟨hm, hn⟩ := hm
    have hn : n = f := beq_iff_eq.mp hn
    subst hn
    refine ⟨pos, List.mem_filterMap.mpr ⟨_, hm, ?_⟩⟩
    simp only [h0, h1, h2, h3, kwLiteralsOf?]
  · cases h

theorem fnAt_of {p : Program} {loose : List Str} {mean : ExcName → Option Value} {mb : Str → Option Value} {f : Str} {d : FDef} (T : Top p loose mean b.mg mb b.base) (h : tabOf p f = some d) : FnAt b f d := by
  unfold tabOf at h
  split at h
  · rename_i a bd sc hr
    split at h
    · rename_i hp
      cases h
      unfold argsPlain at hp
      simp only [Bool.and_eq_true, List.isEmpty_iff, Option.isNone_iff_eq_none, decide_eq_true_eq, List.all_eq_true, Bool.not_eq_true', beq_iff_eq] at hp
      obtain ⟨⟨⟨⟨⟨⟨⟨⟨⟨⟨c1, c2⟩, c3⟩, c4⟩, c5⟩, c6⟩, c7⟩, c8⟩, c9⟩, c10⟩, c11⟩ := hp
      obtain ⟨pos, hm⟩ := recs_of hr c10 c2 c11
      obtain ⟨x, o, pm, code, doc, g1, g2, g3, g4⟩ := T.fn _ hm
      exact ⟨⟨x, o, pm, code, doc, a, g1, g2, g3, g4, fun vs hl => bind_plain c1 c2 c3 c4 c5 hl⟩, c7, c8, c9, c6, c5⟩
    · cases h
  · cases h
end Mini

namespace Mini
open PySem PySem.W PySem.Calls PyProof.Rows PyProof.V PySem.Spec

variable {b : Base} {K : Frag}

section
variable {prog : Program} {w : World} {A : Around} {E : Value → Shared → Prop} {s : Shared} {x d C : Addr} {es : List DictEntry} {n : Nat} {name : Str} {v : Value}

theorem store_gen {Q : Unit → Shared → Prop} (X : K.In s.heap) (hx : s.heap.get? x = some (instObj C d)) (hd : s.heap.get? d = some (dictOf es n)) (hs : findIn K (.ref C) "__setattr__" = some (some (.builtin "object.__setattr__"))) (hp : plainOver K C = true)
    (ht : takerIn K C name = some none) (hh : hasDictIn K C = true) (hl : es.any (·.refKey) = false) (hz : (putL name (PyData.keyHash w.params name) (.str name (s.toks + 1)) v es).length ≤ 1000)
    (h : ∀ h', h'.get? d = some (dictOf (putL name (PyData.keyHash w.params name) (.str name (s.toks + 1)) v es) (putN name es n)) → Heap.SameBut d s.heap h' → Q () { s with heap := h', toks := s.toks + 2 }) :
    wpAny (model prog w) A (setAttr (.ref x) name v) Q E s := by
  have I : InstAt s.heap x (instObj C d) C (some (dictOf es n)) := ⟨hx, rfl, rfl, hd⟩
  refine set_plain X I hs (osa_open (s := { s with toks := s.toks + 1 }) X I hp ht fun k => ?_)
  obtain ⟨cd, hc, hcd⟩ := any_some hh
  have up : ∀ y, Obj.putName name (PyData.keyHash w.params name) (.str name y) v (dictOf es n) = dictOf (putL name (PyData.keyHash w.params name) (.str name y) v es) (putN name es n) := fun y => putName_dict _ _ _ _ _ _
  refine wpAny_bind (wpAny_pure (wpAny_bind (wpAny_bind (wpAny_loadPart hx (wpAny_bind (Looks.here (s := { s with toks := s.toks + 1 }) (looks_clsIn X hc) ?_))))))
  rw [hcd]
  refine wpAny_pure (a := some d) (wpAny_bind (wpAny_pure (wpAny_bind ?_)))
  unfold nsSet
  refine wpAny_bind (wpAny_bind (wpAny_askSetting (wpAny_pure (wpAny_bind (wpAny_mkText (wpAny_bind (wpAny_loadPart hd ?_)))))))
  have c : (!es.toArray.any (·.key.isStr name) && es.toArray.any (·.refKey)) = false := by rw [List.any_toArray, List.any_toArray, hl]; simp
  dsimp only
  rw [aRefKeyMayBeTheName_at, c]
  refine wpAny_updatePart hd ?_
  have at' := Heap.get?_update_self (Obj.putName name (PyData.keyHash w.params name) (.str name (s.toks + 1)) v) hd (by rw [up]; rfl)
  rw [up] at at'
  exact wpAny_bind (wpAny_lookBehind at' (by exact pastItsLine_dict (by rw [List.size_toArray, sizeLine_eq]; omega)) (wpAny_pure (h _ at' (Heap.SameBut.update ..))))
end

inductive Src where
  | name (x : Str)
  | none
  | bool (k : Bool)
  | str (x : Str)

noncomputable def srcOf : Expr → Option Src
  | .Name x _ => if x == ("__debug__" : Str) then Option.none else some (.name x)
  | .Constant .none _ _ => some .none
  | .Constant (.bool k) _ _ => some (.bool k)
  | .Constant (.str x) _ _ => some (.str x)
  | _ => Option.none

noncomputable def parseI : List Stmt → Option (List (Str × Src))
  | [] => some []
  | .Assign [.Attribute (.Name y _) a _] e _ :: r => if y = "self" then (match srcOf e, parseI r with
    | some q, some l => some ((a, q) :: l)
    | _, _ => Option.none) else Option.none
  | _ => Option.none

noncomputable def SrcVal (m : Str → Option Value) : Src → Value → Prop
  | .name x, v => m x = some v
  | .none, v => v = .none
  | .bool k, v => v = .bool k
  | .str x, v => ∃ t, v = .str x t

inductive Fill (p : Params) (m : Str → Option Value) : List DictEntry → Nat → List (Str × Src) → List DictEntry → Nat → Prop
  | nil {es n} : Fill p m es n [] es n
  | cons {es n a q r v t es' n'} : SrcVal m q v → Fill p m (putL a (PyData.keyHash p a) (.str a t) v es) (putN a es n) r es' n' → Fill p m es n ((a, q) :: r) es' n'

structure Made (s0 : Shared) (L : Addr) (m : Str → Option Value) (C x d : Addr) (es : List DictEntry) (n : Nat) (s : Shared) : Prop where
  same : ∃ h tk, s = { s0 with heap := h, toks := tk }
  keep : ∀ a o, s0.heap.get? a = some o → s.heap.get? a = some o
  ns : s.heap.Ns L m
  ox : s.heap.get? x = some (instObj C d)
  od : s.heap.get? d = some (dictOf es n)
  xd : x ≠ d
  Ld : L ≠ d
  nx : s0.heap.get? x = none
  nd : s0.heap.get? d = none

theorem putL_len (name : Str) (hsh : Int) (key v : Value) : ∀ es : List DictEntry, (putL name hsh key v es).length ≤ es.length + 1
  | [] => by simp [putL]
  | e :: r => by
    unfold putL
    split
    · simp
    · have := putL_len name hsh key v r
      simp only [List.length_cons]; omega
theorem putL_ref (name : Str) (hsh : Int) (t : Tok) (v : Value) : ∀ es : List DictEntry, es.any (·.refKey) = false → (putL name hsh (.str name t) v es).any (·.refKey) = false
  | [], _ => rfl
  | e :: r, h => by
    rw [List.any_cons, Bool.or_eq_false_iff] at h
    unfold putL
    split
    · rw [List.any_cons, Bool.or_eq_false_iff]; exact ⟨h.1, h.2⟩
    · rw [List.any_cons, Bool.or_eq_false_iff]; exact ⟨h.1, putL_ref name hsh t v r h.2⟩

theorem src_ok {prog : Program} {w : World} {A : Around} {env : Env} {m : Str → Option Value} {s : Shared} {e : Expr} {q : Src} (hk : env.scope.kind = .function) (hl : ∀ y v, m y = some v → env.kindOf y = some .local) (hns : s.heap.Ns env.locals m) (h : srcOf e = some q)
    (hn : ∀ y, q = .name y → ∃ v, m y = some v) : wpAny (model prog w) A (eval e env) (fun v s' => SrcVal m q v ∧ ∃ tk, s' = { s with toks := tk }) NoE s := by
  unfold srcOf at h
  split at h
  · rename_i x px
    split at h
    · cases h
    · rename_i hd
      cases h
      obtain ⟨v, hv⟩ := hn x rfl
      refine wpAny_Name (wpAny_loadName_local hk (hl x v hv) hns hv ⟨hv, _, rfl⟩) (by simpa using hd)
  · cases h; exact PyProof.Rows.Constant_none ⟨rfl, _, rfl⟩
  · cases h; exact PyProof.Rows.Constant_bool ⟨rfl, _, rfl⟩
  · cases h; exact Constant_str ⟨⟨_, rfl⟩, _, rfl⟩
  · cases h

theorem swaps_src {e : Expr} {q : Src} {tg : Option Expr} {k : Nat} {env : Env} (h : srcOf e = some q) : swapsWith e tg k env = pure false := by
  unfold srcOf at h
  split at h <;> first | rfl | cases h

theorem init_ok {prog : Program} {w : World} {A : Around} {env : Env} {m : Str → Option Value} {s0 : Shared} {C x d : Addr} {names : List Str} (c : Cls K C names) (X : K.In s0.heap) (hk : env.scope.kind = .function) (hl : ∀ y v, m y = some v → env.kindOf y = some .local) (hself : m "self" = some (.ref x)) :
    ∀ (body : List Stmt) (l : List (Str × Src)) {es : List DictEntry} {n : Nat} {s : Shared}, parseI body = some l → (∀ p ∈ l, p.1 ∈ names) → (∀ p ∈ l, ∀ y, p.2 = .name y → ∃ v, m y = some v) → es.any (·.refKey) = false → es.length + l.length ≤ 1000 → Made s0 env.locals m C x d es n s →
      wpAny (model prog w) A (execs body env) (fun f s' => f = .next ∧ ∃ es' n', Fill w.params m es n l es' n' ∧ Made s0 env.locals m C x d es' n' s') NoE s
  | [], l, es, n, s, h, _, _, _, _, M => by
    unfold parseI at h
    cases h
    exact wpAny_execs_nil ⟨rfl, es, n, .nil, M⟩
  | st :: rest, l, es, n, s, h, hn, hv, hr, hz, M => by
    unfold parseI at h
    split at h
    · rename_i e1; cases e1
    · rename_i y py a pa e pos r heq
      cases heq
      split at h
      · rename_i hy
        subst hy
        split at h
        · rename_i q l' h1 h2
          cases h
          refine wpAny_execs_cons (plainObj_wpAny_Assign_Attribute (wpAny_mono (src_ok hk hl M.ns h1 (hv _ (.head _))) (fun v s₁ h₁ => ?_) fun _ _ x => x) (swaps_src h1))
          obtain ⟨hsv, tk, rfl⟩ := h₁
          refine wpAny_Name (wpAny_loadName_local hk (hl _ _ hself) M.ns hself ?_) (by decide)
          have hz1 := putL_len a (PyData.keyHash w.params a) (.str a (tk + 1)) v es
          have hz2 : es.length + (l'.length + 1) ≤ 1000 := by simpa using hz
          refine store_gen (s := { s with toks := tk }) (X.keeps M.keep) M.ox M.od c.set c.plain (c.taker _ (hn _ (.head _))) c.dict hr (Nat.le_trans hz1 (by omega)) fun h' hd' hs => ?_
          have M' : Made s0 env.locals m C x d (putL a (PyData.keyHash w.params a) (.str a (tk + 1)) v es) (putN a es n) { s with heap := h', toks := tk + 2 } := by
            obtain ⟨hh, t, rfl⟩ := M.same
            exact ⟨⟨h', _, rfl⟩, fun b o e => (hs.2 b fun q => by rw [q, M.nd] at e; cases e).trans (M.keep b o e), M.ns.sameBut hs M.Ld, (hs.2 x M.xd).trans M.ox, hd', M.xd, M.Ld, M.nx, M.nd⟩
          exact wpAny_mono (init_ok c X hk hl hself rest l' h2 (fun p m => hn p (.tail _ m)) (fun p m => hv p (.tail _ m)) (putL_ref _ _ _ _ _ hr) (by omega) M') (fun f s' h' => ⟨h'.1, by
            obtain ⟨_, es', n', F, M2⟩ := h'
            exact ⟨es', n', .cons hsv F, M2⟩⟩) fun _ _ x => x
        · cases h
      · cases h
    · cases h

theorem make_inst {A : Around} {s : Shared} {C fI : Addr} {names : List Str} {oc : Value} {od : Option Addr} {fd : FuncData} {osl : Array (Option Value)} {body : List Stmt} {l : List (Str × Src)} {rest : List Value} (lim : b.base.NoLimit) (XB : K.In b.base) (c : Cls K C names)
    (hb : ∀ a o, b.base.get? a = some o → s.heap.get? a = some o) (hA : A.handled = none) (hdp : A.depth < 950)
    (hi : findIn K (.ref C) "__init__" = some (some (.ref fI))) (hf : typeIn K (.ref fI) = some (.type "function")) (ho : K.lookup fI = some ⟨oc, od, .func fd, osl⟩) (hcd : codeIn K fd.code fd.qualname = true)
    (hbody : fd.body = .stmts body) (binds : Addr → List (Str × Value)) (hbind : ∀ s x, K.In s.heap → BindsTo s fd ⟨.ref x :: rest, []⟩ (binds x)) (hcell : ∀ x ∈ fd.scope.names, x.2 ≠ .cell) (hloc : ∀ x, ∀ y ∈ binds x, fd.scope.names.lookup y.1 = some .local)
    (hco : fd.scope.isCoroutine = false) (hgen : fd.scope.isGenerator = false) (hk : fd.scope.kind = .function) (hp : parseI body = some l) (hn : ∀ p ∈ l, p.1 ∈ names) (hv : ∀ x, ∀ p ∈ l, ∀ y, p.2 = .name y → ∃ v, (binds x).reverse.lookup y = some v)
    (hself : ∀ x, (binds x).reverse.lookup (Str.ofString "self") = some (Value.ref x)) (hz : l.length ≤ 1000) (Q : Value → Shared → Prop)
    (k : ∀ h' tk x d es n, Fill b.w.params (fun y => (binds x).reverse.lookup y) [] 0 l es n → (∀ a o, s.heap.get? a = some o → h'.get? a = some o) → s.heap.get? x = none → s.heap.get? d = none → x ≠ d → h'.get? x = some (instObj C d) → h'.get? d = some (dictOf es n) → Q (.ref x) { s with heap := h', toks := tk }) :
    wpAny (model b.prog b.w) A (call (.ref C) rest) Q (fun _ _ => False) s := by
  have XS : K.In s.heap := XB.keeps hb
  obtain ⟨hh, g, dr, t, os⟩ := s
  refine wpAny_call (make_core (makes_of XS c.makes) (looks_findIn XS hi) (fun self => bind_fn XS self hf) (.inl rfl) ?_)
  have keep0 : ∀ a o, hh.get? a = some o → ((hh.push emptyDict).push (instObj C hh.objs.size)).get? a = some o := fun a o e => Heap.get?_push_of_some _ (Heap.get?_push_of_some _ e)
  refine codeAny_call_def (s := ⟨(hh.push emptyDict).push (instObj C hh.objs.size), g, dr, t, os⟩) (fd := fd) (body := body) (binds := binds (hh.objs.size + 1)) ?_ (keep0 _ _ (XS _ _ ho)) rfl (lim.keeps fun a o e => keep0 _ _ (hb a o e)) (codeRec_of (XS.keeps keep0) hcd) hbody (hbind _ _ (XS.keeps keep0)) hcell (hloc _) (fun h₀ hns hk0 => ?_) hco hgen hk
  · show A.depth + _ < recursionLimit
    have : (Code.builtin "type.__call__" ⟨.ref C :: rest, []⟩).weight ≤ 20 := Nat.le_of_ble_eq_true (by kernel_rfl)
    unfold recursionLimit; omega
  have hx0 : ((hh.push emptyDict).push (instObj C hh.objs.size)).get? (hh.objs.size + 1) = some (instObj C hh.objs.size) := by heap_get
  have hd0 : ((hh.push emptyDict).push (instObj C hh.objs.size)).get? hh.objs.size = some (dictOf [] 0) := by heap_get
  have M : Made ⟨hh, g, dr, t, os⟩ ((hh.push emptyDict).push (instObj C hh.objs.size)).objs.size (fun y => (binds (hh.objs.size + 1)).reverse.lookup y) C (hh.objs.size + 1) hh.objs.size [] 0 { (⟨(hh.push emptyDict).push (instObj C hh.objs.size), g, dr, t, os⟩ : Shared) with heap := h₀, toks := t + (binds (hh.objs.size + 1)).length } :=
    ⟨⟨h₀, _, rfl⟩, fun a o e => hk0 _ _ (keep0 a o e), hns, hk0 _ _ hx0, hk0 _ _ hd0, Nat.succ_ne_self _, (by rw [Heap.size_push, Heap.size_push]; exact Nat.ne_of_gt (Nat.lt_of_lt_of_le (Nat.lt_succ_self _) (Nat.le_succ _))), Heap.get?_none_of_le (Nat.le_succ _), Heap.get?_none_of_le (Nat.le_refl _)⟩
  have lk : ∀ (bs : List (Str × Value)) y v, bs.lookup y = some v → (y, v) ∈ bs := fun bs y v e => mem_of_lookup e
  refine NoE.any (wpAny_mono (init_ok (w := b.w) (prog := b.prog) c XS (env := callEnv fd ((hh.push emptyDict).push (instObj C hh.objs.size)).objs.size fI) hk (fun y v e => hloc _ (y, v) (List.mem_reverse.mp (lk _ _ _ e))) (hself _) body l hp hn (hv _) rfl (by simpa using hz) M) (fun f s' h' => ?_) fun _ _ x => x)
  obtain ⟨rfl, es, n, F, M'⟩ := h'
  obtain ⟨h2, t2, e2⟩ := M'.same
  subst e2
  exact ⟨rfl, k _ _ _ _ _ _ F M'.keep M'.nx M'.nd M'.xd M'.ox M'.od⟩
end Mini

namespace Mini
open PySem PySem.W PySem.Calls PyProof.Rows PyProof.V PySem.Spec

theorem names5 {P : Str → Prop} (h0 : P "kind") (h1 : P "items") (h2 : P "attrs") (h3 : P "shared") (h4 : P "loose") : ∀ n ∈ (["kind", "items", "attrs", "shared", "loose"] : List Str), P n := by
  intro n hn
  simp only [List.mem_cons, List.not_mem_nil, or_false] at hn
  rcases hn with rfl | rfl | rfl | rfl | rfl <;> assumption
theorem names2 {P : Str → Prop} (h0 : P "kind") (h2 : P "attrs") : ∀ n ∈ (["kind", "attrs"] : List Str), P n := by
  intro n hn
  simp only [List.mem_cons, List.not_mem_nil, or_false] at hn
  rcases hn with rfl | rfl <;> assumption

noncomputable def fdOf (K : Frag) (a : Addr) : Option FuncData := match K.lookup a with
  | some ⟨_, _, .func fd, _⟩ => some fd
  | _ => none
theorem fdOf_some {K : Frag} {a : Addr} {fd : FuncData} (h : fdOf K a = some fd) : ∃ oc od osl, K.lookup a = some ⟨oc, od, .func fd, osl⟩ := by
  unfold fdOf at h
  split at h
  · rename_i e; cases h; exact ⟨_, _, _, e⟩
  · cases h
noncomputable def bodyOf (fd : FuncData) : Option (List Stmt) := match fd.body with
  | .stmts b => some b
  | _ => none
noncomputable def fnOk (K : Frag) (fd : FuncData) (names : List Str) : Bool := codeIn K fd.code fd.qualname && fd.scope.kind == .function && !fd.scope.isGenerator && !fd.scope.isCoroutine && fd.scope.names.all (fun x => x.2 != .cell) && names.all fun n => fd.scope.names.lookup n == some .local

noncomputable def lV : List (Str × Src) := [("kind", .name "kind"), ("items", .name "items"), ("attrs", .name "attrs"), ("shared", .bool false), ("loose", .bool false)]
noncomputable def lN : List (Str × Src) := [("kind", .str "NULL"), ("attrs", .none)]
noncomputable def lM : List (Str × Src) := [("kind", .str "missing"), ("attrs", .none)]
noncomputable def bV (x : Addr) (k : Str) (tk : Tok) (vi : Value) : List (Str × Value) := [("self", .ref x), ("kind", .str k tk), ("items", vi), ("attrs", .none)]
noncomputable def bO (x : Addr) : List (Str × Value) := [("self", .ref x)]

structure ClsF where
  dict : Bool
  g1 : List Bool
  g2 : List (Option (Option Value))
  set : Option (Option Value)
  plain : Bool
  taker : List (Option (Option Value))
  makes : Bool
  keep : Bool
  ini : Option (Option Value)
  nm : Option (Option Value)
noncomputable def clsF (K : Frag) (C : Addr) (ns : List Str) (name : Str) : ClsF := ⟨hasDictIn K C, ns.map (plainGet K C), ns.map (findIn K (.ref C)), findIn K (.ref C) "__setattr__", plainOver K C, ns.map (takerIn K C), makesIn K C, keepIn K (.ref C), findIn K (.ref C) "__init__", nsIn K mainGlobals name⟩
noncomputable def clsW (C f : Addr) (ns : List Str) : ClsF := ⟨true, ns.map fun _ => true, ns.map fun _ => some none, some (some (.builtin "object.__setattr__")), true, ns.map fun _ => some none, true, true, some (some (.ref f)), some (some (.ref C))⟩
theorem map_at {α : Type} {f : Str → α} {c : α} {ns : List Str} (h : ns.map f = ns.map fun _ => c) : ∀ n ∈ ns, f n = c := List.map_inj_left.mp h
theorem clsF_cls {K : Frag} {C f : Addr} {ns : List Str} {name : Str} (h : clsF K C ns name = clsW C f ns) : Cls K C ns := by
  unfold clsF clsW at h
  injection h with h1 h2 h3 h4 h5 h6 h7 h8 h9 h10
  exact ⟨h1, fun n hn => ⟨map_at h2 n hn, map_at h3 n hn⟩, h4, h5, map_at h6, h7, h8⟩

structure FnF where
  ty : Option Value
  ok : Option (Bool × Option (List (Str × Src)))
noncomputable def fnF (K : Frag) (a : Addr) (ps : List Str) : FnF := ⟨typeIn K (.ref a), (fdOf K a).map (fun fd => (fnOk K fd ps, (bodyOf fd).bind parseI))⟩
noncomputable def fnW (l : List (Str × Src)) : FnF := ⟨some (.type "function"), some (true, some l)⟩

structure FactsT where
  all : Bool
  V : ClsF
  N : ClsF
  M : ClsF
  fV : FnF
  fN : FnF
  fM : FnF
  iV : Bool
  bV : Addr → Str → Tok → Value → Setting → Option (Option (List (Str × Value)))
  bN : Addr → Setting → Option (Option (List (Str × Value)))
  bM : Addr → Setting → Option (Option (List (Str × Value)))
  gs : List (Option (Option Value))

noncomputable def nV : List Str := ["kind", "items", "attrs", "shared", "loose"]
noncomputable def nN : List Str := ["kind", "attrs"]
noncomputable def gNames : List Str := ["len", "range", "list", "str", "isinstance"]

noncomputable def frOf (as : List Addr) (h : Heap) : Frag := as.map fun a => (a, (h.get? a).getD default)
theorem frOf_in {as : List Addr} {h : Heap} (e : as.all (fun a => (h.get? a).isSome) = true) : (frOf as h).In h := by
  intro a o
  induction as with
  | nil => intro q; cases q
  | cons b as ih =>
    rw [List.all_cons, Bool.and_eq_true] at e
    intro q
    unfold frOf at q
    rw [List.map_cons, List.lookup_cons] at q
    cases c : (a == b) with
    | true =>
      rw [c] at q
      obtain rfl : a = b := beq_iff_eq.mp c
      obtain ⟨o', ho⟩ := Option.isSome_iff_exists.mp e.1
      rw [ho] at q ⊢
      exact q
    | false => rw [c] at q; exact ih e.2 q

noncomputable def factsOf (as : List Addr) (h : Heap) : FactsT :=
  let K := frOf as h
  ⟨as.all (fun a => (h.get? a).isSome), clsF K 246 nV "Vector", clsF K 196 nN "Null", clsF K 217 nN "Missing", fnF K 236 ["self", "kind", "items", "attrs"], fnF K 193 ["self"], fnF K 214 ["self"], isIn K (.ref 246) 246,
    fun x k tk vi S => (fdOf K 236).map (fun fd => peek K S (bindArgs fd ⟨.ref x :: [.str k tk, vi], []⟩)),
    fun x S => (fdOf K 193).map (fun fd => peek K S (bindArgs fd ⟨.ref x :: [], []⟩)),
    fun x S => (fdOf K 214).map (fun fd => peek K S (bindArgs fd ⟨.ref x :: [], []⟩)), gNames.map (nsIn K mainGlobals)⟩
noncomputable def factsW : FactsT :=
  ⟨true, clsW 246 236 nV, clsW 196 193 nN, clsW 217 214 nN, fnW lV, fnW lN, fnW lM, true, fun x k tk vi _ => some (some (bV x k tk vi)), fun x _ => some (some (bO x)), fun x _ => some (some (bO x)), gNames.map fun _ => some none⟩

structure KF (K : Frag) : Prop where
  V : clsF K 246 nV "Vector" = clsW 246 236 nV
  N : clsF K 196 nN "Null" = clsW 196 193 nN
  M : clsF K 217 nN "Missing" = clsW 217 214 nN
  fV : fnF K 236 ["self", "kind", "items", "attrs"] = fnW lV
  fN : fnF K 193 ["self"] = fnW lN
  fM : fnF K 214 ["self"] = fnW lM
  iV : isIn K (.ref 246) 246 = true
  bV : ∀ x k tk vi S, (fdOf K 236).map (fun fd => peek K S (bindArgs fd ⟨.ref x :: [.str k tk, vi], []⟩)) = some (some (bV x k tk vi))
  bN : ∀ x S, (fdOf K 193).map (fun fd => peek K S (bindArgs fd ⟨.ref x :: [], []⟩)) = some (some (bO x))
  bM : ∀ x S, (fdOf K 214).map (fun fd => peek K S (bindArgs fd ⟨.ref x :: [], []⟩)) = some (some (bO x))
  gs : ∀ n ∈ gNames, nsIn K mainGlobals n = some none

theorem kf_of {as : List Addr} {h : Heap} (e : factsOf as h = factsW) : ∃ K : Frag, KF K ∧ K.In h := by
  unfold factsOf factsW at e
  injection e with e0 e1 e2 e3 e4 e5 e6 e7 e8 e9 e10 e11
  exact ⟨frOf as h, ⟨e1, e2, e3, e4, e5, e6, e7, fun x k tk vi S => congrFun (congrFun (congrFun (congrFun (congrFun e8 x) k) tk) vi) S, fun x S => congrFun (congrFun e9 x) S, fun x S => congrFun (congrFun e10 x) S, map_at e11⟩, frOf_in e0⟩

noncomputable def mkHook (as : List Addr) : Hook := ⟨FactsT, fun s => factsOf as s.heap, fun _ => factsW, fun _ h => ∃ K : Frag, KF K ∧ K.In h, fun _ _ e => kf_of e, fun _ _ _ x k => let ⟨K, a, b⟩ := x; ⟨K, a, b.keeps k⟩⟩

theorem binds_peek {K : Frag} {s : Shared} {fd : FuncData} {args : Args} {binds : List (Str × Value)} (X : K.In s.heap) (e : ∀ S, peek K S (bindArgs fd args) = some binds) : BindsTo s fd args binds :=
  fun M A E Q q => (Looks.of_peek X (e _)).here q

theorem fnOk_of {K : Frag} {fd : FuncData} {names : List Str} (h : fnOk K fd names = true) : codeIn K fd.code fd.qualname = true ∧ fd.scope.kind = .function ∧ fd.scope.isGenerator = false ∧ fd.scope.isCoroutine = false ∧ (∀ x ∈ fd.scope.names, x.2 ≠ .cell) ∧
    ∀ n ∈ names, fd.scope.names.lookup n = some .local := by
  unfold fnOk at h
  simp only [Bool.and_eq_true, beq_iff_eq, Bool.not_eq_true', List.all_eq_true, bne_iff_ne] at h
  obtain ⟨⟨⟨⟨⟨h1, h2⟩, h3⟩, h4⟩, h5⟩, h6⟩ := h
  exact ⟨h1, h2, h3, h4, h5, h6⟩

abbrev bs (w : World) (h : Heap) (mg mb : Str → Option Value) : Base := ⟨PySem.Challenge.rw_pq1328_01.row.prog, w, h, mg, mb, 246, 196, 217⟩

section
variable {w : World} {h : Heap} {mg mb : Str → Option Value} {K : Frag}

theorem make_of {C fI : Addr} {names ps : List Str} {l : List (Str × Src)} {name : Str} {rest : List Value} {binds : Addr → List (Str × Value)} (KX : K.In h) (lim : h.NoLimit) (hc : clsF K C names name = clsW C fI names) (hf : fnF K fI ps = fnW l)
    (h2 : ∀ (x : Addr) (S : Setting), (fdOf K fI).map (fun fd => peek K S (bindArgs fd ⟨.ref x :: rest, []⟩)) = some (some (binds x)))
    (hloc : ∀ x, ((binds x).all fun y => ps.contains y.1) = true) (hn : (l.all fun p => names.contains p.1) = true) (hv : ∀ x, ∀ p ∈ l, ∀ y, p.2 = .name y → ∃ v, (binds x).reverse.lookup y = some v)
    (hself : ∀ x, (binds x).reverse.lookup (Str.ofString "self") = some (Value.ref x)) (hz : l.length ≤ 1000)
    (A : Around) (s : Shared) (Q : Value → Shared → Prop) (hA : A.handled = none) (hdp : A.depth < 950) (hb : ∀ a o, h.get? a = some o → s.heap.get? a = some o)
    (k : ∀ h' tk x d es n, Fill w.params (fun y => (binds x).reverse.lookup y) [] 0 l es n → (∀ a o, s.heap.get? a = some o → h'.get? a = some o) → s.heap.get? x = none → s.heap.get? d = none → x ≠ d → h'.get? x = some (instObj C d) → h'.get? d = some (dictOf es n) → Q (.ref x) { s with heap := h', toks := tk }) :
    wpAny (model (bs w h mg mb).prog (bs w h mg mb).w) A (call (.ref C) rest) Q (fun _ _ => False) s := by
  unfold fnF fnW at hf
  injection hf with ht h1
  have hi : findIn K (.ref C) "__init__" = some (some (.ref fI)) := congrArg ClsF.ini hc
  cases q : fdOf K fI with
  | none => rw [q] at h1; cases h1
  | some fd =>
    rw [q] at h1
    injection h1 with h1
    injection h1 with h1 hp
    obtain ⟨f1, f2, f3, f4, f5, f6⟩ := fnOk_of h1
    obtain ⟨oc, od, osl, ho⟩ := fdOf_some q
    cases hb2 : bodyOf fd with
    | none => rw [hb2] at hp; cases hp
    | some body =>
      rw [hb2] at hp
      have hbody : fd.body = .stmts body := by
        unfold bodyOf at hb2
        split at hb2
        · rename_i e; cases hb2; exact e
        · cases hb2
      refine make_inst (b := bs w h mg mb) (K := K) lim KX (clsF_cls hc) hb hA hdp hi ht ho f1 hbody binds (fun s x XS => binds_peek XS fun S => ?_) f5 (fun x y hy => f6 _ (List.contains_iff_mem.mp (List.all_eq_true.mp (hloc x) y hy))) f4 f3 f2 hp (fun p hm => List.contains_iff_mem.mp (List.all_eq_true.mp hn p hm)) hv hself hz Q k
      have := h2 x S
      rw [q] at this
      injection this

theorem baseOk {p : Program} {loose : List Str} {mean : ExcName → Option Value} (F : KF K) (KX : K.In h) (T : Top p loose mean mg mb h) : BaseOk (bs w h mg mb) K where
  X := KX
  lim := T.nolimit
  g := T.g
  bb := T.b
  V := clsF_cls F.V
  N := clsF_cls F.N
  M := clsF_cls F.M
  isi := F.iV
  gV := mg_of KX T.g (congrArg ClsF.nm F.V)
  gN := mg_of KX T.g (congrArg ClsF.nm F.N)
  gM := mg_of KX T.g (congrArg ClsF.nm F.M)
  bLen := ⟨mg_none_of KX T.g (F.gs _ (.head _)), (T.builtins _ (by decide)).trans (by kernel_rfl)⟩
  bRange := ⟨mg_none_of KX T.g (F.gs _ (.tail _ (.head _))), (T.builtins _ (by decide)).trans (by kernel_rfl)⟩
  bList := ⟨mg_none_of KX T.g (F.gs _ (.tail _ (.tail _ (.head _)))), (T.builtins _ (by decide)).trans (by kernel_rfl)⟩
  bStr := ⟨mg_none_of KX T.g (F.gs _ (.tail _ (.tail _ (.tail _ (.head _))))), (T.builtins _ (by decide)).trans (by kernel_rfl)⟩
  bIsi := ⟨mg_none_of KX T.g (F.gs _ (.tail _ (.tail _ (.tail _ (.tail _ (.head _)))))), (T.builtins _ (by decide)).trans (by kernel_rfl)⟩
  newV := fun A s k tk vi Q hA hd _ hb _ q => by
    refine make_of KX T.nolimit F.V F.fV (fun x S => F.bV x k tk vi S) (fun x => by kernel_rfl) (by kernel_rfl) (fun x p hp y e => ?_) (fun x => rfl) (by decide) A s Q hA hd hb fun h' tk' x d es n F hk hx hd0 xd hox hod => ?_
    · simp only [lV, List.mem_cons, List.not_mem_nil, or_false] at hp
      rcases hp with rfl | rfl | rfl | rfl | rfl <;> cases e <;> exact ⟨_, rfl⟩
    · cases F with | cons v0 F => cases F with | cons v1 F => cases F with | cons v2 F => cases F with | cons v3 F => cases F with | cons v4 F =>
        cases F
        cases v0; cases v1; cases v2; cases v3; cases v4
        exact q h' tk' x d _ _ _ _ _ _ hk hx hd0 xd hox hod
  newN := fun A s Q hA hd _ hb q => by
    refine make_of KX T.nolimit F.N F.fN (fun x S => F.bN x S) (fun x => by kernel_rfl) (by kernel_rfl) (fun x p hp y e => ?_) (fun x => rfl) (by decide) A s Q hA hd hb fun h' tk' x d es n F hk hx hd0 xd hox hod => ?_
    · simp only [lN, List.mem_cons, List.not_mem_nil, or_false] at hp
      rcases hp with rfl | rfl <;> cases e
    · cases F with | cons v0 F => cases F with | cons v1 F =>
        cases F
        obtain ⟨t, rfl⟩ := v0
        cases v1
        exact q h' tk' x d _ _ _ _ hk hx hd0 hox hod
  newM := fun A s Q hA hd _ hb q => by
    refine make_of KX T.nolimit F.M F.fM (fun x S => F.bM x S) (fun x => by kernel_rfl) (by kernel_rfl) (fun x p hp y e => ?_) (fun x => rfl) (by decide) A s Q hA hd hb fun h' tk' x d es n F hk hx hd0 xd hox hod => ?_
    · simp only [lM, List.mem_cons, List.not_mem_nil, or_false] at hp
      rcases hp with rfl | rfl <;> cases e
    · cases F with | cons v0 F => cases F with | cons v1 F =>
        cases F
        obtain ⟨t, rfl⟩ := v0
        cases v1
        exact q h' tk' x d _ _ _ _ hk hx hd0 hox hod
end
end Mini

namespace Mini
open PySem PySem.W PySem.Calls PyProof.Rows PyProof.V PySem.Spec

noncomputable def runG (stp : SharedT → Thread → Option (SharedT × Thread)) (ok : Thread → Bool) : Nat → SharedT → Thread → Option SharedT
  | 0, _, _ => none
  | n + 1, s, t => match through t with
    | true => some s
    | false => match ok t with
      | false => none
      | true => match stp s t with
        | some (s', t') => runG stp ok n s' t'
        | none => none

theorem runG_of {tb : String → Option Builtin} {p : Program} {w : World} {n₀ : Nat} {ann : Option Value} : ∀ {n : Nat} {s s' : SharedT} {t : Thread}, runG (PySem.W.stepT (denote tb) p w) (stepOk n₀ ann) n s t = some s' → topRun tb p w n₀ ann n s.abs t = some s'.abs
  | 0, _, _, _, h => by cases h
  | n + 1, s, s', t, h => by
    unfold runG at h
    unfold topRun
    cases ht : through t with
    | true => rw [ht] at h; cases h; rfl
    | false =>
      rw [ht] at h
      cases hk : stepOk n₀ ann t with
      | false => rw [hk] at h; cases h
      | true =>
        rw [hk] at h
        cases hs : PySem.W.stepT (denote tb) p w s t with
        | none => rw [hs] at h; cases h
        | some r => obtain ⟨s₂, t₂⟩ := r; rw [hs] at h; rw [stepT_spec hs]; exact runG_of h

noncomputable def insAll : List Obj → Nat → BT → BT
  | [], _, t => t
  | o :: r, i, t => insAll r (i + 1) (t.ins i o)

theorem left_run {p q : Program} {loose : List Str} {Xt : Shared → Bool} {α : Type} {Yf : Shared → α} {Ya : World → α} {N M : Nat} {g0 : Bool} {ann : Option Value} {T0 : Params → BT} {n₀ : Nat} {life : Life}
    (open_ : ∀ w : World, (fencedOpening treeTable p w N).map (fun s => (s.heap, s.gens, s.drawn, s.toks)) = some (boot_heap w.params, Array.mk [], boot_drawn, boot_toks))
    (size : ∀ P : Params, ((boot_heap P).isNs mainGlobals, boot_heap P, (boot_heap P).objs.size, (boot_heap P).nsMap mainGlobals "__annotations__") = (true, absHeap (T0 P) n₀ life, n₀, ann))
    (le : Nat.ble M N = true)
    (run : ∀ w : World, (fun os => (runG (PySem.W.stepT (denote treeTable) p w) (stepOk n₀ ann) M ⟨T0 w.params, n₀, life, Array.mk [], boot_drawn, boot_toks, os⟩ (topStub p)).map fun s =>
        ((staticsOk (importedModules p.main.body) (boot_heap w.params) s.abs.heap && namesBound p s.abs.heap && gensDone s.abs && laidKept (boot_heap w.params) s.abs.heap),
        openSeen q loose (importedModules p.main.body) Xt g0 s.abs, Yf s.abs)) = fun _ => some (true, openGood q loose, Ya w)) : LeftO p q loose Xt Yf Ya N g0 := fun w => by
  obtain ⟨⟨h, gs, d, k, os⟩, e, e'⟩ := Option.map_eq_some_iff.mp (open_ w)
  obtain ⟨rfl, rfl, rfl, rfl⟩ : h = boot_heap w.params ∧ gs = Array.mk [] ∧ d = boot_drawn ∧ k = boot_toks := by simpa using e'
  obtain ⟨z1, z2, z3, z4⟩ : _ ∧ _ ∧ _ ∧ _ := by simpa only [Prod.mk.injEq] using size w.params
  obtain ⟨s', hr, hl⟩ := Option.map_eq_some_iff.mp (congrFun (run w) os)
  obtain ⟨l1, l2, l3⟩ : _ ∧ _ ∧ _ := by simpa only [Prod.mk.injEq] using hl
  have r := topRun_mono (N - M) _ _ _ _ (runG_of hr)
  rw [show M + (N - M) = N by have := Nat.le_of_ble_eq_true le; omega] at r
  have e0 : (⟨T0 w.params, n₀, life, Array.mk [], boot_drawn, boot_toks, os⟩ : SharedT).abs = ⟨boot_heap w.params, Array.mk [], boot_drawn, boot_toks, os⟩ := by
    unfold SharedT.abs
    rw [z2]
  rw [e0] at r
  have t : topFrom treeTable p w N ⟨boot_heap w.params, Array.mk [], boot_drawn, boot_toks, os⟩ = some s'.abs := by
    unfold topFrom
    dsimp only
    rw [z1, z3, z4, r]
    show (match staticsOk (importedModules p.main.body) (boot_heap w.params) s'.abs.heap && namesBound p s'.abs.heap && gensDone s'.abs && laidKept (boot_heap w.params) s'.abs.heap with | true => _ | false => _) = _
    rw [l1]
  unfold openEnds
  rw [e]
  show (topFrom treeTable p w N _).map _ = _
  rw [t]
  exact congrArg some (Prod.ext l2 l3)
end Mini

set_option maxHeartbeats 8000000

namespace Mini
open PySem PySem.W PySem.Calls PyProof.Rows PyProof.V PySem.Spec

theorem said_ok : PySem.Challenge.rw_pq1328_01.wellSaid = true := by
  unfold OpenLaw.wellSaid OpenRow.wellSaid OpenRow.partSaid looksOpen
  repeat' with_reducible apply look_both
  all_goals decide +kernel
theorem lawOk (h : PySem.Challenge.rw_pq1328_01.row.wellSaid = true → PySem.Challenge.rw_pq1328_01.row.Holds) : PySem.Challenge.rw_pq1328_01.Holds := holds_law said_ok h

noncomputable def keepI : List Nat := [0, 2, 3, 4, 5, 7, 8, 10, 11, 13, 14, 15, 16, 17, 18, 19, 20, 21, 22, 23, 24, 27, 28, 29, 30, 31, 32, 33, 34, 35, 36, 38, 39, 40, 41, 42, 43, 44, 45, 46, 47, 48, 49, 50, 51, 52, 53, 54, 55, 57, 58, 59, 60, 61, 62, 63]
noncomputable def addrs : List Addr := [2, 3, 15, 17, 18, 20, 21, 22, 24, 25, 27, 28, 29, 32, 33, 34, 36, 37, 39, 40, 41, 44, 45, 46, 53, 54, 55, 56, 59, 66, 68, 69, 71, 72, 73, 74, 75, 78, 80, 81, 83, 84, 85, 87, 88, 90, 91, 92, 94, 95, 97, 98, 99, 101, 102, 104, 105, 106, 109, 110, 111, 113, 114, 116, 117, 118, 120, 121, 123, 124, 125, 127, 128, 130, 131, 132, 134, 135, 137, 138, 139, 141, 142, 144, 145, 146, 148, 149, 151, 152, 153, 155, 156, 158, 159, 160, 162, 163, 165, 166, 167, 169, 170, 172, 173, 174, 175, 178, 179, 187, 189, 190, 192, 193, 194, 195, 196, 197, 198, 208, 210, 211, 213, 214, 215, 216, 217, 218, 219, 229, 230, 232, 233, 235, 236, 237, 239, 240, 242, 243, 244, 245, 246, 247, 248, 258, 259, 261, 262, 264, 265, 266, 267, 268, 269, 270, 273, 275, 276, 278, 279, 280, 282, 283, 285, 286, 287, 289, 290, 292, 293, 294, 296, 297, 299, 300, 301, 303, 304, 306, 307, 308, 310, 311, 313, 314, 315, 317, 318, 320, 321, 322, 324, 325, 327, 328, 329, 331, 332, 334, 335, 336, 338, 339, 341, 342, 343, 345, 346, 348, 349, 350, 352, 353, 355, 356, 357, 359, 360, 362, 363, 364, 366, 367, 369, 370, 371, 373, 374, 376, 377, 378, 380, 381, 383, 384, 385, 387, 388, 390, 391, 392, 394, 395, 397, 398, 399, 401, 402, 404, 405, 406, 409, 410, 411, 414, 415, 416, 418, 419, 421, 422, 423, 426, 427, 428, 430, 431, 433, 434, 435, 437, 438, 440, 441, 442, 444, 445, 447, 448, 449, 452, 453, 454, 457, 458, 459, 461, 462, 464, 465, 466, 469, 470, 471, 474, 475]
noncomputable def loose0 : List Str := [Str.ofString "matrix_index"]
noncomputable abbrev qv (p : Program) : Program := view p keepI
noncomputable def T0 (P : Params) : BT := insAll (boot_heap P).objs.toList 0 .nil

theorem hsize (P : Params) : ((boot_heap P).isNs mainGlobals, boot_heap P, (boot_heap P).objs.size, (boot_heap P).nsMap mainGlobals "__annotations__") = (true, absHeap (T0 P) 11 {}, 11, some (.ref 6)) := by kernel_rfl

theorem hq1 (w : World) : (fun os => (runG (PySem.W.Fast.tw10156331382660048174 (PySem.W.Fast.tw11892475500146522536 PySem.W.Fast.tw14364793385576792824) PySem.Challenge.pw_pq1328_01 w) (PySem.W.Fast.tw6613529449190102663 11 (some (.ref 6))) 3100 ⟨T0 w.params, 11, {}, Array.mk [], boot_drawn, boot_toks, os⟩ (topStub PySem.Challenge.pw_pq1328_01)).map fun s => ((staticsOk (PySem.W.Fast.tw5923862056798008813 PySem.Challenge.pw_pq1328_01.main.body) (boot_heap w.params) s.abs.heap && namesBound PySem.Challenge.pw_pq1328_01 s.abs.heap && gensDone s.abs && laidKept (boot_heap w.params) s.abs.heap), (mkHook addrs).obs s.abs)) = fun _ => some (true, (mkHook addrs).val w) := by kernel_rfl
theorem hq2 (w : World) : (fun os => (runG (PySem.W.Fast.tw10156331382660048174 (PySem.W.Fast.tw11892475500146522536 PySem.W.Fast.tw14364793385576792824) PySem.Challenge.pw_pq1328_01 w) (PySem.W.Fast.tw6613529449190102663 11 (some (.ref 6))) 3100 ⟨T0 w.params, 11, {}, Array.mk [], boot_drawn, boot_toks, os⟩ (topStub PySem.Challenge.pw_pq1328_01)).map fun s => ((PySem.W.Fast.tw4187177175401517315 (qv PySem.Challenge.pw_pq1328_01) loose0 (PySem.W.Fast.tw5923862056798008813 PySem.Challenge.pw_pq1328_01.main.body) (fun s => xlAt (qv PySem.Challenge.pw_pq1328_01) [] s && recOk [] s) true s.abs).1, (PySem.W.Fast.tw4187177175401517315 (qv PySem.Challenge.pw_pq1328_01) loose0 (PySem.W.Fast.tw5923862056798008813 PySem.Challenge.pw_pq1328_01.main.body) (fun s => xlAt (qv PySem.Challenge.pw_pq1328_01) [] s && recOk [] s) true s.abs).2.1, (PySem.W.Fast.tw4187177175401517315 (qv PySem.Challenge.pw_pq1328_01) loose0 (PySem.W.Fast.tw5923862056798008813 PySem.Challenge.pw_pq1328_01.main.body) (fun s => xlAt (qv PySem.Challenge.pw_pq1328_01) [] s && recOk [] s) true s.abs).2.2.1)) = fun _ => some (expectedOf (qv PySem.Challenge.pw_pq1328_01), bltViewBooted, true) := by kernel_rfl
theorem hq3 (w : World) : (fun os => (runG (PySem.W.Fast.tw10156331382660048174 (PySem.W.Fast.tw11892475500146522536 PySem.W.Fast.tw14364793385576792824) PySem.Challenge.pw_pq1328_01 w) (PySem.W.Fast.tw6613529449190102663 11 (some (.ref 6))) 3100 ⟨T0 w.params, 11, {}, Array.mk [], boot_drawn, boot_toks, os⟩ (topStub PySem.Challenge.pw_pq1328_01)).map fun s => (PySem.W.Fast.tw4187177175401517315 (qv PySem.Challenge.pw_pq1328_01) loose0 (PySem.W.Fast.tw5923862056798008813 PySem.Challenge.pw_pq1328_01.main.body) (fun s => xlAt (qv PySem.Challenge.pw_pq1328_01) [] s && recOk [] s) true s.abs).2.2.2) = fun _ => some (true, pinGoodD (drecsOf (qv PySem.Challenge.pw_pq1328_01)), plainGoodE (qv PySem.Challenge.pw_pq1328_01) (looseW (qv PySem.Challenge.pw_pq1328_01) loose0), plainGoodD (qv PySem.Challenge.pw_pq1328_01) loose0, wideGood (qv PySem.Challenge.pw_pq1328_01), clsGoodW (qv PySem.Challenge.pw_pq1328_01) loose0) := by kernel_rfl
theorem parts {Ω α β γ δ ε ζ η : Type} (R : Ω → Option α) (f : α → β) (o : α → γ × δ × ε × ζ) (g : α → η) {a : β} {b1 : γ} {b2 : δ} {b3 : ε} {b4 : ζ} {c : η} (h1 : (fun os => (R os).map fun s => (f s, g s)) = fun _ => some (a, c)) (h2 : (fun os => (R os).map fun s => ((o s).1, (o s).2.1, (o s).2.2.1)) = fun _ => some (b1, b2, b3)) (h3 : (fun os => (R os).map fun s => (o s).2.2.2) = fun _ => some b4) : (fun os => (R os).map fun s => (f s, o s, g s)) = fun _ => some (a, (b1, b2, b3, b4), c) := funext fun os => by
  have h1 : (R os).map (fun s => (f s, g s)) = some (a, c) := congrFun h1 os
  have h2 : (R os).map (fun s => ((o s).1, (o s).2.1, (o s).2.2.1)) = some (b1, b2, b3) := congrFun h2 os
  have h3 : (R os).map (fun s => (o s).2.2.2) = some b4 := congrFun h3 os
  revert h1 h2 h3
  cases R os with
  | none => exact fun h1 _ _ => nomatch h1
  | some s =>
    intro h1 h2 h3
    injection h1 with h1; injection h2 with h2; injection h3 with h3
    injection h1 with e1 e2; injection h2 with e3 e4; injection e4 with e4 e5
    exact congrArg some (Prod.ext e1 (Prod.ext (Prod.ext e3 (Prod.ext e4 (Prod.ext e5 h3))) e2))
theorem hrun (w : World) : (fun os => (runG (PySem.W.stepT (denote treeTable) PySem.Challenge.pw_pq1328_01 w) (stepOk 11 (some (.ref 6))) 3100 ⟨T0 w.params, 11, {}, Array.mk [], boot_drawn, boot_toks, os⟩ (topStub PySem.Challenge.pw_pq1328_01)).map fun s =>
    ((staticsOk (importedModules PySem.Challenge.pw_pq1328_01.main.body) (boot_heap w.params) s.abs.heap && namesBound PySem.Challenge.pw_pq1328_01 s.abs.heap && gensDone s.abs && laidKept (boot_heap w.params) s.abs.heap),
    openSeen (qv PySem.Challenge.pw_pq1328_01) loose0 (importedModules PySem.Challenge.pw_pq1328_01.main.body) (fun s => xlAt (qv PySem.Challenge.pw_pq1328_01) [] s && recOk [] s) true s.abs, (mkHook addrs).obs s.abs)) = fun _ => some (true, openGood (qv PySem.Challenge.pw_pq1328_01) loose0, (mkHook addrs).val w) := by
  rw [PySem.W.Fast.te10156331382660048174, PySem.W.Fast.te11892475500146522536, PySem.W.Fast.te14364793385576792824, PySem.W.Fast.te6613529449190102663, PySem.W.Fast.te5923862056798008813, PySem.W.Fast.te4187177175401517315]
  exact parts (fun os => (runG (PySem.W.Fast.tw10156331382660048174 (PySem.W.Fast.tw11892475500146522536 PySem.W.Fast.tw14364793385576792824) PySem.Challenge.pw_pq1328_01 w) (PySem.W.Fast.tw6613529449190102663 11 (some (.ref 6))) 3100 ⟨T0 w.params, 11, {}, Array.mk [], boot_drawn, boot_toks, os⟩ (topStub PySem.Challenge.pw_pq1328_01))) (fun s => staticsOk (PySem.W.Fast.tw5923862056798008813 PySem.Challenge.pw_pq1328_01.main.body) (boot_heap w.params) s.abs.heap && namesBound PySem.Challenge.pw_pq1328_01 s.abs.heap && gensDone s.abs && laidKept (boot_heap w.params) s.abs.heap) (fun s => (PySem.W.Fast.tw4187177175401517315 (qv PySem.Challenge.pw_pq1328_01) loose0 (PySem.W.Fast.tw5923862056798008813 PySem.Challenge.pw_pq1328_01.main.body) (fun s => xlAt (qv PySem.Challenge.pw_pq1328_01) [] s && recOk [] s) true s.abs)) (fun s => (mkHook addrs).obs s.abs) (hq1 w) (hq2 w) (hq3 w)
end Mini

set_option maxHeartbeats 8000000

namespace Mini
open PySem PySem.W PySem.Calls PyProof.Rows PyProof.V PySem.Spec

noncomputable def tabV : Str → Option FDef := tabOf (qv PySem.Challenge.pw_pq1328_01)

noncomputable def PureLaw : Prop := ∀ ns : List Int, ns.length ≤ 63 → ∃ o, (interp tabV 400).C "law" [.tree (.list (ns.map .int))] = some (.ret (.tree (.bool true)), o)

theorem ints_den {b : Base} {Fz : FzM} : ∀ {vs : List Value} {ns : List Int}, IntsAre vs ns → DenL b Fz vs (ns.map .int)
  | [], [], _ => .nil
  | v :: vs, n :: ns, h => by
    cases h
    rename_i t h2
    exact .cons (.int _ _) (ints_den h2)

theorem law_call {w : World} {h : Heap} {mg mb : Str → Option Value} {loose : List Str} {mean : ExcName → Option Value} (P : PureLaw) {s : Shared} (hs : s.heap = h) {K : Frag} (F : KF K) (KX : K.In h) (T : Top (qv PySem.Challenge.pw_pq1328_01) loose mean mg mb h) {fa l : Addr} (hmg : mg "law" = some (.ref fa))
    {vs : List Value} {ns : List Int} (hl : h.get? l = some (W.listOf vs.toArray 0)) (hI : IntsAre vs ns) (hn : ns.length ≤ 63) {Q : Value → Shared → Prop} {E : Value → Shared → Prop}
    (k : ∀ h' tk, (∀ a o, s.heap.get? a = some o → h'.get? a = some o) → Q (.bool true) { s with heap := h', toks := tk }) :
    wpAny (model PySem.Challenge.rw_pq1328_01.row.prog w) callerA (call (.ref fa) [.ref l]) Q E s := by
  subst hs
  have B := baseOk (w := w) F KX T
  have S := sound (tab := tabV) B (fun f d e => fnAt_of (b := bs w s.heap mg mb) T e) 400
  obtain ⟨o, ho⟩ := P ns hn
  obtain ⟨a, ⟨ha, _⟩, c1, _⟩ := S.C _ _ _ _ ho
  have ha' : mg "law" = some (.ref a) := ha
  rw [hmg] at ha'
  cases ha'
  have rm : Room callerA 400 := ⟨rfl, by show 1 + claimMargin + 400 < 900; decide, by show 4 + 16 * 400 < 9000; decide⟩
  have d : Den (bs w s.heap mg mb) (fun a => s.heap.get? a) (.ref l) (.list (ns.map .int)) := .list (n := 0) hl (ints_den hI)
  refine NoE.any (wpAny_mono (c1 callerA (.tree (.list (ns.map .int))) [] (.ref l) [] [] (fun a => s.heap.get? a) s rfl rm (fun _ _ e => e) (fun _ _ e => e) (.tree d) (fun _ m => nomatch m) .nil) (fun v s' h' => ?_) fun _ _ x => x)
  obtain ⟨Fz', fo, St, hz, O, hf, C⟩ := h'
  obtain ⟨fv, Ov, _⟩ := C
  obtain ⟨dv, _⟩ := Ov.den
  cases dv
  obtain ⟨h2, tk, rfl⟩ := St.same
  exact k h2 tk fun a o e => St.keep a o (fun m => nomatch m) e

theorem well_list {P : Params} {h : Heap} {l : Addr} {xs : List WData} (x : Well P h (.ref l) (.list xs)) : ∃ vs : List Value, h.get? l = some (W.listOf vs.toArray 0) := by
  cases x with
  | list e _ => exact ⟨_, e⟩

theorem hopen (w : World) : (fencedOpening treeTable PySem.Challenge.pw_pq1328_01 w 6106).map (fun s => (s.heap, s.gens, s.drawn, s.toks)) = some (boot_heap w.params, Array.mk [], boot_drawn, boot_toks) :=
  boot_open (by kernel_rfl) rfl (fun s => by kernel_rfl) w

theorem hleft : LeftO PySem.Challenge.pw_pq1328_01 (qv PySem.Challenge.pw_pq1328_01) loose0 (fun s => xlAt (qv PySem.Challenge.pw_pq1328_01) [] s && recOk [] s) (mkHook addrs).obs (mkHook addrs).val 6106 true :=
  left_run hopen hsize (M := 3100) rfl hrun

theorem fin (P : PureLaw) : PySem.Challenge.rw_pq1328_01.Holds := by
  refine lawOk fun said => ?_
  refine holds_open (q := qv PySem.Challenge.pw_pq1328_01) (loose := loose0) (Xt := fun s => xlAt (qv PySem.Challenge.pw_pq1328_01) [] s && recOk [] s) (XP := XL (qv PySem.Challenge.pw_pq1328_01) []) (Yf := (mkHook addrs).obs) (Ya := (mkHook addrs).val) (YP := (mkHook addrs).says) (N := 6106)
    hleft (mkHook addrs).of (mkHook addrs).keeps (fun s e => xl_of s (Bool.and_eq_true_iff.mp e).1) XL.keeps (by rfl) (by rfl) (by rfl) (fun s e => recFacts_of (Bool.and_eq_true_iff.mp e).2) (by rfl) said (by decide +kernel) ⟨rfl, rfl, rfl, rfl, rfl, by decide +kernel⟩ ?hw ?hc
  case hw => w_witness2
  intro w s₀ s₁ mg mb G Y fa o pm cd doc dV kV ho hd hcd hD hmg hg args vals as hpre hlay hrd hwl hlo
  obtain ⟨K, F, KX⟩ := Y
  refine Ground.open G ?_
  intro T B D TE TW
  clear ho hd hcd hD
  wrow_args hpre hlay hrd hwl hlo
  rename_i ns hs1 hs2 hs3 hs4 hs5 as1 as2 l vs as3 hL ra w1 r0 hI hr hlen htt
  obtain ⟨vs', hl⟩ := well_list w1
  have hl2 := hl
  obtain ⟨oo, ho, _, n, hdat⟩ := hL
  rw [hl] at ho
  cases ho
  injection hdat with e1 e2
  have e3 : vs' = vs := by simpa using e1
  subst e3
  refine law_call P rfl F KX T hmg hl2 hI (by omega) fun h' tk hk => ?_
  refine GoodW.toG ⟨.inl ⟨.bool true, .bool true, [], rfl, fun _ => rfl, .bool true, ?_, fun _ => ⟨.nil, fun _ ha => nomatch ha⟩⟩, hk, rfl, hg⟩
  refine postW_of (X := true) (by first | rfl | kernel_rfl) ?_ rfl
  first | rfl | kernel_rfl | (show WTm.value _ _ (WTm.eq .res (.lit (.bool true))) = _; simp [WTm.value])
end Mini

namespace Mini
open PySem

theorem idx_of {i : Int} (h0 : 0 ≤ i) (h : i < 2 ^ 40) : idx i = true := by
  unfold idx
  rw [Bool.and_eq_true]
  refine ⟨decide_eq_true h0, decide_eq_true ?_⟩
  by_cases h1 : i.toNat = 0
  · rw [h1]; decide
  · exact (Nat.log2_lt h1).mpr (by omega)
noncomputable def sOk (x : Str) : Bool := x.cps.toList.all fun c => decide (c < 0x110000)
theorem sOk_ok {x : Str} (h : sOk x = true) : PyData.strOk x = true := by
  unfold PyData.strOk
  unfold sOk at h
  rw [← Array.all_toList]
  exact h
theorem eq_s (a b : Str) (h : (sOk a && sOk b) = true) : eqAV (.str a) (.str b) = some (decide (a = b)) := by
  unfold eqAV
  rw [Bool.and_eq_true] at h
  rw [if_pos (by simp [AV.eqable, sOk_ok h.1, sOk_ok h.2])]
  simp only [AV.same]
  congr 1
theorem eq_i (a b : Int) : eqAV (.int a) (.int b) = some (decide (a = b)) := by
  unfold eqAV
  rw [if_pos (by simp [AV.eqable])]
  simp only [AV.same]
  congr 1

noncomputable def IL (l : List Int) : List AV := l.map .int
theorem IL_len (l : List Int) : (IL l).length = l.length := by simp [IL]
theorem IL_app (a b : List Int) : IL (a ++ b) = IL a ++ IL b := by simp [IL]
theorem IL_snoc (l : List Int) (d : Int) : IL l ++ [AV.int d] = IL (l ++ [d]) := by simp [IL]
theorem IL_get (l : List Int) (i : Nat) : (IL l)[i]? = l[i]?.map AV.int := by simp [IL]

theorem rng_up {n : Nat} (h : n ≤ lim) : rngList 0 n 1 = some ((List.range n).map fun (i : Nat) => AV.int i) := by
  unfold rngList
  rw [if_pos ⟨by decide, by simpa using h⟩, if_pos rfl]
  congr 1
  simp
theorem rng_dn {n : Nat} (h : n ≤ lim) : rngList ((n : Int) - 1) (-1) (-1) = some ((List.range n).map fun (i : Nat) => AV.int ((n - 1 - i : Nat) : Int)) := by
  unfold rngList
  rw [if_pos ⟨by unfold lim at *; omega, by decide⟩, if_neg (by decide), if_pos rfl]
  have : (((n : Int) - 1) - -1).toNat = n := by omega
  rw [this]
  congr 1
  apply List.map_congr_left
  intro i hi
  rw [List.mem_range] at hi
  congr 1
  omega

end Mini

namespace Mini
open PySem

noncomputable def natsEq (as : List Nat) : List Nat → Bool :=
  List.rec (motive := fun _ => List Nat → Bool) (fun bs => isNil bs) (fun a _ ih bs => (match bs with
    | [] => false
    | b :: bs => (match Nat.beq a b with
      | true => ih bs
      | false => false))) as
theorem natsEq_iff (as : List Nat) : ∀ bs : List Nat, natsEq as bs = true ↔ as = bs := by
  induction as with
  | nil => intro bs; cases bs with
    | nil => exact ⟨fun _ => rfl, fun _ => rfl⟩
    | cons b bs => exact ⟨fun h => (by cases h), fun h => (by cases h)⟩
  | cons a as ih =>
    intro bs
    cases bs with
    | nil => exact ⟨fun h => (by cases h), fun h => (by cases h)⟩
    | cons b bs =>
      show (match Nat.beq a b with | true => natsEq as bs | false => false) = true ↔ _
      cases q : Nat.beq a b with
      | true => rw [Nat.eq_of_beq_eq_true q, List.cons.injEq]; exact (ih bs).trans ⟨fun h => ⟨rfl, h⟩, fun h => h.2⟩
      | false => exact ⟨fun h => (by cases h), fun h => absurd (List.cons.inj h).1 (Nat.ne_of_beq_eq_false q)⟩
noncomputable def seq (x y : Str) : Bool := natsEq x.cps.toList y.cps.toList
theorem seq_iff {x y : Str} : seq x y = true ↔ x = y := by
  refine (natsEq_iff _ _).trans ⟨fun h => ?_, fun h => by rw [h]⟩
  cases x; cases y
  exact congrArg Str.mk (Array.ext' h)
theorem seq_dec (x y : Str) : decide (x = y) = seq x y := by
  cases q : seq x y with
  | true => exact decide_eq_true (seq_iff.mp q)
  | false => exact decide_eq_false fun h => by rw [seq_iff.mpr h] at q; cases q
theorem seq_ne {x y : Str} (h : seq x y = false) : x ≠ y := fun e => by rw [seq_iff.mpr e] at h; cases h

section
variable {α : Type}
noncomputable def lk (x : Str) (l : List (Str × α)) : Option α := List.rec (motive := fun _ => Option α) none (fun p _ ih => (match seq x p.1 with
  | true => some p.2
  | false => ih)) l
theorem lk_eq (x : Str) (l : List (Str × α)) : lk x l = l.lookup x := by
  induction l with
  | nil => rfl
  | cons p l ih =>
    obtain ⟨y, v⟩ := p
    rw [List.lookup_cons]
    show (match seq x y with | true => some v | false => lk x l) = _
    rw [ih, ← seq_dec]; rfl
noncomputable def allR (f : α → Bool) (l : List α) : Bool := List.rec (motive := fun _ => Bool) true (fun a _ ih => (match f a with
  | true => ih
  | false => false)) l
theorem allR_mem {f : α → Bool} {l : List α} (h : allR f l = true) : ∀ a ∈ l, f a = true := by
  induction l with
  | nil => exact nofun
  | cons a l ih =>
    have h : (match f a with | true => allR f l | false => false) = true := h
    cases q : f a with
    | false => rw [q] at h; cases h
    | true => rw [q] at h; exact List.forall_mem_cons.mpr ⟨q, ih h⟩
end
noncomputable def hasK (x : Str) (l : List Str) : Bool := List.rec (motive := fun _ => Bool) false (fun y _ ih => (match seq x y with
  | true => true
  | false => ih)) l
theorem hasK_eq (x : Str) (l : List Str) : hasK x l = l.contains x := by
  induction l with
  | nil => rfl
  | cons y l ih =>
    rw [List.contains_cons]
    show (match seq x y with | true => true | false => hasK x l) = _
    rw [ih, ← seq_dec]
    show _ = (decide (x = y) || l.contains x)
    cases decide (x = y) <;> rfl
noncomputable def ndb (x : Str) : Bool := !(seq x "__debug__")
theorem ndb_eq (x : Str) : ndb x = notDebug x := by unfold ndb notDebug; rw [← seq_dec]; rfl
noncomputable def vK (ns : Names) (x : Str) : Bool := match lk x ns with
  | some .local => ndb x
  | some .cell => ndb x
  | _ => false
theorem vK_eq (ns : Names) (x : Str) : vK ns x = isVar ns x := by unfold vK isVar; rw [lk_eq, ndb_eq] <;> rfl
noncomputable def gK (ns : Names) (x : Str) : Bool := match lk x ns with
  | some .globalImplicit => ndb x
  | _ => false
theorem gK_eq (ns : Names) (x : Str) : gK ns x = isGlob ns x := by unfold gK isGlob; rw [lk_eq, ndb_eq] <;> rfl
noncomputable def bK (f : Str) : Bool := hasK f ["len", "range", "list", "str", "Vector", "Null", "Missing"]
noncomputable def ioK (f : Str) : Bool := hasK f ["_law_card", "named", "share", "put_shape", "put_dropped"]
theorem bK_eq (f : Str) : bK f = isBuiltin f := by
  unfold bK isBuiltin
  simp only [hasK_eq, List.contains_cons, List.contains_nil, Bool.or_false, Bool.or_assoc]
  rfl
theorem ioK_eq (f : Str) : ioK f = inout f := by
  unfold ioK inout
  simp only [hasK_eq, List.contains_cons, List.contains_nil, Bool.or_false, Bool.or_assoc]
  rfl

def Agree (ρ σ : St) : Prop := ∀ x v, lk x ρ = some v → σ.lookup x = some v
theorem Agree.nil (σ : St) : Agree [] σ := nofun
theorem Agree.self (σ : St) : Agree σ σ := fun x v h => by rw [← lk_eq]; exact h
theorem Agree.cons {ρ σ : St} {x : Str} {v : LV} (h : σ.lookup x = some v) (k : Agree ρ σ) : Agree ((x, v) :: ρ) σ := by
  intro y w e
  have e : (match seq y x with | true => some v | false => lk y ρ) = some w := e
  cases q : seq y x with
  | true => rw [q] at e; rw [← e, seq_iff.mp q]; exact h
  | false => rw [q] at e; exact k y w e
theorem Agree.put {ρ σ : St} {x : Str} {v : LV} (k : Agree ρ σ) : Agree ((x, v) :: ρ) (put σ x v) := by
  intro y w e
  have e : (match seq y x with | true => some v | false => lk y ρ) = some w := e
  rw [lookup_put]
  cases q : seq y x with
  | true => rw [q] at e; rw [if_pos (seq_iff.mp q)]; exact e
  | false => rw [q] at e; rw [if_neg (seq_ne q)]; exact k y w e
noncomputable def Sub (ρ ρ₁ : St) : Prop := List.rec (motive := fun _ => Prop) True (fun p _ ih => lk p.1 ρ = some p.2 ∧ ih) ρ₁
theorem Sub.agree {ρ σ : St} (k : Agree ρ σ) {ρ₁ : St} (h : Sub ρ ρ₁) : Agree ρ₁ σ := by
  induction ρ₁ with
  | nil => exact .nil σ
  | cons p r ih => exact .cons (k _ _ h.1) (ih h.2)
def Ends {α : Type} (F : St → Option (α × St)) (ρ : St) (a : α) (ρ' : St) : Prop := ∀ σ, Agree ρ σ → ∃ σ', F σ = some (a, σ') ∧ Agree ρ' σ'

abbrev Hint := AV × Flw × LV × St
abbrev HS := List Hint
section
variable {α β γ : Type}
noncomputable def hV (hs : HS) (K : AV → HS → Prop) : Prop := match hs with
  | [] => False
  | h :: r => (match h with
    | (a, _) => K a r)
noncomputable def hC (hs : HS) (K : Flw → LV → HS → Prop) : Prop := match hs with
  | [] => False
  | h :: r => (match h with
    | (_, f, o, _) => K f o r)
noncomputable def hF (hs : HS) (K : Flw → St → HS → Prop) : Prop := match hs with
  | [] => False
  | h :: r => (match h with
    | (_, f, _, ρ) => K f ρ r)
noncomputable def kbo (v : AV) (K : Bool → Prop) : Prop := match v with
  | .bool b => K b
  | _ => False
noncomputable def kint (a : AV) (g : Int → Prop) : Prop := match a with
  | .int i => g i
  | _ => False
noncomputable def kstr (a : AV) (g : Str → Prop) : Prop := match a with
  | .str i => g i
  | _ => False
noncomputable def klist (a : AV) (g : List AV → Prop) : Prop := match a with
  | .list i => g i
  | _ => False
noncomputable def kdict (a : AV) (g : List Str → List AV → Prop) : Prop := match a with
  | .dict i j => g i j
  | _ => False
noncomputable def hB (hs : HS) (K : Bool → HS → Prop) : Prop := hV hs fun v r => kbo v fun b => K b r
noncomputable def hL (hs : HS) (K : List AV → HS → Prop) : Prop := hV hs fun v r => klist v fun b => K b r
noncomputable def hU (hs : HS) (K : List AV → St → HS → Prop) : Prop := match hs with
  | [] => False
  | h :: r => (match h with
    | (v, _, _, ρ) => klist v fun us => K us ρ r)
noncomputable abbrev hb (c : Bool) : Hint := (.bool c, .next, .tree .none, [])
noncomputable abbrev hv (a : AV) : Hint := (a, .next, .tree .none, [])
noncomputable abbrev hls (a : List AV) : Hint := (.list a, .next, .tree .none, [])
noncomputable abbrev hu (a : List AV) (ρ : St) : Hint := (.list a, .next, .tree .none, ρ)
noncomputable abbrev hc (f : Flw) (o : LV) : Hint := (.none, f, o, [])
noncomputable abbrev hf (f : Flw) (ρ : St) : Hint := (.none, f, .tree .none, ρ)
theorem hV_e {hs : HS} {K : AV → HS → Prop} {P : Prop} (h : hV hs K) (k : ∀ a r, K a r → P) : P := by
  cases hs with
  | nil => exact h.elim
  | cons a r => exact k _ _ h
theorem hC_e {hs : HS} {K : Flw → LV → HS → Prop} {P : Prop} (h : hC hs K) (k : ∀ a b r, K a b r → P) : P := by
  cases hs with
  | nil => exact h.elim
  | cons a r => exact k _ _ _ h
theorem hF_e {hs : HS} {K : Flw → St → HS → Prop} {P : Prop} (h : hF hs K) (k : ∀ a b r, K a b r → P) : P := by
  cases hs with
  | nil => exact h.elim
  | cons a r => exact k _ _ _ h
theorem kbo_e {v : AV} {g : Bool → Prop} {P : Prop} (h : kbo v g) (k : ∀ i, v = .bool i → g i → P) : P := by cases v <;> first | exact k _ rfl h | exact h.elim
theorem kint_e {v : AV} {g : Int → Prop} {P : Prop} (h : kint v g) (k : ∀ i, v = .int i → g i → P) : P := by cases v <;> first | exact k _ rfl h | exact h.elim
theorem kstr_e {v : AV} {g : Str → Prop} {P : Prop} (h : kstr v g) (k : ∀ i, v = .str i → g i → P) : P := by cases v <;> first | exact k _ rfl h | exact h.elim
theorem klist_e {v : AV} {g : List AV → Prop} {P : Prop} (h : klist v g) (k : ∀ i, v = .list i → g i → P) : P := by cases v <;> first | exact k _ rfl h | exact h.elim
theorem kdict_e {v : AV} {g : List Str → List AV → Prop} {P : Prop} (h : kdict v g) (k : ∀ i j, v = .dict i j → g i j → P) : P := by cases v <;> first | exact k _ _ rfl h | exact h.elim
theorem hB_e {hs : HS} {K : Bool → HS → Prop} {P : Prop} (h : hB hs K) (k : ∀ a r, K a r → P) : P := hV_e h fun a r h => kbo_e h fun _ _ h => k _ _ h
theorem hL_e {hs : HS} {K : List AV → HS → Prop} {P : Prop} (h : hL hs K) (k : ∀ a r, K a r → P) : P := hV_e h fun a r h => klist_e h fun _ _ h => k _ _ h
theorem hU_e {hs : HS} {K : List AV → St → HS → Prop} {P : Prop} (h : hU hs K) (k : ∀ a b r, K a b r → P) : P := by
  cases hs with
  | nil => exact h.elim
  | cons a r => exact klist_e (show klist a.1 _ from h) fun _ _ h => k _ _ _ h

def W (x : Option (α × St)) (K : α → St → HS → Prop) : Prop := ∃ a σ' ρ' hs', x = some (a, σ') ∧ Agree ρ' σ' ∧ K a ρ' hs'
def V (x : Option α) (g : α → HS → Prop) : Prop := ∃ v hs, x = some v ∧ g v hs
noncomputable def k1 (x : Option α) (g : α → Prop) : Prop := match x with
  | some v => g v
  | none => False
noncomputable def kif (b : Bool) (P : Prop) : Prop := match b with
  | true => P
  | false => False
theorem k1_e {x : Option α} {g : α → Prop} {P : Prop} (h : k1 x g) (k : ∀ v, x = some v → g v → P) : P := by
  cases x with
  | none => exact h.elim
  | some v => exact k v rfl h
theorem kif_e {b : Bool} {P Q : Prop} (h : kif b P) (k : b = true → P → Q) : Q := by
  cases b with
  | false => exact h.elim
  | true => exact k rfl h
theorem W_some {K : α → St → HS → Prop} {v : α} {ρ σ : St} {hs : HS} (hA : Agree ρ σ) (h : K v ρ hs) : W (some (v, σ)) K := ⟨v, σ, ρ, hs, rfl, hA, h⟩
theorem V_some {K : α → HS → Prop} {v : α} {hs : HS} (h : K v hs) : V (some v) K := ⟨v, hs, rfl, h⟩
theorem W.mono {x : Option (α × St)} {K K' : α → St → HS → Prop} (h : W x K) (k : ∀ a ρ hs, K a ρ hs → K' a ρ hs) : W x K' := by
  obtain ⟨a, σ, ρ, hs, e, hA, h⟩ := h
  exact ⟨a, σ, ρ, hs, e, hA, k a ρ hs h⟩
theorem W_o2 {x : Option (α × St)} {K : β → St → HS → Prop} {G : α → St → HS → Prop} {f : α → St → Option (β × St)} (h : W x G) (k : ∀ a ρ hs σ, Agree ρ σ → G a ρ hs → W (f a σ) K) : W (o2 x f) K := by
  obtain ⟨a, σ, ρ, hs, e, hA, h⟩ := h
  subst e
  exact k a ρ hs σ hA h
theorem W_V {x : Option α} {K : β → St → HS → Prop} {G : α → HS → Prop} {f : α → Option (β × St)} (h : V x G) (k : ∀ a hs, G a hs → W (f a) K) : W (o1 x f) K := by
  obtain ⟨a, hs, e, h⟩ := h
  subst e
  exact k a hs h
theorem V_o1 {x : Option α} {K : β → HS → Prop} {G : α → HS → Prop} {f : α → Option β} (h : V x G) (k : ∀ a hs, G a hs → V (f a) K) : V (o1 x f) K := by
  obtain ⟨a, hs, e, h⟩ := h
  subst e
  exact k a hs h
theorem V_e {x : Option α} {G : α → HS → Prop} {P : Prop} (h : V x G) (k : ∀ a hs, x = some a → G a hs → P) : P := by
  obtain ⟨a, hs, e, h⟩ := h
  exact k a hs e h
theorem W_eq {x : Option α} {y : α} {K : β → St → HS → Prop} {f : α → Option (β × St)} (e : x = some y) (k : W (f y) K) : W (o1 x f) K := by subst e; exact k
theorem W_if {x : Option (β × St)} {K : β → St → HS → Prop} {p : Prop} [Decidable p] (hp : p) (h : W x K) : W (if p then x else none) K := by rw [if_pos hp]; exact h
theorem V_if {x : Option β} {K : β → HS → Prop} {p : Prop} [Decidable p] (hp : p) (h : V x K) : V (if p then x else none) K := by rw [if_pos hp]; exact h
theorem Ends.W {F : St → Option (α × St)} {ρ ρ' σ : St} {a : α} {K : α → St → HS → Prop} {hs : HS} (h : Ends F ρ a ρ') (hA : Agree ρ σ) (k : K a ρ' hs) : W (F σ) K := by
  obtain ⟨σ', e, hA'⟩ := h σ hA
  exact ⟨a, σ', ρ', hs, e, hA', k⟩
theorem W.ends {F : St → Option (α × St)} {ρ ρ' : St} {a : α} (h : ∀ σ, Agree ρ σ → W (F σ) fun b ρ2 _ => b = a ∧ Sub ρ2 ρ') : Ends F ρ a ρ' := fun σ hA => by
  obtain ⟨b, σ', ρ2, hs, e, hA', rfl, s⟩ := h σ hA
  exact ⟨σ', e, s.agree hA'⟩
end

structure KI where
  E : Names → Expr → St → HS → (LV → St → HS → Prop) → Prop
  T : Names → Expr → St → HS → (Bool → St → HS → Prop) → Prop
  B : Names → Str → List Stmt → St → HS → (Flw → St → HS → Prop) → Prop
structure KOk (I : Interp) (J : KI) : Prop where
  E : ∀ {ns e ρ hs K σ}, Agree ρ σ → J.E ns e ρ hs K → W (I.E ns e σ) K
  T : ∀ {ns e ρ hs K σ}, Agree ρ σ → J.T ns e ρ hs K → W (I.T ns e σ) K
  B : ∀ {ns fx ss ρ hs K σ}, Agree ρ σ → J.B ns fx ss ρ hs K → W (I.B ns fx ss σ) K

noncomputable def kAdd (a b : AV) (hs : HS) (g : LV → HS → Prop) : Prop := match a with
  | .int x => kint b fun y => g (.tree (.int (x + y))) hs
  | .str x => kstr b fun y => x.length + y.length ≤ 1000 ∧ g (.tree (.str (x ++ y))) hs
  | .list x => klist b fun y => x.length + y.length ≤ lim ∧ g (.mlist (x ++ y)) hs
  | _ => False
noncomputable def kBin (op : Operator) (a b : AV) (hs : HS) (g : LV → HS → Prop) : Prop := match op with
  | .Add => kAdd a b hs g
  | .Sub => kint a fun x => kint b fun y => g (.tree (.int (x - y))) hs
  | .Mult => kint a fun x => kint b fun y => (x.natAbs < 2 ^ 60 ∧ y.natAbs < 2 ^ 60) ∧ g (.tree (.int (x * y))) hs
  | .Mod => kint a fun x => kint b fun y => 0 < y ∧ g (.tree (.int (x % y))) hs
  | .FloorDiv => kint a fun x => kint b fun y => (0 < y ∧ y < 2 ^ 20) ∧ g (.tree (.int (x / y))) hs
  | _ => False
theorem kBin_ok {op : Operator} {a b : AV} {hs : HS} {g : LV → HS → Prop} (h : kBin op a b hs g) : V (opBin op a b) g := by
  cases op with
  | Add =>
    cases a with
    | int x => exact kint_e h fun i e h1 => by subst e; exact V_some h1
    | str x => exact kstr_e h fun i e h1 => by subst e; exact V_if h1.1 (V_some h1.2)
    | list x => exact klist_e h fun i e h1 => by subst e; exact V_if h1.1 (V_some h1.2)
    | _ => exact h.elim
  | Sub => exact kint_e h fun i e h1 => kint_e h1 fun j e2 h2 => by subst e e2; exact V_some h2
  | Mult => exact kint_e h fun i e h1 => kint_e h1 fun j e2 h2 => by subst e e2; exact V_if h2.1 (V_some h2.2)
  | Mod => exact kint_e h fun i e h1 => kint_e h1 fun j e2 h2 => by subst e e2; exact V_if h2.1 (V_some h2.2)
  | FloorDiv => exact kint_e h fun i e h1 => kint_e h1 fun j e2 h2 => by subst e e2; exact V_if h2.1 (V_some h2.2)
  | _ => exact h.elim

noncomputable def hEq (a b : AV) (hs : HS) (g : Bool → HS → Prop) : Prop := hB hs fun c r => eqAV a b = some c ∧ g c r
noncomputable def kEq (a b : AV) (hs : HS) (g : Bool → HS → Prop) : Prop := match a with
  | .int x => (match b with
    | .int y => hB hs fun c r => decide (x = y) = c ∧ g c r
    | b => hEq (.int x) b hs g)
  | .str x => (match b with
    | .str y => kif (sOk x && sOk y) (g (seq x y) hs)
    | b => hEq (.str x) b hs g)
  | a => hEq a b hs g
theorem hEq_ok {a b : AV} {hs : HS} {g : Bool → HS → Prop} (h : hEq a b hs g) : V (eqAV a b) g := hB_e h fun c r h => ⟨c, r, h.1, h.2⟩
theorem kEq_ok {a b : AV} {hs : HS} {g : Bool → HS → Prop} (h : kEq a b hs g) : V (eqAV a b) g := by
  cases a with
  | int x =>
    cases b with
    | int y => exact hB_e h fun c r h => ⟨c, r, by rw [eq_i, h.1], h.2⟩
    | _ => exact hEq_ok h
  | str x =>
    cases b with
    | str y =>
      exact kif_e (show kif _ _ from h) fun q h => by
        rw [eq_s _ _ q, seq_dec]; exact V_some h
    | _ => exact hEq_ok h
  | _ => exact hEq_ok h
noncomputable def kIs (f : Bool → Bool) (a b : AV) (hs : HS) (g : Bool → HS → Prop) : Prop := match b with
  | .none => g (f (isNone a)) hs
  | _ => False
noncomputable def kInt2 (f : Int → Int → Bool) (a b : AV) (hs : HS) (g : Bool → HS → Prop) : Prop := kint a fun x => kint b fun y => hB hs fun c r => f x y = c ∧ g c r
noncomputable def kIn (f : Bool → Bool) (a b : AV) (hs : HS) (g : Bool → HS → Prop) : Prop := kstr a fun x => kdict b fun ks _ => g (f (hasK x ks)) hs
noncomputable def kCmp (op : CmpOp) (a b : AV) (hs : HS) (g : Bool → HS → Prop) : Prop := match op with
  | .Is => kIs (fun x => x) a b hs g
  | .IsNot => kIs (fun x => !x) a b hs g
  | .Eq => kEq a b hs g
  | .NotEq => kEq a b hs fun c => g (!c)
  | .Lt => kInt2 (fun x y => decide (x < y)) a b hs g
  | .LtE => kInt2 (fun x y => decide (x ≤ y)) a b hs g
  | .Gt => kInt2 (fun x y => decide (y < x)) a b hs g
  | .GtE => kInt2 (fun x y => decide (y ≤ x)) a b hs g
  | .In => kIn (fun x => x) a b hs g
  | .NotIn => kIn (fun x => !x) a b hs g
theorem kIs_ok {f : Bool → Bool} {a b : AV} {hs : HS} {g : Bool → HS → Prop} (h : kIs f a b hs g) : V (isC f a b) g := by cases b <;> first | exact V_some h | exact h.elim
theorem kInt2_ok {f : Int → Int → Bool} {a b : AV} {hs : HS} {g : Bool → HS → Prop} (h : kInt2 f a b hs g) : V (int2 (fun x y => some (f x y)) a b) g :=
  kint_e h fun i e h1 => kint_e h1 fun j e2 h2 => hB_e h2 fun c r h3 => by subst e e2; exact ⟨c, r, congrArg some h3.1, h3.2⟩
theorem kIn_ok {f : Bool → Bool} {a b : AV} {hs : HS} {g : Bool → HS → Prop} (h : kIn f a b hs g) : V (inC f a b) g :=
  kstr_e h fun i e h1 => kdict_e h1 fun ks vs e2 h2 => by subst e e2; rw [hasK_eq] at h2; exact V_some h2
theorem kCmp_ok {op : CmpOp} {a b : AV} {hs : HS} {g : Bool → HS → Prop} (h : kCmp op a b hs g) : V (opCmp op a b) g := by
  cases op with
  | Is => exact kIs_ok (show kIs (fun x => x) a b hs g from h)
  | IsNot => exact kIs_ok (show kIs (fun x => !x) a b hs g from h)
  | Eq => exact kEq_ok h
  | NotEq => exact V_e (kEq_ok (show kEq a b hs (fun c => g (!c)) from h)) fun c r e h => ⟨!c, r, by show (eqAV a b).map _ = _; rw [e]; rfl, h⟩
  | Lt => exact kInt2_ok (show kInt2 (fun x y => decide (x < y)) a b hs g from h)
  | LtE => exact kInt2_ok (show kInt2 (fun x y => decide (x ≤ y)) a b hs g from h)
  | Gt => exact kInt2_ok (show kInt2 (fun x y => decide (y < x)) a b hs g from h)
  | GtE => exact kInt2_ok (show kInt2 (fun x y => decide (y ≤ x)) a b hs g from h)
  | In => exact kIn_ok (show kIn (fun x => x) a b hs g from h)
  | NotIn => exact kIn_ok (show kIn (fun x => !x) a b hs g from h)
noncomputable def kSubL (xs : List AV) (i : Int) (hs : HS) (g : AV → HS → Prop) : Prop := hV hs fun t r => subL xs i = some t ∧ g t r
noncomputable def kSub (a b : AV) (hs : HS) (g : AV → HS → Prop) : Prop := match a with
  | .list xs => kint b fun i => kSubL xs i hs g
  | .tup xs => kint b fun i => kSubL xs i hs g
  | .str s => kint b fun i => hV hs fun t r => subStr s i = some t ∧ g t r
  | .dict ks vs => kstr b fun k => hV hs fun t r => dictGet k ks vs = some t ∧ g t r
  | _ => False
theorem kSubL_ok {xs : List AV} {i : Int} {hs : HS} {g : AV → HS → Prop} (h : kSubL xs i hs g) : V (subL xs i) g := hV_e h fun t r h => ⟨t, r, h.1, h.2⟩
theorem kSub_ok {a b : AV} {hs : HS} {g : AV → HS → Prop} (h : kSub a b hs g) : V (subAV a b) g := by
  cases a with
  | list xs => exact kint_e h fun i e h1 => by subst e; exact kSubL_ok h1
  | tup xs => exact kint_e h fun i e h1 => by subst e; exact kSubL_ok h1
  | str s => exact kint_e h fun i e h1 => hV_e h1 fun t r h2 => by subst e; exact ⟨t, r, h2.1, h2.2⟩
  | dict ks vs => exact kstr_e h fun i e h1 => hV_e h1 fun t r h2 => by subst e; exact ⟨t, r, h2.1, h2.2⟩
  | _ => exact h.elim
noncomputable def kLen (a : AV) (hs : HS) (g : LV → HS → Prop) : Prop := match a with
  | .list xs => xs.length ≤ lim ∧ g (.tree (.int xs.length)) hs
  | .dict ks _ => ks.length ≤ lim ∧ g (.tree (.int ks.length)) hs
  | _ => False
noncomputable def kList (a : AV) (hs : HS) (g : LV → HS → Prop) : Prop := match a with
  | .list xs => xs.length ≤ lim ∧ g (.mlist xs) hs
  | .rng a b c => hL hs fun xs r => rngList a b c = some xs ∧ g (.mlist xs) r
  | .dict ks _ => ks.length ≤ lim ∧ g (.mlist (ks.map .str)) hs
  | _ => False
noncomputable def kStrV (a : AV) (hs : HS) (g : LV → HS → Prop) : Prop := kint a fun i => (0 ≤ i ∧ i < 10) ∧ g (.tree (.str (digit i))) hs
noncomputable def kOne (f : AV → HS → (LV → HS → Prop) → Prop) (vs : List AV) (hs : HS) (g : LV → HS → Prop) : Prop := match vs with
  | [v] => f v hs g
  | _ => False
theorem kOne_ok {f : AV → HS → (LV → HS → Prop) → Prop} {F : AV → Option LV} (hf : ∀ v hs g, f v hs g → V (F v) g) {vs : List AV} {hs : HS} {g : LV → HS → Prop} (h : kOne f vs hs g) : V (one F vs) g := by
  cases vs with
  | nil => exact h.elim
  | cons v r => cases r with
    | nil => exact hf v hs g h
    | cons _ _ => exact h.elim
theorem kLen_ok (v : AV) (hs : HS) (g : LV → HS → Prop) (h : kLen v hs g) : V (lenOf v) g := by
  cases v with
  | list xs => exact V_if h.1 (V_some h.2)
  | dict ks vs => exact V_if h.1 (V_some h.2)
  | _ => exact h.elim
theorem kList_ok (v : AV) (hs : HS) (g : LV → HS → Prop) (h : kList v hs g) : V (lstV v) g := by
  cases v with
  | list xs => exact V_if h.1 (V_some h.2)
  | rng a b c => exact hL_e h fun t r h => V_o1 (G := fun x r => g (.mlist x) r) ⟨t, r, h.1, h.2⟩ fun a r h => V_some h
  | dict ks vs => exact V_if h.1 (V_some h.2)
  | _ => exact h.elim
theorem kStrV_ok (v : AV) (hs : HS) (g : LV → HS → Prop) (h : kStrV v hs g) : V (strV v) g := kint_e h fun i e h1 => by subst e; exact V_if h1.1 (V_some h1.2)
noncomputable def kBuilt (f : Str) (vs : List AV) (hs : HS) (g : LV → HS → Prop) : Prop := match seq f "len" with
  | true => kOne kLen vs hs g
  | false => (match seq f "list" with
    | true => kOne kList vs hs g
    | false => (match seq f "str" with
      | true => kOne kStrV vs hs g
      | false => (match seq f "range" with
        | true => k1 (bRange vs) fun v => g v hs
        | false => (match seq f "Vector" with
          | true => k1 (bVector vs) fun v => g v hs
          | false => (match seq f "Null" with
            | true => k1 (bNull vs) fun v => g v hs
            | false => (match seq f "Missing" with
              | true => k1 (bMissing vs) fun v => g v hs
              | false => False))))))
theorem V_k1 {α : Type} {x : Option α} {g : α → HS → Prop} {hs : HS} (h : k1 x fun v => g v hs) : V x g := k1_e h fun v e h => ⟨v, hs, e, h⟩
theorem kBuilt_ok {f : Str} {vs : List AV} {hs : HS} {g : LV → HS → Prop} (h : kBuilt f vs hs g) : V (builtin1 f vs) g := by
  unfold kBuilt at h
  split at h
  · next q => cases seq_iff.mp q; exact kOne_ok kLen_ok h
  · split at h
    · next q => cases seq_iff.mp q; exact kOne_ok kList_ok h
    · split at h
      · next q => cases seq_iff.mp q; exact kOne_ok kStrV_ok h
      · split at h
        · next q => cases seq_iff.mp q; exact V_k1 h
        · split at h
          · next q => cases seq_iff.mp q; exact V_k1 h
          · split at h
            · next q => cases seq_iff.mp q; exact V_k1 h
            · split at h
              · next q => cases seq_iff.mp q; exact V_k1 h
              · exact h.elim
noncomputable def kIter (a : AV) (hs : HS) (g : List AV → HS → Prop) : Prop := match a with
  | .list xs => g xs hs
  | .rng a b c => hL hs fun xs r => rngList a b c = some xs ∧ g xs r
  | _ => False
theorem kIter_ok {v : AV} {hs : HS} {g : List AV → HS → Prop} (h : kIter v hs g) : V (iterOf v) g := by
  cases v with
  | list xs => exact V_some h
  | rng a b c => exact hL_e h fun t r h => ⟨t, r, h.1, h.2⟩
  | _ => exact h.elim
end Mini

namespace Mini
open PySem

noncomputable def aK (a : Str) (t : AV) : Option AV := match t with
  | .vec k i u => (match seq a "kind" with
    | true => some (.str k)
    | false => (match seq a "items" with
      | true => some i
      | false => (match seq a "attrs" with
        | true => some u
        | false => none)))
  | .null => (match seq a "kind" with
    | true => some (.str "NULL")
    | false => (match seq a "attrs" with
      | true => some .none
      | false => none))
  | .miss => (match seq a "kind" with
    | true => some (.str "missing")
    | false => (match seq a "attrs" with
      | true => some .none
      | false => none))
  | _ => none
theorem seq_if {α : Type} (a b : Str) (x y : α) : (match seq a b with | true => x | false => y) = if a = b then x else y := by
  cases q : seq a b with
  | true => rw [if_pos (seq_iff.mp q)]
  | false => rw [if_neg (seq_ne q)]
theorem aK_eq (a : Str) (t : AV) : aK a t = attrAV a t := by
  cases t with
  | vec k i u => exact (seq_if a _ _ _).trans (congrArg _ ((seq_if a _ _ _).trans (congrArg _ (seq_if a _ _ _))))
  | null => exact (seq_if a _ _ _).trans (congrArg _ (seq_if a _ _ _))
  | miss => exact (seq_if a _ _ _).trans (congrArg _ (seq_if a _ _ _))
  | _ => rfl

section
variable (I : Interp) (J : KI) (ns : Names)
noncomputable def kA (e : Expr) (ρ : St) (hs : HS) (K : AV → St → HS → Prop) : Prop := kif (plainE e) (J.E ns e ρ hs fun v => K v.frz)
noncomputable def kL (es : List Expr) : St → HS → (List AV → St → HS → Prop) → Prop := List.rec (motive := fun _ => St → HS → (List AV → St → HS → Prop) → Prop)
  (fun ρ hs K => K [] ρ hs) (fun e _ ih ρ hs K => kA J ns e ρ hs fun a ρ1 h1 => ih ρ1 h1 fun vs => K (a :: vs)) es
noncomputable def kGet (x : Str) (ρ : St) (g : LV → Prop) : Prop := kif (vK ns x) (k1 (lk x ρ) g)
noncomputable def kName (x : Str) (ρ : St) (hs : HS) (K : LV → St → HS → Prop) : Prop := kGet ns x ρ fun v => (match owned v with
  | true => K (.tree v.frz) ((x, .tree v.frz) :: ρ) hs
  | false => K v ρ hs)
noncomputable def kConst (c : Const) (ρ : St) (hs : HS) (K : LV → St → HS → Prop) : Prop := match c with
  | .none => K (.tree .none) ρ hs
  | .bool b => K (.tree (.bool b)) ρ hs
  | .int i => K (.tree (.int i)) ρ hs
  | .str s => K (.tree (.str s)) ρ hs
  | _ => False
noncomputable def kbol (v : LV) (g : Bool → Prop) : Prop := match v with
  | .tree t => kbo t g
  | _ => False
noncomputable def kOwnL (e : Expr) (ρ : St) (yes : Str → List AV → Prop) (no : Prop) : Prop := match nameOf e with
  | none => no
  | some x => (match vK ns x with
    | false => no
    | true => k1 (lk x ρ) fun v => (match ownList v with
      | some xs => yes x xs
      | none => no))
noncomputable def kCmpG (l : Expr) (op : CmpOp) (r : Expr) (ρ : St) (hs : HS) (K : LV → St → HS → Prop) : Prop := kA J ns l ρ hs fun a ρ1 h1 => kA J ns r ρ1 h1 fun b ρ2 h2 => kCmp op a b h2 fun v => K (.tree (.bool v)) ρ2
noncomputable def kCmp1 (l : Expr) (op : CmpOp) (r : Expr) (ρ : St) (hs : HS) (K : LV → St → HS → Prop) : Prop := match isEq op && isListD r with
  | true => kOwnL ns l ρ (fun _ xs => hB hs fun c r => (AV.eqable 6 (.list xs) = true ∧ AV.sameL xs [] = c) ∧ K (.tree (.bool c)) ρ r) (kCmpG J ns l op r ρ hs K)
  | false => kCmpG J ns l op r ρ hs K
noncomputable def kCmpE (l : Expr) (ops : List CmpOp) (rs : List Expr) (ρ : St) (hs : HS) (K : LV → St → HS → Prop) : Prop := match ops with
  | [op] => (match rs with
    | [r] => kCmp1 J ns l op r ρ hs K
    | _ => False)
  | _ => False
noncomputable def kTake (xs : List AV) (k : Int) (ρ : St) (hs : HS) (K : LV → St → HS → Prop) : Prop := (0 ≤ k ∧ k < 2 ^ 40 ∧ xs.length ≤ lim) ∧ K (.mlist (xs.take k.toNat)) ρ hs
noncomputable def kListOf (x : Str) (ρ : St) (g : List AV → Prop) : Prop := kGet ns x ρ fun v => k1 (ownList v) g
noncomputable def kSlice (v u : Expr) (ρ : St) (hs : HS) (K : LV → St → HS → Prop) : Prop := kOwnL ns v ρ
  (fun x _ => kA J ns u ρ hs fun a ρ1 h1 => kint a fun k => kListOf ns x ρ1 fun xs => kTake xs k ρ1 h1 K)
  (kA J ns v ρ hs fun t ρ1 h1 => klist t fun xs => kA J ns u ρ1 h1 fun a ρ2 h2 => kint a fun k => kTake xs k ρ2 h2 K)
noncomputable def kIdx (v i : Expr) (ρ : St) (hs : HS) (K : LV → St → HS → Prop) : Prop := kif (isIdx i) (kOwnL ns v ρ
  (fun x _ => kA J ns i ρ hs fun a ρ1 h1 => kint a fun k => kListOf ns x ρ1 fun ys => kSubL ys k h1 fun t => K (.tree t) ρ1)
  (kA J ns v ρ hs fun a ρ1 h1 => kA J ns i ρ1 h1 fun b ρ2 h2 => kSub a b h2 fun t => K (.tree t) ρ2))
noncomputable def kSubE (v i : Expr) (ρ : St) (hs : HS) (K : LV → St → HS → Prop) : Prop := match sliceOf i with
  | some u => kSlice J ns v u ρ hs K
  | none => kIdx J ns v i ρ hs K
noncomputable def kDict (ks : List (Option Expr)) (es : List Expr) (ρ : St) (hs : HS) (K : LV → St → HS → Prop) : Prop := match ks with
  | [ko] => k1 ko fun k => k1 (strOf k) fun k => (match es with
    | [e] => kA J ns e ρ hs fun t => K (.mdict [k] [t])
    | _ => False)
  | _ => False
noncomputable def kApp (x : Str) (e : Expr) (ρ : St) (hs : HS) (K : LV → St → HS → Prop) : Prop := kListOf ns x ρ fun _ => kA J ns e ρ hs fun t ρ1 h1 => kListOf ns x ρ1 fun ys => ys.length ≤ lim ∧ K (.tree .none) ((x, .mlist (ys ++ [t])) :: ρ1) h1
noncomputable def kPop (x : Str) (ρ : St) (hs : HS) (K : LV → St → HS → Prop) : Prop := kListOf ns x ρ fun ys => hV hs fun t r => (ys.length ≤ lim ∧ ys.getLast? = some t) ∧ K (.tree t) ((x, .mlist ys.dropLast) :: ρ) r
noncomputable def kRev (x : Str) (ρ : St) (hs : HS) (K : LV → St → HS → Prop) : Prop := kListOf ns x ρ fun ys => ys.length ≤ lim ∧ K (.tree .none) ((x, .mlist ys.reverse) :: ρ) hs
noncomputable def kMeth (x m : Str) (args : List Expr) (ρ : St) (hs : HS) (K : LV → St → HS → Prop) : Prop := match args with
  | [e] => kif (seq m "append") (kApp J ns x e ρ hs K)
  | [] => (match seq m "pop" with
    | true => kPop ns x ρ hs K
    | false => kif (seq m "reverse") (kRev ns x ρ hs K))
  | _ => False
noncomputable def kGetE (o e : Expr) (ρ : St) (hs : HS) (K : LV → St → HS → Prop) : Prop := kA J ns o ρ hs fun t ρ1 h1 => kdict t fun ks vs => kA J ns e ρ1 h1 fun u ρ2 h2 => kstr u fun k => hV h2 fun t r => (dictGet k ks vs).getD .none = t ∧ K (.tree t) ρ2 r
noncomputable def kAcall (o : Expr) (m : Str) (apos : Pos) (args : List Expr) (pos : Pos) (ρ : St) (hs : HS) (K : LV → St → HS → Prop) : Prop := kif (apos.endLine == pos.line) (match nameOf o with
  | some x => kMeth J ns x m args ρ hs K
  | none => (match args with
    | [e] => kif (seq m "get") (kif (notSuper o) (kGetE J ns o e ρ hs K))
    | _ => False))
noncomputable def kIsinst (args : List Expr) (ρ : St) (hs : HS) (K : LV → St → HS → Prop) : Prop := match args with
  | [a, b] => k1 (nameOf a) fun x => k1 (nameOf b) fun c => kif (seq c "Vector") (kif (gK ns c) (kGet ns x ρ fun v => kif (isVecL v) (K (.tree (.bool true)) ρ hs)))
  | _ => False
noncomputable def kCC (f : Str) (args : List LV) (hs : HS) (K : Flw → LV → HS → Prop) : Prop := hC hs fun fl o r => I.C f args = some (fl, o) ∧ K fl o r
noncomputable def kInName (f x : Str) (rest : List Expr) (ρ : St) (hs : HS) (K : LV → St → HS → Prop) : Prop := kL J ns rest ρ hs fun vs ρ1 h1 => kGet ns x ρ1 fun v => kif (owned v) (kCC I f (v :: vs.map .tree) h1 fun fl o => (match fl with
  | .retv _ _ => K (.tree o.frz) ((x, .tree o.frz) :: ρ1)
  | .ret r => K r ((x, o) :: ρ1)
  | .next => K (.tree .none) ((x, o) :: ρ1)
  | .brk => fun _ => False))
noncomputable def kInTemp (f : Str) (e : Expr) (rest : List Expr) (ρ : St) (hs : HS) (K : LV → St → HS → Prop) : Prop := kif (plainE e) (J.E ns e ρ hs fun v ρ0 h0 => kif (owned v) (kL J ns rest ρ0 h0 fun vs ρ1 h1 => kCC I f (v :: vs.map .tree) h1 fun fl o => (match fl with
  | .retv _ _ => K o ρ1
  | .ret r => K r ρ1
  | .next => K (.tree .none) ρ1
  | .brk => fun _ => False)))
noncomputable def kOwned (e : Expr) (ρ : St) (yes : Str → LV → Prop) (no : Prop) : Prop := match nameOf e with
  | none => no
  | some x => (match vK ns x with
    | false => no
    | true => k1 (lk x ρ) fun v => (match owned v with
      | true => yes x v
      | false => no))
noncomputable def kUser (f : Str) (args : List Expr) (ρ : St) (hs : HS) (K : LV → St → HS → Prop) : Prop := kL J ns args ρ hs fun vs ρ1 h1 => kCC I f (vs.map .tree) h1 fun fl _ => (match fl with
  | .ret r => K r ρ1
  | .next => K (.tree .none) ρ1
  | .retv _ _ => fun _ => False
  | .brk => fun _ => False)
noncomputable def kInout (f : Str) (args : List Expr) (ρ : St) (hs : HS) (K : LV → St → HS → Prop) : Prop := match args with
  | [] => False
  | e :: rest => kOwned ns e ρ (fun x _ => kInName I J ns f x rest ρ hs K) (kInTemp I J ns f e rest ρ hs K)
noncomputable def kCall (f : Str) (args : List Expr) (ρ : St) (hs : HS) (K : LV → St → HS → Prop) : Prop := match seq f "isinstance" with
  | true => kIsinst ns args ρ hs K
  | false => (match bK f with
    | true => kL J ns args ρ hs fun vs ρ1 h1 => kBuilt f vs h1 fun r => K r ρ1
    | false => (match ioK f with
      | true => kInout I J ns f args ρ hs K
      | false => kUser I J ns f args ρ hs K))
noncomputable def kCallX (f : Expr) (args : List Expr) (kw : List Keyword) (pos : Pos) (ρ : St) (hs : HS) (K : LV → St → HS → Prop) : Prop := match kw with
  | [] => (match f with
    | .Name f _ => kif (gK ns f) (kif (Nat.blt args.length 10) (kCall I J ns f args ρ hs K))
    | .Attribute o m apos => kAcall J ns o m apos args pos ρ hs K
    | _ => False)
  | _ => False
noncomputable def fK (sc : Scope) (x : Str) : Bool := match lk x sc.names with
  | some .free => (match lk x ns with
    | some .cell => true
    | _ => false)
  | _ => false
noncomputable def kComp (elt : Expr) (gens : List Comprehension) (sc : Scope) (ρ : St) (hs : HS) (K : LV → St → HS → Prop) : Prop := match gens with
  | [] => False
  | g :: _ => (scopeOk sc ns = true ∧ gensOk sc gens = true) ∧ kA J ns g.iter ρ hs fun t ρ1 h1 => kIter t h1 fun its h2 => hU h2 fun us ρ2 h3 =>
    kif (allR (fun p => fK ns sc p.1 && (lk p.1 ρ1).isSome) ρ2) (kif (allR (fun p => p.2 != .free || (lk p.1 ρ2).isSome) sc.names)
      (Ends (compIn I (compNames sc) elt gens its) (ρ1.filter fun p => fK ns sc p.1) us ρ2 ∧ us.length ≤ lim ∧ K (.mlist us) (ρ2 ++ ρ1) h3))
noncomputable def kBinE (l : Expr) (op : Operator) (r : Expr) (ρ : St) (hs : HS) (K : LV → St → HS → Prop) : Prop := kA J ns l ρ hs fun a ρ1 h1 => kA J ns r ρ1 h1 fun b ρ2 h2 => kBin op a b h2 fun v => K v ρ2
noncomputable def kAndE (a b : Expr) (ρ : St) (hs : HS) (K : LV → St → HS → Prop) : Prop := J.E ns a ρ hs fun v ρ1 h1 => kbol v fun c => (match c with
  | true => J.E ns b ρ1 h1 K
  | false => K (.tree (.bool false)) ρ1 h1)
noncomputable def kNeg (x : Expr) (ρ : St) (hs : HS) (K : LV → St → HS → Prop) : Prop := kA J ns x ρ hs fun a ρ1 h1 => kint a fun i => K (.tree (.int (-i))) ρ1 h1
noncomputable def kIfE (t b o : Expr) (ρ : St) (hs : HS) (K : LV → St → HS → Prop) : Prop := J.T ns t ρ hs fun c ρ1 h1 => (match c with
  | true => J.E ns b ρ1 h1 K
  | false => J.E ns o ρ1 h1 K)
noncomputable def kListE (es : List Expr) (ρ : St) (hs : HS) (K : LV → St → HS → Prop) : Prop := kL J ns es ρ hs fun vs ρ1 h1 => kif (Nat.ble vs.length lim) (K (.mlist vs) ρ1 h1)
noncomputable def kTupE (es : List Expr) (ρ : St) (hs : HS) (K : LV → St → HS → Prop) : Prop := kL J ns es ρ hs fun vs ρ1 h1 => kif (Nat.ble vs.length lim) (K (.tree (.tup vs)) ρ1 h1)
noncomputable def kAttrE (v : Expr) (a : Str) (ρ : St) (hs : HS) (K : LV → St → HS → Prop) : Prop := kif (notSuper v) (kA J ns v ρ hs fun t ρ1 h1 => k1 (aK a t) fun u => K (.tree u) ρ1 h1)
noncomputable def kE (e : Expr) (ρ : St) (hs : HS) (K : LV → St → HS → Prop) : Prop := match e with
  | .Constant c _ _ => kConst c ρ hs K
  | .Name x _ => kName ns x ρ hs K
  | .BinOp l op r _ => kBinE J ns l op r ρ hs K
  | .BoolOp op es _ => (match op with
    | .Or => False
    | .And => (match es with
      | [a, b] => kAndE J ns a b ρ hs K
      | _ => False))
  | .UnaryOp op x _ => (match op with
    | .USub => kNeg J ns x ρ hs K
    | _ => False)
  | .Compare l ops rs _ => kCmpE J ns l ops rs ρ hs K
  | .IfExp t b o _ => kIfE J ns t b o ρ hs K
  | .List es _ => kListE J ns es ρ hs K
  | .Tuple es _ _ => kTupE J ns es ρ hs K
  | .Dict ks es _ => (match ks with
    | [] => (match es with
      | [] => K (.mdict [] []) ρ hs
      | _ => False)
    | _ => kDict J ns ks es ρ hs K)
  | .Subscript v i _ => kSubE J ns v i ρ hs K
  | .Attribute v a _ => kAttrE J ns v a ρ hs K
  | .Call f args kw pos => kCallX I J ns f args kw pos ρ hs K
  | .ListComp elt gens sc _ => kComp I J ns elt gens sc ρ hs K
  | _ => False
end

section
variable (I : Interp) (J : KI) (ns : Names)
noncomputable def kVal (e : Expr) (ρ : St) (hs : HS) (K : Bool → St → HS → Prop) : Prop := kif (tOk e) (J.E ns e ρ hs fun v ρ1 h1 => kbol v fun b => K b ρ1 h1)
noncomputable def kAll (op : BoolOp) (es : List Expr) : St → HS → (Bool → St → HS → Prop) → Prop := List.rec (motive := fun _ => St → HS → (Bool → St → HS → Prop) → Prop)
  (fun ρ hs K => K (isAnd op) ρ hs) (fun e _ ih ρ hs K => J.T ns e ρ hs fun b ρ1 h1 => (match goOn op b with
    | true => ih ρ1 h1 K
    | false => K b ρ1 h1)) es
noncomputable def kT (e : Expr) (ρ : St) (hs : HS) (K : Bool → St → HS → Prop) : Prop := match e with
  | .UnaryOp op x p => (match isNot op with
    | true => J.T ns x ρ hs fun b => K (!b)
    | false => kVal J ns (.UnaryOp op x p) ρ hs K)
  | .BoolOp op es _ => kAll J ns op es ρ hs K
  | e => kVal J ns e ρ hs K
noncomputable def kEv (e : Expr) (ρ : St) (hs : HS) (K : LV → St → HS → Prop) : Prop := match e with
  | .ListComp elt gens sc _ => kComp I J ns elt gens sc ρ hs K
  | e => J.E ns e ρ hs K
noncomputable def kvec (u : LV) (g : Str → AV → AV → Prop) : Prop := match u with
  | .mvec k i t => g k i t
  | _ => False
noncomputable def kmd (u : LV) (g : List Str → List AV → Prop) : Prop := match u with
  | .mdict k i => g k i
  | _ => False
noncomputable def kti (u : LV) (g : Int → Prop) : Prop := match u with
  | .tree t => kint t g
  | _ => False
noncomputable def kAst (x a : Str) (v : LV) (ρ : St) (hs : HS) (K : Flw → St → HS → Prop) : Prop := kGet ns x ρ fun u => kvec u fun k i t => (match seq a "attrs" with
  | true => kmd v fun ks vs => K .next ((x, .mvec k i (.dict ks vs)) :: ρ) hs
  | false => kif (seq a "shared") (kbol v fun _ => K .next ((x, .mvec k i t) :: ρ) hs))
noncomputable def kKey (x key : Str) (v : AV) (ρ : St) (hs : HS) (K : Flw → St → HS → Prop) : Prop := kGet ns x ρ fun u => kvec u fun k i t => kdict t fun ks vs => kif (Nat.blt ks.length 100) (kif (!(hasK key ks)) (K .next ((x, .mvec k i (.dict (ks ++ [key]) (vs ++ [v]))) :: ρ) hs))
noncomputable def kTgt (fx : Str) (t e : Expr) (ρ : St) (hs : HS) (K : Flw → St → HS → Prop) : Prop := match t with
  | .Name x _ => kif (vK ns x) (kif (!(seq x fx)) (kif (plainE e) (kEv I J ns e ρ hs fun v ρ1 h1 => K .next ((x, v) :: ρ1) h1)))
  | .Attribute o a _ => k1 (nameOf o) fun x => kif (plainE e) (kif (!(isComp e)) (J.E ns e ρ hs fun v ρ1 h1 => kAst ns x a v ρ1 h1 K))
  | .Subscript o i _ => k1 (dotOf o) fun p => k1 (strOf i) fun key => kif (seq p.2 "attrs") (kif (!(isComp e)) (kA J ns e ρ hs fun v ρ1 h1 => kKey ns p.1 key v ρ1 h1 K))
  | _ => False
noncomputable def hdS (ss : List Stmt) : Stmt := match ss with
  | s :: _ => s
  | [] => .Break ⟨0, 0, 0, 0⟩
noncomputable def tlS (ss : List Stmt) : List Stmt := match ss with
  | _ :: r => r
  | [] => []
noncomputable def bodyS (s : Stmt) : List Stmt := match s with
  | .For _ _ b _ _ => b
  | .If _ b _ _ => b
  | _ => []
noncomputable def elseS (s : Stmt) : List Stmt := match s with
  | .If _ _ o _ => o
  | _ => []
noncomputable def dOf (d : Option FDef) : FDef := match d with
  | some d => d
  | none => ⟨[], [], default⟩
noncomputable def kS (fx : Str) (st : Stmt) (ρ : St) (hs : HS) (K : Flw → St → HS → Prop) : Prop := match st with
  | .Assign ts e _ => (match ts with
    | [t] => kTgt I J ns fx t e ρ hs K
    | _ => False)
  | .AugAssign t op e _ => k1 (nameOf t) fun x => kif (isAdd op) (kif (!(seq x fx)) (kGet ns x ρ fun u => kti u fun a => kA J ns e ρ hs fun v ρ1 h1 => kint v fun b => K .next ((x, .tree (.int (a + b))) :: ρ1) h1))
  | .Expr e _ => kif (plainE e) (kif (!(isComp e)) (J.E ns e ρ hs fun _ ρ1 h1 => K .next ρ1 h1))
  | .If t _ _ _ => J.T ns t ρ hs fun c ρ1 h1 => (match c with
    | true => J.B ns fx (bodyS st) ρ1 h1 K
    | false => J.B ns fx (elseS st) ρ1 h1 K)
  | .For t it _ els _ => k1 (nameOf t) fun x => kif (isNil els) (kif (vK ns x) (kif (!(seq x fx)) (kA J ns it ρ hs fun t ρ1 h1 => kIter t h1 fun its h2 => hF h2 fun fl ρ2 r =>
      Ends (forL (I.B ns fx (bodyS st)) x its) ρ1 fl ρ2 ∧ K fl ρ2 r)))
  | .Return eo _ => (match eo with
    | none => K (.ret (.tree .none)) ρ hs
    | some e => kOwned ns e ρ (fun x v => K (.retv x v) ρ hs) (J.E ns e ρ hs fun v => K (.ret v)))
  | .Break _ => K .brk ρ hs
  | _ => False
noncomputable abbrev hk (ρ : St) : Hint := (.none, .brk, .tree .none, ρ)
noncomputable abbrev hsk : Hint := (.miss, .brk, .tree .none, [])
noncomputable def isMiss (a : AV) : Bool := match a with
  | .miss => true
  | _ => false
noncomputable def cutOf (hs : HS) (yes : St → HS → Prop) (no : HS → Prop) : Prop := match hs with
  | [] => no []
  | h :: r => (match isBrk h.2.1 with
    | true => (match isMiss h.1 with
      | true => no r
      | false => yes h.2.2.2 r)
    | false => no (h :: r))
noncomputable def kSt (fx : Str) (st : Stmt) (ρ : St) (hs : HS) (K : Flw → St → HS → Prop) : Prop := cutOf hs (fun ρ2 r => Ends (stepS I ns fx st) ρ .next ρ2 ∧ K .next ρ2 r) fun hs => kS I J ns fx st ρ hs K
noncomputable def kB (fx : Str) (ss : List Stmt) : List Stmt → St → HS → (Flw → St → HS → Prop) → Prop := List.rec (motive := fun _ => List Stmt → St → HS → (Flw → St → HS → Prop) → Prop)
  (fun _ ρ hs K => K .next ρ hs) (fun _ _ ih gs ρ hs K => kSt I J ns fx (hdS gs) ρ hs fun f ρ1 h1 => (match f with
    | .next => ih (tlS gs) ρ1 h1 K
    | f => K f ρ1 h1)) ss
end
noncomputable def kstep (I : Interp) (J : KI) : KI where
  E := fun ns e => kE I J ns e
  T := fun ns e => kT J ns e
  B := fun ns fx ss => kB I J ns fx ss ss
noncomputable def kin (m : Nat) (k : Nat) : KI := Nat.rec (motive := fun _ => KI) ⟨fun _ _ _ _ _ => False, fun _ _ _ _ _ => False, fun _ _ _ _ _ _ => False⟩ (fun k J => kstep (interp tabV (m + k)) J) k
noncomputable def kD (J : KI) (d : FDef) (args : List LV) (hs : HS) (X : Flw) (Y : LV) : Prop := match d.params with
  | [] => kif (isNil args) (J.B d.scope.names "" d.body [] hs fun fl _ _ => kif (!(isBrk fl)) (endC "" fl = X ∧ .tree .none = Y))
  | p :: r => kif (Nat.beq args.length (p :: r).length) (J.B d.scope.names p d.body ((p :: r).zip args) hs fun fl ρ _ => kif (!(isBrk fl)) (k1 (lk p ρ) fun v => endC p fl = X ∧ v = Y))
noncomputable def kF (J : KI) (f : Str) (args : List LV) (hs : HS) (X : Flw) (Y : LV) : Prop := kif (tabV f).isSome (kD J (dOf (tabV f)) args hs X Y)
end Mini

namespace Mini
open PySem

section
variable {I : Interp} {J : KI} (H : KOk I J) {ns : Names} {ρ σ : St} {hs : HS} (hA : Agree ρ σ)
include H hA
theorem kA_ok {e : Expr} {K : AV → St → HS → Prop} (h : kA J ns e ρ hs K) : W (evE I ns e σ) K :=
  kif_e h fun q h => W_if q (W_o2 (H.E hA h) fun a ρ hs σ hA h => W_some hA h)
omit hA in
theorem kL_ok (es : List Expr) : ∀ {ρ σ : St} {hs : HS}, Agree ρ σ → ∀ {K : List AV → St → HS → Prop}, kL J ns es ρ hs K → W (evArgs I ns es σ) K := by
  induction es with
  | nil => exact fun hA _ h => W_some hA h
  | cons e es ih => exact fun {ρ σ hs} hA K h => W_o2 (kA_ok H hA (show kA J ns e ρ hs (fun a ρ1 h1 => kL J ns es ρ1 h1 fun vs => K (a :: vs)) from h)) fun a ρ hs σ hA h => W_o2 (ih hA h) fun a ρ hs σ hA h => W_some hA h
omit H
theorem kGet_e {x : Str} {g : LV → Prop} {P : Prop} (h : kGet ns x ρ g) (k : ∀ v, getV ns σ x = some v → lk x ρ = some v → g v → P) : P :=
  kif_e h fun q h => k1_e h fun v e h => k v (by unfold getV; rw [if_pos (by rw [← vK_eq]; exact q)]; exact hA x v e) e h
theorem kName_ok {x : Str} {K : LV → St → HS → Prop} (h : kName ns x ρ hs K) : W (nameE ns x σ) K :=
  kGet_e hA h fun v e _ h => W_eq e (by
    cases q : owned v with
    | true => rw [q] at h; exact W_some hA.put h
    | false => rw [q] at h; exact W_some hA h)
theorem kConst_ok {c : Const} {K : LV → St → HS → Prop} (h : kConst c ρ hs K) : W (constE c σ) K := by
  cases c <;> first | exact W_some hA h | exact h.elim
theorem kListOf_e {x : Str} {g : List AV → Prop} {P : Prop} (h : kListOf ns x ρ g) (k : ∀ v xs, getV ns σ x = some v → ownList v = some xs → g xs → P) : P :=
  kGet_e hA h fun v e _ h => k1_e h fun xs e2 h => k v xs e e2 h
theorem kOwnL_e {e : Expr} {yes : Str → List AV → Prop} {no P : Prop} (h : kOwnL ns e ρ yes no) (k1 : ∀ x xs, ownL ns σ e = some (x, xs) → yes x xs → P) (k2 : ownL ns σ e = none → no → P) : P := by
  unfold kOwnL at h
  unfold ownL at k1 k2
  cases q : nameOf e with
  | none => rw [q] at h k2; exact k2 rfl h
  | some x =>
    rw [q] at h k1 k2
    dsimp only at h
    cases q2 : vK ns x with
    | false =>
      rw [q2] at h
      exact k2 (by show o1 (getV ns σ x) _ = _; unfold getV; rw [← vK_eq, q2]; rfl) h
    | true =>
      rw [q2] at h
      refine k1_e h fun v e h => ?_
      have g : getV ns σ x = some v := by unfold getV; rw [← vK_eq, q2]; exact hA x v e
      cases q3 : ownList v with
      | none => rw [q3] at h; exact k2 (by show o1 (getV ns σ x) _ = _; rw [g]; show o1 (ownList v) _ = _; rw [q3]; rfl) h
      | some xs => rw [q3] at h; exact k1 x xs (by show o1 (getV ns σ x) _ = _; rw [g]; show o1 (ownList v) _ = _; rw [q3]; rfl) h
theorem kTake_ok {xs : List AV} {k : Int} {K : LV → St → HS → Prop} (h : kTake xs k ρ hs K) : W (takeE xs k σ) K := W_if h.1 (W_some hA h.2)
theorem kOwned_e {e : Expr} {yes : Str → LV → Prop} {no P : Prop} (h : kOwned ns e ρ yes no) (k1 : ∀ x v, ownNamed ns σ e = some (x, v) → yes x v → P) (k2 : ownNamed ns σ e = none → no → P) : P := by
  unfold kOwned at h
  unfold ownNamed at k1 k2
  cases q : nameOf e with
  | none => rw [q] at h k2; exact k2 rfl h
  | some x =>
    rw [q] at h k1 k2
    dsimp only at h
    cases q2 : vK ns x with
    | false =>
      rw [q2] at h
      exact k2 (by show o1 (getV ns σ x) _ = _; unfold getV; rw [← vK_eq, q2]; rfl) h
    | true =>
      rw [q2] at h
      refine k1_e h fun v e h => ?_
      have g : getV ns σ x = some v := by unfold getV; rw [← vK_eq, q2]; exact hA x v e
      cases q3 : owned v with
      | false => rw [q3] at h; exact k2 (by show o1 (getV ns σ x) _ = _; rw [g]; show (match owned v with | true => _ | false => _) = _; rw [q3]) h
      | true => rw [q3] at h; exact k1 x v (by show o1 (getV ns σ x) _ = _; rw [g]; show (match owned v with | true => _ | false => _) = _; rw [q3]) h
theorem kIsinst_ok {args : List Expr} {K : LV → St → HS → Prop} (h : kIsinst ns args ρ hs K) : W (isinstE ns σ args) K := by
  match args, h with
  | [a, b], h =>
    exact k1_e (show k1 _ _ from h) fun x e h => k1_e h fun c e2 h => W_eq e (W_eq e2 (kif_e h fun q h => kif_e h fun q2 h => W_if ⟨seq_iff.mp q, by rw [← gK_eq]; exact q2⟩ (kGet_e hA h fun v e _ h => W_eq e (kif_e h fun q h => by
      rw [q]; exact W_some hA h))))
theorem kPop_ok {x : Str} {K : LV → St → HS → Prop} (h : kPop ns x ρ hs K) : W (popE ns x σ) K :=
  kListOf_e hA h fun v xs e e2 h => hV_e h fun t r h => W_eq e (W_eq e2 (W_if h.1.1 (W_eq h.1.2 (W_some hA.put h.2))))
theorem kRev_ok {x : Str} {K : LV → St → HS → Prop} (h : kRev ns x ρ hs K) : W (revE ns x σ) K :=
  kListOf_e hA h fun v xs e e2 h => W_eq e (W_eq e2 (W_if h.1 (W_some hA.put h.2)))
include H
theorem kCmpG_ok {l : Expr} {op : CmpOp} {r : Expr} {K : LV → St → HS → Prop} (h : kCmpG J ns l op r ρ hs K) : W (cmpG I ns l op r σ) K :=
  W_o2 (kA_ok H hA h) fun a ρ hs σ hA h => W_o2 (kA_ok H hA h) fun b ρ hs σ hA h => W_V (kCmp_ok h) fun c hs h => W_some hA h
theorem kCmp1_ok {l : Expr} {op : CmpOp} {r : Expr} {K : LV → St → HS → Prop} (h : kCmp1 J ns l op r ρ hs K) : W (cmp1 I ns l op r σ) K := by
  unfold kCmp1 at h
  unfold cmp1
  cases q : isEq op && isListD r with
  | false => rw [q] at h; exact kCmpG_ok H hA h
  | true =>
    rw [q] at h
    refine kOwnL_e hA h (fun x xs e h => ?_) (fun e h => ?_)
    · refine hB_e h fun c r h => ?_
      rw [e]
      exact W_if h.1.1 (by rw [h.1.2]; exact W_some hA h.2)
    · rw [e]; exact kCmpG_ok H hA h
theorem kSlice_ok {v u : Expr} {K : LV → St → HS → Prop} (h : kSlice J ns v u ρ hs K) : W (sliceE I ns v u σ) K := by
  unfold sliceE
  refine kOwnL_e hA h (fun x xs e h => ?_) (fun e h => ?_)
  · rw [e]
    exact W_o2 (kA_ok H hA h) fun a ρ hs σ hA h => kint_e h fun i e h1 => by
      subst e
      exact kListOf_e hA h1 fun v xs e e2 h2 => W_eq rfl (W_eq e (W_eq e2 (kTake_ok hA h2)))
  · rw [e]
    exact W_o2 (kA_ok H hA h) fun a ρ hs σ hA h => klist_e h fun i e h1 => by
      subst e
      exact W_eq rfl (W_o2 (kA_ok H hA h1) fun a ρ hs σ hA h2 => kint_e h2 fun i e h3 => by
        subst e
        exact W_eq rfl (kTake_ok hA h3))
theorem kIdx_ok {v u : Expr} {K : LV → St → HS → Prop} (h : kIdx J ns v u ρ hs K) : W (idxE I ns v u σ) K := by
  refine kif_e h fun q h => W_if q ?_
  refine kOwnL_e hA h (fun x xs e h => ?_) (fun e h => ?_)
  · rw [e]
    exact W_o2 (kA_ok H hA h) fun a ρ hs σ hA h => kint_e h fun i e h1 => by
      subst e
      exact kListOf_e hA h1 fun v xs e e2 h2 => W_eq rfl (W_eq e (W_eq e2 (W_V (kSubL_ok h2) fun t hs h => W_some hA h)))
  · rw [e]
    exact W_o2 (kA_ok H hA h) fun a ρ hs σ hA h => W_o2 (kA_ok H hA h) fun b ρ hs σ hA h => W_V (kSub_ok h) fun t hs h => W_some hA h
theorem kSubE_ok {v u : Expr} {K : LV → St → HS → Prop} (h : kSubE J ns v u ρ hs K) : W (subE I ns v u σ) K := by
  unfold kSubE at h
  unfold subE
  cases q : sliceOf u with
  | none => rw [q] at h; exact kIdx_ok H hA h
  | some w => rw [q] at h; exact kSlice_ok H hA h
theorem kDict_ok {ks : List (Option Expr)} {es : List Expr} {K : LV → St → HS → Prop} (h : kDict J ns ks es ρ hs K) : W (dictE I ns ks es σ) K := by
  match ks, h with
  | [ko], h =>
    exact k1_e (show k1 _ _ from h) fun x e h => k1_e h fun c e2 h => W_eq e (W_eq e2 (by
      match es, h with
      | [e], h => exact W_o2 (kA_ok H hA h) fun a ρ hs σ hA h => W_some hA h))
theorem kApp_ok {x : Str} {e : Expr} {K : LV → St → HS → Prop} (h : kApp J ns x e ρ hs K) : W (appE I ns x e σ) K :=
  kListOf_e hA h fun v xs e e2 h => W_eq e (W_eq e2 (W_o2 (kA_ok H hA h) fun a ρ hs σ hA h => kListOf_e hA h fun v xs e e2 h => W_eq e (W_eq e2 (W_if h.1 (W_some hA.put h.2)))))
theorem kMeth_ok {x m : Str} {args : List Expr} {K : LV → St → HS → Prop} (h : kMeth J ns x m args ρ hs K) : W (methE I ns x m args σ) K := by
  match args, h with
  | [e], h => exact kif_e h fun q h => W_if (seq_iff.mp q) (kApp_ok H hA h)
  | [], h =>
    have h : (match seq m "pop" with | true => kPop ns x ρ hs K | false => kif (seq m "reverse") (kRev ns x ρ hs K)) := h
    show W (if m = "pop" then _ else _) K
    rw [← seq_if]
    cases q : seq m "pop" with
    | true => rw [q] at h; exact kPop_ok hA h
    | false => rw [q] at h; exact kif_e h fun q h => W_if (seq_iff.mp q) (kRev_ok hA h)
theorem kGetE_ok {o e : Expr} {K : LV → St → HS → Prop} (h : kGetE J ns o e ρ hs K) : W (getE I ns o e σ) K :=
  W_o2 (kA_ok H hA h) fun a ρ hs σ hA h => kdict_e h fun ks vs e h1 => by
    subst e
    exact W_o2 (K := K) (f := fun u σ₂ => (o1 (asStr u) fun k => some (LV.tree ((dictGet k ks vs).getD .none), σ₂))) (kA_ok H hA h1) fun a ρ hs σ hA h2 => kstr_e h2 fun i e h3 => hV_e h3 fun t r h4 => by
      subst e
      exact W_some hA (show K (.tree ((dictGet i ks vs).getD .none)) ρ r by rw [h4.1]; exact h4.2)
theorem kAcall_ok {o : Expr} {m : Str} {ap : Pos} {args : List Expr} {pos : Pos} {K : LV → St → HS → Prop} (h : kAcall J ns o m ap args pos ρ hs K) : W (acallE I ns o m ap args pos σ) K := by
  refine kif_e h fun q h => ?_
  unfold acallE
  cases q2 : nameOf o with
  | some x => rw [q2] at h; exact W_if q (kMeth_ok H hA h)
  | none =>
    rw [q2] at h
    match args, h with
    | [e], h => exact kif_e h fun q3 h => kif_e h fun q4 h => W_if ⟨seq_iff.mp q3, q, q4⟩ (kGetE_ok H hA h)
end

section
variable {I : Interp} {J : KI} (H : KOk I J) {ns : Names} {ρ σ : St} {hs : HS} (hA : Agree ρ σ)
theorem kCC_e {f : Str} {args : List LV} {K : Flw → LV → HS → Prop} {P : Prop} (h : kCC I f args hs K) (k : ∀ fl o r, I.C f args = some (fl, o) → K fl o r → P) : P := hC_e h fun fl o r h => k fl o r h.1 h.2
theorem W_o2e {α β γ : Type} {x : Option (α × β)} {a : α} {b : β} {f : α → β → Option (γ × St)} {K : γ → St → HS → Prop} (e : x = some (a, b)) (k : W (f a b) K) : W (o2 x f) K := by subst e; exact k
include H hA
theorem kInName_ok {f x : Str} {rest : List Expr} {K : LV → St → HS → Prop} (h : kInName I J ns f x rest ρ hs K) : W (inoutName I ns f x rest σ) K :=
  W_o2 (kL_ok H rest hA h) fun vs ρ hs σ hA h => kGet_e hA h fun v e _ h => W_eq e (kif_e h fun q h => W_if q (kCC_e h fun fl o r e h => W_o2e e (by
    cases fl with
    | retv y v => exact W_some hA.put h
    | ret v => exact W_some hA.put h
    | next => exact W_some hA.put h
    | brk => exact h.elim)))
theorem kInTemp_ok {f : Str} {e : Expr} {rest : List Expr} {K : LV → St → HS → Prop} (h : kInTemp I J ns f e rest ρ hs K) : W (inoutTemp I ns f e rest σ) K :=
  kif_e h fun q0 h => W_o2 (H.E hA h) fun v ρ hs σ hA h => kif_e h fun q h => W_if ⟨q, q0⟩ (W_o2 (kL_ok H rest hA h) fun vs ρ hs σ hA h => kCC_e h fun fl o r e h => W_o2e e (by
    cases fl with
    | retv y v => exact W_some hA h
    | ret v => exact W_some hA h
    | next => exact W_some hA h
    | brk => exact h.elim))
theorem kInout_ok {f : Str} {e : Expr} {rest : List Expr} {K : LV → St → HS → Prop} (h : kInout I J ns f (e :: rest) ρ hs K) : W (inoutE I ns f e rest σ) K := by
  unfold inoutE
  refine kOwned_e hA h (fun x v e h => ?_) (fun e h => ?_)
  · rw [e]; exact kInName_ok H hA h
  · rw [e]; exact kInTemp_ok H hA h
theorem kUser_ok {f : Str} {args : List Expr} {K : LV → St → HS → Prop} (h : kUser I J ns f args ρ hs K) : W (userE I ns f args σ) K :=
  W_o2 (kL_ok H args hA h) fun vs ρ hs σ hA h => kCC_e h fun fl o r e h => W_o2e e (by
    cases fl with
    | ret v => exact W_some hA h
    | next => exact W_some hA h
    | _ => exact h.elim)
theorem kCall_ok {f : Str} {args : List Expr} {K : LV → St → HS → Prop} (h : kCall I J ns f args ρ hs K) : W (callE I ns f args σ) K := by
  unfold kCall at h
  unfold callE
  rw [← seq_if]
  cases q : seq f "isinstance" with
  | true => rw [q] at h; exact kIsinst_ok hA h
  | false =>
    rw [q] at h
    cases q2 : bK f with
    | true =>
      rw [q2] at h
      rw [if_pos (by rw [← bK_eq]; exact q2)]
      exact W_o2 (kL_ok H args hA h) fun vs ρ hs σ hA h => W_V (kBuilt_ok h) fun r hs h => W_some hA h
    | false =>
      rw [q2] at h
      rw [if_neg (by rw [← bK_eq, q2]; exact nofun)]
      cases q3 : ioK f with
      | true =>
        rw [q3] at h
        rw [if_pos (by rw [← ioK_eq]; exact q3)]
        cases args with
        | nil => exact h.elim
        | cons e rest => exact kInout_ok H hA h
      | false =>
        rw [q3] at h
        rw [if_neg (by rw [← ioK_eq, q3]; exact nofun)]
        exact kUser_ok H hA h
theorem kCallX_ok {f : Expr} {args : List Expr} {kw : List Keyword} {pos : Pos} {K : LV → St → HS → Prop} (h : kCallX I J ns f args kw pos ρ hs K) : W (callX I ns f args kw pos σ) K := by
  cases kw with
  | cons _ _ => exact h.elim
  | nil =>
    cases f with
    | Name f _ => exact kif_e (show kif _ _ from h) fun q h => kif_e h fun q2 h => W_if ⟨by rw [← gK_eq]; exact q, Nat.le_of_ble_eq_true q2⟩ (kCall_ok H hA h)
    | Attribute o m ap => exact kAcall_ok H hA h
    | _ => exact h.elim
omit H hA in
theorem fK_eq (ns : Names) (sc : Scope) (x : Str) : fK ns sc x = freeIn sc ns x := by
  unfold fK freeIn
  rw [lk_eq, lk_eq]
  cases sc.names.lookup x with
  | none => rfl
  | some k => cases k <;> first | rfl | (cases ns.lookup x with
    | none => rfl
    | some k => cases k <;> rfl)
omit H in
theorem Agree.filter {p : Str → Bool} : Agree (ρ.filter fun y => p y.1) (σ.filter fun y => p y.1) := fun x v h => by
  rw [lk_eq, lookup_filter] at h
  rw [lookup_filter]
  by_cases q : p x
  · rw [if_pos q] at h ⊢; exact hA x v (by rw [lk_eq]; exact h)
  · rw [if_neg q] at h; cases h
omit H hA in
theorem lk_app {x : Str} {v : LV} {a b : St} (h : lk x (a ++ b) = some v) : lk x a = some v ∨ lk x a = none ∧ lk x b = some v := by
  induction a with
  | nil => exact .inr ⟨rfl, h⟩
  | cons p a ih =>
    have h : (match seq x p.1 with | true => some p.2 | false => lk x (a ++ b)) = some v := h
    show (match seq x p.1 with | true => some p.2 | false => lk x a) = some v ∨ (match seq x p.1 with | true => some p.2 | false => lk x a) = none ∧ _
    cases q : seq x p.1 with
    | true => rw [q] at h; exact .inl h
    | false => rw [q] at h; exact ih h
omit H in
theorem Agree.back {ρ2 σ2 : St} {sc : Scope} (hA2 : Agree ρ2 σ2) (h1 : ∀ p ∈ ρ2, (fK ns sc p.1 && (lk p.1 ρ).isSome) = true) (h2 : ∀ p ∈ sc.names, (p.2 != .free || (lk p.1 ρ2).isSome) = true) : Agree (ρ2 ++ ρ) (backIn sc ns σ σ2) := fun x v h => by
  rw [lookup_backIn]
  rcases lk_app h with h | ⟨h, h3⟩
  · have m := h1 (x, v) (mem_of_lookup (by rw [← lk_eq]; exact h))
    rw [Bool.and_eq_true] at m
    obtain ⟨w, hw⟩ := Option.isSome_iff_exists.mp m.2
    rw [hA x w hw]
    show some (if _ then _ else _) = _
    rw [if_pos (by rw [← fK_eq]; exact m.1), hA2 x v h]; rfl
  · rw [hA x v h3]
    show some (if _ then _ else _) = _
    rw [if_neg]
    intro q
    have := h2 _ (mem_of_lookup (freeIn_iff.mp q).1)
    rw [h] at this
    cases this
omit H hA in
theorem Agree.bok {ρ2 σ2 : St} {sc : Scope} (hA2 : Agree ρ2 σ2) (h2 : ∀ p ∈ sc.names, (p.2 != .free || (lk p.1 ρ2).isSome) = true) : backOk sc ns σ σ2 = true := by
  unfold backOk
  refine List.all_eq_true.mpr fun p hp => ?_
  cases q : freeIn sc ns p.1 with
  | false => rfl
  | true =>
    have m : (lk p.1 ρ2).isSome = true := h2 _ (mem_of_lookup (freeIn_iff.mp q).1)
    obtain ⟨w, hw⟩ := Option.isSome_iff_exists.mp m
    rw [hA2 _ _ hw]; rfl
theorem kComp_ok {elt : Expr} {gens : List Comprehension} {sc : Scope} {K : LV → St → HS → Prop} (h : kComp I J ns elt gens sc ρ hs K) : W (compE I ns elt gens sc σ) K := by
  cases gens with
  | nil => exact h.elim
  | cons g gs =>
    refine W_if h.1 (W_o2 (kA_ok H hA h.2) fun t ρ hs σ hA h => W_V (kIter_ok h) fun its hs h => hU_e h fun us ρ2 r h => kif_e h fun q1 h => kif_e h fun q2 h => ?_)
    obtain ⟨σ2, e, hA2⟩ := h.1 _ hA.filter
    have e2 : (σ.filter fun x => freeIn sc ns x.1) = σ.filter fun x => fK ns sc x.1 := by
      congr 1; funext x; rw [fK_eq]
    rw [e2]
    exact W_o2e e (W_if ⟨h.2.1, hA2.bok (allR_mem q2)⟩ (W_some (hA.back hA2 (allR_mem q1) (allR_mem q2)) h.2.2))
theorem kBinE_ok {l : Expr} {op : Operator} {r : Expr} {K : LV → St → HS → Prop} (h : kBinE J ns l op r ρ hs K) : W (binE I ns l op r σ) K :=
  W_o2 (kA_ok H hA h) fun a ρ hs σ hA h => W_o2 (kA_ok H hA h) fun b ρ hs σ hA h => W_V (kBin_ok h) fun v hs h => W_some hA h
omit H hA in
theorem kbol_e {v : LV} {g : Bool → Prop} {P : Prop} (h : kbol v g) (k : ∀ i, asBool v = some i → g i → P) : P := by
  cases v with
  | tree t => exact kbo_e (show kbo t g from h) fun i e h => k i (by rw [e]; rfl) h
  | _ => exact h.elim
theorem kAndE_ok {a b : Expr} {K : LV → St → HS → Prop} (h : kAndE J ns a b ρ hs K) : W (andE I ns a b σ) K :=
  W_o2 (H.E hA h) fun v ρ hs σ hA h => kbol_e h fun c e h => W_eq e (by
    cases c with
    | true => exact H.E hA h
    | false => exact W_some hA h)
theorem kNeg_ok {x : Expr} {K : LV → St → HS → Prop} (h : kNeg J ns x ρ hs K) : W (negE I ns x σ) K :=
  W_o2 (kA_ok H hA h) fun v ρ hs σ hA h => kint_e h fun i e h => W_eq (by rw [e]; rfl) (W_some hA h)
theorem kIfE_ok {t b o : Expr} {K : LV → St → HS → Prop} (h : kIfE J ns t b o ρ hs K) : W (ifE I ns t b o σ) K :=
  W_o2 (H.T hA h) fun c ρ hs σ hA h => (by
    cases c with
    | true => exact H.E hA h
    | false => exact H.E hA h)
theorem kListE_ok {es : List Expr} {K : LV → St → HS → Prop} (h : kListE J ns es ρ hs K) : W (listE I ns es σ) K := W_o2 (kL_ok H es hA h) fun vs ρ hs σ hA h => kif_e h fun q h => W_if (Nat.le_of_ble_eq_true q) (W_some hA h)
theorem kTupE_ok {es : List Expr} {K : LV → St → HS → Prop} (h : kTupE J ns es ρ hs K) : W (tupE I ns es σ) K := W_o2 (kL_ok H es hA h) fun vs ρ hs σ hA h => kif_e h fun q h => W_if (Nat.le_of_ble_eq_true q) (W_some hA h)
theorem kAttrE_ok {v : Expr} {a : Str} {K : LV → St → HS → Prop} (h : kAttrE J ns v a ρ hs K) : W (attrE I ns v a σ) K :=
  kif_e h fun q h => W_if q (W_o2 (kA_ok H hA h) fun t ρ hs σ hA h => k1_e h fun u e h => W_eq (by rw [← aK_eq]; exact e) (W_some hA h))
theorem kE_ok {e : Expr} {K : LV → St → HS → Prop} (h : kE I J ns e ρ hs K) : W (stepE I ns e σ) K := by
  cases e with
  | Constant c _ _ => exact kConst_ok hA h
  | Name x _ => exact kName_ok hA h
  | BinOp l op r _ => exact kBinE_ok H hA h
  | BoolOp op es _ =>
    cases op with
    | Or => exact h.elim
    | And =>
      match es, h with
      | [a, b], h => exact kAndE_ok H hA h
  | UnaryOp op x _ =>
    cases op with
    | USub => exact kNeg_ok H hA h
    | _ => exact h.elim
  | Compare l ops rs _ =>
    match ops, rs, h with
    | [op], [r], h => exact kCmp1_ok H hA h
  | IfExp t b o _ => exact kIfE_ok H hA h
  | List es _ => exact kListE_ok H hA h
  | Tuple es _ _ => exact kTupE_ok H hA h
  | Dict ks es _ =>
    cases ks with
    | nil =>
      cases es with
      | nil => exact W_some hA h
      | cons _ _ => exact h.elim
    | cons k ks => exact kDict_ok H hA h
  | Subscript v i _ => exact kSubE_ok H hA h
  | Attribute v a _ => exact kAttrE_ok H hA h
  | Call f args kw pos => exact kCallX_ok H hA h
  | ListComp elt gens sc _ => exact kComp_ok H hA h
  | _ => exact h.elim
end
end Mini

namespace Mini
open PySem
section
variable {I : Interp} {J : KI} (H : KOk I J) {ns : Names} {ρ σ : St} {hs : HS} (hA : Agree ρ σ)
include H hA
theorem kVal_ok {e : Expr} {K : Bool → St → HS → Prop} (h : kVal J ns e ρ hs K) : W (valT I ns e σ) K :=
  kif_e h fun q h => W_if q (W_o2 (H.E hA h) fun v ρ hs σ hA h => kbol_e h fun c e h => W_eq e (W_some hA h))
omit hA in
theorem kAll_ok (op : BoolOp) (es : List Expr) : ∀ {ρ σ : St} {hs : HS}, Agree ρ σ → ∀ {K : Bool → St → HS → Prop}, kAll J ns op es ρ hs K → W (allT I ns op es σ) K := by
  induction es with
  | nil => exact fun hA _ h => W_some hA h
  | cons e es ih =>
    intro ρ σ hs hA K h
    have h : J.T ns e ρ hs fun b ρ1 h1 => (match goOn op b with
      | true => kAll J ns op es ρ1 h1 K
      | false => K b ρ1 h1) := h
    exact W_o2 (H.T hA h) fun b ρ hs σ hA h => (by
      cases q : goOn op b with
      | true => rw [q] at h; exact ih hA h
      | false => rw [q] at h; exact W_some hA h)
theorem kNot_ok {e : Expr} {K : Bool → St → HS → Prop} (h : J.T ns e ρ hs fun b => K (!b)) : W (notT I ns e σ) K := W_o2 (H.T hA h) fun b ρ hs σ hA h => W_some hA h
theorem kT_ok {e : Expr} {K : Bool → St → HS → Prop} (h : kT J ns e ρ hs K) : W (stepT I ns e σ) K := by
  cases e with
  | UnaryOp op x p =>
    have h : (match isNot op with | true => J.T ns x ρ hs fun b => K (!b) | false => kVal J ns (.UnaryOp op x p) ρ hs K) := h
    show W (match isNot op with | true => _ | false => _) K
    cases q : isNot op with
    | true => rw [q] at h; exact kNot_ok H hA h
    | false => rw [q] at h; exact kVal_ok H hA h
  | BoolOp op es _ => exact kAll_ok H op es hA h
  | _ => exact kVal_ok H hA h
theorem kEv_ok {e : Expr} {K : LV → St → HS → Prop} (h : kEv I J ns e ρ hs K) : W (evA I ns e σ) K := by
  cases e with
  | ListComp elt gens sc _ => exact kComp_ok H hA h
  | _ => exact H.E hA h
omit H hA in
theorem kvec_e {u : LV} {g : Str → AV → AV → Prop} {P : Prop} (h : kvec u g) (k : ∀ a b c, u = .mvec a b c → g a b c → P) : P := by cases u <;> first | exact k _ _ _ rfl h | exact h.elim
omit H hA in
theorem kmd_e {u : LV} {g : List Str → List AV → Prop} {P : Prop} (h : kmd u g) (k : ∀ a b, u = .mdict a b → g a b → P) : P := by cases u <;> first | exact k _ _ rfl h | exact h.elim
omit H hA in
theorem kti_e {u : LV} {g : Int → Prop} {P : Prop} (h : kti u g) (k : ∀ i, asIntL u = some i → g i → P) : P := by
  cases u with
  | tree t => exact kint_e (show kint t g from h) fun i e h => k i (by rw [e]; rfl) h
  | _ => exact h.elim
omit H in
theorem kAst_ok {x a : Str} {v : LV} {K : Flw → St → HS → Prop} (h : kAst ns x a v ρ hs K) : W (attrStore ns x a v σ) K :=
  kGet_e hA h fun u e _ h => kvec_e h fun k i t e2 h1 => by
    subst e2
    refine W_eq e (W_eq rfl ?_)
    rw [← seq_if]
    cases q : seq a "attrs" with
    | true =>
      rw [q] at h1
      exact kmd_e h1 fun ks vs e h2 => by subst e; exact W_o2e rfl (W_some hA.put h2)
    | false =>
      rw [q] at h1
      exact kif_e h1 fun q h => W_if (seq_iff.mp q) (kbol_e h fun c e h => W_eq e (W_some hA.put h))
omit H in
theorem kKey_ok {x key : Str} {v : AV} {K : Flw → St → HS → Prop} (h : kKey ns x key v ρ hs K) : W (keyPut ns x key v σ) K :=
  kGet_e hA h fun u e _ h => kvec_e h fun k i t e2 h1 => kdict_e h1 fun ks vs e3 h2 => by
    subst e2 e3
    exact W_eq e (W_eq rfl (W_o2e rfl (kif_e h2 fun q1 h => kif_e h fun q2 h => W_if ⟨Nat.le_of_ble_eq_true q1, by rw [← hasK_eq]; cases q : hasK key ks with | true => rw [q] at q2; cases q2 | false => rfl⟩ (W_some hA.put h))))
omit H hA in
theorem not_t {b : Bool} (h : (!b) = true) : b = false := by cases b with | true => cases h | false => rfl
theorem kSet_ok {fx x : Str} {e : Expr} {K : Flw → St → HS → Prop} (h : kif (vK ns x) (kif (!(seq x fx)) (kif (plainE e) (kEv I J ns e ρ hs fun v ρ1 h1 => K .next ((x, v) :: ρ1) h1)))) : W (setS I ns fx x e σ) K :=
  kif_e h fun q1 h => kif_e h fun q2 h => kif_e h fun q3 h => W_if ⟨by rw [← vK_eq]; exact q1, seq_ne (not_t q2), q3⟩ (W_o2 (kEv_ok H hA h) fun v ρ hs σ hA h => W_some hA.put h)
theorem kAttrS_ok {x a : Str} {e : Expr} {K : Flw → St → HS → Prop} (h : kif (plainE e) (kif (!(isComp e)) (J.E ns e ρ hs fun v ρ1 h1 => kAst ns x a v ρ1 h1 K))) : W (attrS I ns x a e σ) K :=
  kif_e h fun q1 h => kif_e h fun q2 h => W_if ⟨q1, not_t q2⟩ (W_o2 (H.E hA h) fun v ρ hs σ hA h => kAst_ok hA h)
theorem kKeyS_ok {x a key : Str} {e : Expr} {K : Flw → St → HS → Prop} (h : kif (seq a "attrs") (kif (!(isComp e)) (kA J ns e ρ hs fun v ρ1 h1 => kKey ns x key v ρ1 h1 K))) : W (keyS I ns x a key e σ) K :=
  kif_e h fun q1 h => kif_e h fun q2 h => W_if ⟨seq_iff.mp q1, not_t q2⟩ (W_o2 (kA_ok H hA h) fun v ρ hs σ hA h => kKey_ok hA h)
theorem kTgt_ok {fx : Str} {t e : Expr} {K : Flw → St → HS → Prop} (h : kTgt I J ns fx t e ρ hs K) : W (tgtS I ns fx t e σ) K := by
  cases t with
  | Name x _ => exact kSet_ok H hA h
  | Attribute o a _ => exact k1_e (show k1 _ _ from h) fun x e h => W_eq e (kAttrS_ok H hA h)
  | Subscript o i _ => exact k1_e (show k1 (dotOf o) _ from h) fun p e h => k1_e h fun key e2 h => (by
      unfold tgtS; dsimp only; rw [e]; exact W_eq e2 (kKeyS_ok H hA h))
  | _ => exact h.elim
theorem kAug_ok {x fx : Str} {e : Expr} {K : Flw → St → HS → Prop} (h : kif (!(seq x fx)) (kGet ns x ρ fun u => kti u fun a => kA J ns e ρ hs fun v ρ1 h1 => kint v fun b => K .next ((x, .tree (.int (a + b))) :: ρ1) h1)) : W (aug1 I ns fx x e σ) K :=
  kif_e h fun q h => W_if (seq_ne (not_t q)) (kGet_e hA h fun u e _ h => kti_e h fun a e2 h => W_eq e (W_eq e2 (W_o2 (kA_ok H hA h) fun v ρ hs σ hA h => kint_e h fun b e h => W_eq (by rw [e]; rfl) (W_some hA.put h))))
theorem kFor_ok {x fx : Str} {it : Expr} {body : List Stmt} {K : Flw → St → HS → Prop} (h : kif (vK ns x) (kif (!(seq x fx)) (kA J ns it ρ hs fun t ρ1 h1 => kIter t h1 fun its h2 => hF h2 fun fl ρ2 r =>
      Ends (forL (I.B ns fx body) x its) ρ1 fl ρ2 ∧ K fl ρ2 r))) : W (for1 I ns fx x it body σ) K :=
  kif_e h fun q1 h => kif_e h fun q2 h => W_if ⟨by rw [← vK_eq]; exact q1, seq_ne (not_t q2)⟩ (W_o2 (kA_ok H hA h) fun v ρ hs σ hA h => W_V (kIter_ok h) fun its hs h => hF_e h fun fl ρ2 r h => h.1.W hA h.2)
theorem kExp_ok {e : Expr} {K : Flw → St → HS → Prop} (h : kif (plainE e) (kif (!(isComp e)) (J.E ns e ρ hs fun _ ρ1 h1 => K .next ρ1 h1))) : W (exprS I ns e σ) K :=
  kif_e h fun q1 h => kif_e h fun q2 h => W_if ⟨q1, not_t q2⟩ (W_o2 (H.E hA h) fun v ρ hs σ hA h => W_some hA h)
theorem kIfS_ok {fx : Str} {t : Expr} {b o : List Stmt} {K : Flw → St → HS → Prop} (h : J.T ns t ρ hs fun c ρ1 h1 => (match c with
    | true => J.B ns fx b ρ1 h1 K
    | false => J.B ns fx o ρ1 h1 K)) : W (ifS I ns fx t b o σ) K := W_o2 (H.T hA h) fun c ρ hs σ hA h => (by
  cases c with
  | true => exact H.B hA h
  | false => exact H.B hA h)
theorem kRet_ok {e : Expr} {K : Flw → St → HS → Prop} (h : kOwned ns e ρ (fun x v => K (.retv x v) ρ hs) (J.E ns e ρ hs fun v => K (.ret v))) : W (ret1 I ns e σ) K := by
  unfold ret1
  refine kOwned_e hA h (fun x v e h => ?_) (fun e h => ?_)
  · rw [e]; exact W_some hA h
  · rw [e]; exact W_o2 (H.E hA h) fun v ρ hs σ hA h => W_some hA h
theorem kS_ok {fx : Str} {st : Stmt} {K : Flw → St → HS → Prop} (h : kS I J ns fx st ρ hs K) : W (stepS I ns fx st σ) K := by
  cases st with
  | Assign ts e _ =>
    match ts, h with
    | [t], h => exact kTgt_ok H hA h
  | AugAssign t op e _ => exact k1_e (show k1 _ _ from h) fun x e h => W_eq e (kif_e h fun q h => by rw [q]; exact kAug_ok H hA h)
  | Expr e _ => exact kExp_ok H hA h
  | If t b o _ => exact kIfS_ok H hA h
  | For t it body els _ =>
    exact k1_e (show k1 _ _ from h) fun x e h => W_eq e (kif_e h fun q h => by
      cases els with
      | nil => exact kFor_ok H hA h
      | cons _ _ => cases q)
  | Return eo _ =>
    cases eo with
    | none => exact W_some hA h
    | some e => exact kRet_ok H hA h
  | Break _ => exact W_some hA h
  | _ => exact h.elim
omit H hA in
theorem cut_e {yes : St → HS → Prop} {no : HS → Prop} {P : Prop} (h : cutOf hs yes no) (k1 : ∀ ρ r, yes ρ r → P) (k2 : ∀ r, no r → P) : P := by
  unfold cutOf at h
  split at h
  · exact k2 _ h
  · split at h
    · split at h
      · exact k2 _ h
      · exact k1 _ _ h
    · exact k2 _ h
theorem kSt_ok {fx : Str} {st : Stmt} {K : Flw → St → HS → Prop} (h : kSt I J ns fx st ρ hs K) : W (stepS I ns fx st σ) K :=
  cut_e h (fun ρ2 r h => h.1.W hA h.2) fun r h => kS_ok H hA h
omit hA in
theorem kB_ok (fx : Str) (ss : List Stmt) : ∀ {ρ σ : St} {hs : HS}, Agree ρ σ → ∀ {K : Flw → St → HS → Prop}, kB I J ns fx ss ss ρ hs K → W (stepB I ns fx ss σ) K := by
  induction ss with
  | nil => exact fun hA _ h => W_some hA h
  | cons s ss ih =>
    intro ρ σ hs hA K h
    have h : kSt I J ns fx s ρ hs fun f ρ1 h1 => (match f with
      | .next => kB I J ns fx ss ss ρ1 h1 K
      | f => K f ρ1 h1) := h
    exact W_o2 (kSt_ok H hA h) fun f ρ hs σ hA h => (by
      cases f with
      | next => exact ih hA h
      | _ => exact W_some hA h)
end
theorem kin_ok (m k : Nat) : KOk (interp tabV (m + k)) (kin m k) := by
  induction k with
  | zero => exact ⟨fun _ h => h.elim, fun _ h => h.elim, fun _ h => h.elim⟩
  | succ k ih => exact ⟨fun hA h => kE_ok ih hA h, fun hA h => kT_ok ih hA h, fun hA h => kB_ok ih _ _ hA h⟩

theorem fn {m k : Nat} {f : Str} {args : List LV} {X : Flw} {Y : LV} (hs : HS) (h : kF (kin m k) f args hs X Y) : (interp tabV (m + (k + 1))).C f args = some (X, Y) := by
  refine kif_e h fun q0 h => ?_
  obtain ⟨d, e⟩ := Option.isSome_iff_exists.mp q0
  rw [e] at h
  have h : kD (kin m k) d args hs X Y := h
  show o1 (tabV f) _ = _
  rw [e]
  show (if args.length = d.params.length then runD (interp tabV (m + k)) d args else none) = _
  unfold kD at h
  unfold runD
  split at h
  · next q =>
    refine kif_e h fun q2 h => ?_
    obtain ⟨fl, σ', ρ, hs, e, hA, h⟩ := (kin_ok m k).B (Agree.nil []) h
    rw [q, if_pos (by cases args with | nil => rfl | cons _ _ => cases q2)]
    show o2 _ _ = _
    rw [e]
    refine kif_e h fun q3 h => ?_
    show (match isBrk fl with | true => _ | false => _) = _
    rw [not_t q3, ← h.1, ← h.2]
  · next p r q =>
    refine kif_e h fun q2 h => ?_
    obtain ⟨fl, σ', ρ, hs, e, hA, h⟩ := (kin_ok m k).B (Agree.self _) h
    rw [q, if_pos (Nat.eq_of_beq_eq_true q2)]
    show o2 _ _ = _
    rw [e]
    refine kif_e h fun q3 h => k1_e h fun v e2 h => ?_
    show (match isBrk fl with | true => _ | false => _) = _
    rw [not_t q3]
    show o1 (σ'.lookup p) _ = _
    rw [hA p v e2, ← h.1, ← h.2]; rfl
end Mini

namespace Mini
open PySem
theorem A2 {p q : Prop} (h : p) (k : q) : p ∧ q := ⟨h, k⟩
theorem A3 {p0 p1 p2 : Prop} (h0 : p0) (h1 : p1) (h2 : p2) : p0 ∧ p1 ∧ p2 := ⟨h0, h1, h2⟩
theorem A4 {p0 p1 p2 p3 : Prop} (h0 : p0) (h1 : p1) (h2 : p2) (h3 : p3) : p0 ∧ p1 ∧ p2 ∧ p3 := ⟨h0, h1, h2, h3⟩
theorem A5 {p0 p1 p2 p3 p4 : Prop} (h0 : p0) (h1 : p1) (h2 : p2) (h3 : p3) (h4 : p4) : p0 ∧ p1 ∧ p2 ∧ p3 ∧ p4 := ⟨h0, h1, h2, h3, h4⟩
theorem A6 {p0 p1 p2 p3 p4 p5 : Prop} (h0 : p0) (h1 : p1) (h2 : p2) (h3 : p3) (h4 : p4) (h5 : p5) : p0 ∧ p1 ∧ p2 ∧ p3 ∧ p4 ∧ p5 := ⟨h0, h1, h2, h3, h4, h5⟩
theorem A7 {p0 p1 p2 p3 p4 p5 p6 : Prop} (h0 : p0) (h1 : p1) (h2 : p2) (h3 : p3) (h4 : p4) (h5 : p5) (h6 : p6) : p0 ∧ p1 ∧ p2 ∧ p3 ∧ p4 ∧ p5 ∧ p6 := ⟨h0, h1, h2, h3, h4, h5, h6⟩
theorem A8 {p0 p1 p2 p3 p4 p5 p6 p7 : Prop} (h0 : p0) (h1 : p1) (h2 : p2) (h3 : p3) (h4 : p4) (h5 : p5) (h6 : p6) (h7 : p7) : p0 ∧ p1 ∧ p2 ∧ p3 ∧ p4 ∧ p5 ∧ p6 ∧ p7 := ⟨h0, h1, h2, h3, h4, h5, h6, h7⟩
theorem A9 {p0 p1 p2 p3 p4 p5 p6 p7 p8 : Prop} (h0 : p0) (h1 : p1) (h2 : p2) (h3 : p3) (h4 : p4) (h5 : p5) (h6 : p6) (h7 : p7) (h8 : p8) : p0 ∧ p1 ∧ p2 ∧ p3 ∧ p4 ∧ p5 ∧ p6 ∧ p7 ∧ p8 := ⟨h0, h1, h2, h3, h4, h5, h6, h7, h8⟩
theorem A10 {p0 p1 p2 p3 p4 p5 p6 p7 p8 p9 : Prop} (h0 : p0) (h1 : p1) (h2 : p2) (h3 : p3) (h4 : p4) (h5 : p5) (h6 : p6) (h7 : p7) (h8 : p8) (h9 : p9) : p0 ∧ p1 ∧ p2 ∧ p3 ∧ p4 ∧ p5 ∧ p6 ∧ p7 ∧ p8 ∧ p9 := ⟨h0, h1, h2, h3, h4, h5, h6, h7, h8, h9⟩
theorem A11 {p0 p1 p2 p3 p4 p5 p6 p7 p8 p9 p10 : Prop} (h0 : p0) (h1 : p1) (h2 : p2) (h3 : p3) (h4 : p4) (h5 : p5) (h6 : p6) (h7 : p7) (h8 : p8) (h9 : p9) (h10 : p10) : p0 ∧ p1 ∧ p2 ∧ p3 ∧ p4 ∧ p5 ∧ p6 ∧ p7 ∧ p8 ∧ p9 ∧ p10 := ⟨h0, h1, h2, h3, h4, h5, h6, h7, h8, h9, h10⟩
theorem A12 {p0 p1 p2 p3 p4 p5 p6 p7 p8 p9 p10 p11 : Prop} (h0 : p0) (h1 : p1) (h2 : p2) (h3 : p3) (h4 : p4) (h5 : p5) (h6 : p6) (h7 : p7) (h8 : p8) (h9 : p9) (h10 : p10) (h11 : p11) : p0 ∧ p1 ∧ p2 ∧ p3 ∧ p4 ∧ p5 ∧ p6 ∧ p7 ∧ p8 ∧ p9 ∧ p10 ∧ p11 := ⟨h0, h1, h2, h3, h4, h5, h6, h7, h8, h9, h10, h11⟩
theorem A13 {p0 p1 p2 p3 p4 p5 p6 p7 p8 p9 p10 p11 p12 : Prop} (h0 : p0) (h1 : p1) (h2 : p2) (h3 : p3) (h4 : p4) (h5 : p5) (h6 : p6) (h7 : p7) (h8 : p8) (h9 : p9) (h10 : p10) (h11 : p11) (h12 : p12) : p0 ∧ p1 ∧ p2 ∧ p3 ∧ p4 ∧ p5 ∧ p6 ∧ p7 ∧ p8 ∧ p9 ∧ p10 ∧ p11 ∧ p12 := ⟨h0, h1, h2, h3, h4, h5, h6, h7, h8, h9, h10, h11, h12⟩
theorem A14 {p0 p1 p2 p3 p4 p5 p6 p7 p8 p9 p10 p11 p12 p13 : Prop} (h0 : p0) (h1 : p1) (h2 : p2) (h3 : p3) (h4 : p4) (h5 : p5) (h6 : p6) (h7 : p7) (h8 : p8) (h9 : p9) (h10 : p10) (h11 : p11) (h12 : p12) (h13 : p13) : p0 ∧ p1 ∧ p2 ∧ p3 ∧ p4 ∧ p5 ∧ p6 ∧ p7 ∧ p8 ∧ p9 ∧ p10 ∧ p11 ∧ p12 ∧ p13 := ⟨h0, h1, h2, h3, h4, h5, h6, h7, h8, h9, h10, h11, h12, h13⟩
theorem A15 {p0 p1 p2 p3 p4 p5 p6 p7 p8 p9 p10 p11 p12 p13 p14 : Prop} (h0 : p0) (h1 : p1) (h2 : p2) (h3 : p3) (h4 : p4) (h5 : p5) (h6 : p6) (h7 : p7) (h8 : p8) (h9 : p9) (h10 : p10) (h11 : p11) (h12 : p12) (h13 : p13) (h14 : p14) : p0 ∧ p1 ∧ p2 ∧ p3 ∧ p4 ∧ p5 ∧ p6 ∧ p7 ∧ p8 ∧ p9 ∧ p10 ∧ p11 ∧ p12 ∧ p13 ∧ p14 := ⟨h0, h1, h2, h3, h4, h5, h6, h7, h8, h9, h10, h11, h12, h13, h14⟩
theorem A16 {p0 p1 p2 p3 p4 p5 p6 p7 p8 p9 p10 p11 p12 p13 p14 p15 : Prop} (h0 : p0) (h1 : p1) (h2 : p2) (h3 : p3) (h4 : p4) (h5 : p5) (h6 : p6) (h7 : p7) (h8 : p8) (h9 : p9) (h10 : p10) (h11 : p11) (h12 : p12) (h13 : p13) (h14 : p14) (h15 : p15) : p0 ∧ p1 ∧ p2 ∧ p3 ∧ p4 ∧ p5 ∧ p6 ∧ p7 ∧ p8 ∧ p9 ∧ p10 ∧ p11 ∧ p12 ∧ p13 ∧ p14 ∧ p15 := ⟨h0, h1, h2, h3, h4, h5, h6, h7, h8, h9, h10, h11, h12, h13, h14, h15⟩
theorem A17 {p0 p1 p2 p3 p4 p5 p6 p7 p8 p9 p10 p11 p12 p13 p14 p15 p16 : Prop} (h0 : p0) (h1 : p1) (h2 : p2) (h3 : p3) (h4 : p4) (h5 : p5) (h6 : p6) (h7 : p7) (h8 : p8) (h9 : p9) (h10 : p10) (h11 : p11) (h12 : p12) (h13 : p13) (h14 : p14) (h15 : p15) (h16 : p16) : p0 ∧ p1 ∧ p2 ∧ p3 ∧ p4 ∧ p5 ∧ p6 ∧ p7 ∧ p8 ∧ p9 ∧ p10 ∧ p11 ∧ p12 ∧ p13 ∧ p14 ∧ p15 ∧ p16 := ⟨h0, h1, h2, h3, h4, h5, h6, h7, h8, h9, h10, h11, h12, h13, h14, h15, h16⟩
theorem A18 {p0 p1 p2 p3 p4 p5 p6 p7 p8 p9 p10 p11 p12 p13 p14 p15 p16 p17 : Prop} (h0 : p0) (h1 : p1) (h2 : p2) (h3 : p3) (h4 : p4) (h5 : p5) (h6 : p6) (h7 : p7) (h8 : p8) (h9 : p9) (h10 : p10) (h11 : p11) (h12 : p12) (h13 : p13) (h14 : p14) (h15 : p15) (h16 : p16) (h17 : p17) : p0 ∧ p1 ∧ p2 ∧ p3 ∧ p4 ∧ p5 ∧ p6 ∧ p7 ∧ p8 ∧ p9 ∧ p10 ∧ p11 ∧ p12 ∧ p13 ∧ p14 ∧ p15 ∧ p16 ∧ p17 := ⟨h0, h1, h2, h3, h4, h5, h6, h7, h8, h9, h10, h11, h12, h13, h14, h15, h16, h17⟩
theorem A19 {p0 p1 p2 p3 p4 p5 p6 p7 p8 p9 p10 p11 p12 p13 p14 p15 p16 p17 p18 : Prop} (h0 : p0) (h1 : p1) (h2 : p2) (h3 : p3) (h4 : p4) (h5 : p5) (h6 : p6) (h7 : p7) (h8 : p8) (h9 : p9) (h10 : p10) (h11 : p11) (h12 : p12) (h13 : p13) (h14 : p14) (h15 : p15) (h16 : p16) (h17 : p17) (h18 : p18) : p0 ∧ p1 ∧ p2 ∧ p3 ∧ p4 ∧ p5 ∧ p6 ∧ p7 ∧ p8 ∧ p9 ∧ p10 ∧ p11 ∧ p12 ∧ p13 ∧ p14 ∧ p15 ∧ p16 ∧ p17 ∧ p18 := ⟨h0, h1, h2, h3, h4, h5, h6, h7, h8, h9, h10, h11, h12, h13, h14, h15, h16, h17, h18⟩
theorem A20 {p0 p1 p2 p3 p4 p5 p6 p7 p8 p9 p10 p11 p12 p13 p14 p15 p16 p17 p18 p19 : Prop} (h0 : p0) (h1 : p1) (h2 : p2) (h3 : p3) (h4 : p4) (h5 : p5) (h6 : p6) (h7 : p7) (h8 : p8) (h9 : p9) (h10 : p10) (h11 : p11) (h12 : p12) (h13 : p13) (h14 : p14) (h15 : p15) (h16 : p16) (h17 : p17) (h18 : p18) (h19 : p19) : p0 ∧ p1 ∧ p2 ∧ p3 ∧ p4 ∧ p5 ∧ p6 ∧ p7 ∧ p8 ∧ p9 ∧ p10 ∧ p11 ∧ p12 ∧ p13 ∧ p14 ∧ p15 ∧ p16 ∧ p17 ∧ p18 ∧ p19 := ⟨h0, h1, h2, h3, h4, h5, h6, h7, h8, h9, h10, h11, h12, h13, h14, h15, h16, h17, h18, h19⟩
theorem A21 {p0 p1 p2 p3 p4 p5 p6 p7 p8 p9 p10 p11 p12 p13 p14 p15 p16 p17 p18 p19 p20 : Prop} (h0 : p0) (h1 : p1) (h2 : p2) (h3 : p3) (h4 : p4) (h5 : p5) (h6 : p6) (h7 : p7) (h8 : p8) (h9 : p9) (h10 : p10) (h11 : p11) (h12 : p12) (h13 : p13) (h14 : p14) (h15 : p15) (h16 : p16) (h17 : p17) (h18 : p18) (h19 : p19) (h20 : p20) : p0 ∧ p1 ∧ p2 ∧ p3 ∧ p4 ∧ p5 ∧ p6 ∧ p7 ∧ p8 ∧ p9 ∧ p10 ∧ p11 ∧ p12 ∧ p13 ∧ p14 ∧ p15 ∧ p16 ∧ p17 ∧ p18 ∧ p19 ∧ p20 := ⟨h0, h1, h2, h3, h4, h5, h6, h7, h8, h9, h10, h11, h12, h13, h14, h15, h16, h17, h18, h19, h20⟩
theorem A22 {p0 p1 p2 p3 p4 p5 p6 p7 p8 p9 p10 p11 p12 p13 p14 p15 p16 p17 p18 p19 p20 p21 : Prop} (h0 : p0) (h1 : p1) (h2 : p2) (h3 : p3) (h4 : p4) (h5 : p5) (h6 : p6) (h7 : p7) (h8 : p8) (h9 : p9) (h10 : p10) (h11 : p11) (h12 : p12) (h13 : p13) (h14 : p14) (h15 : p15) (h16 : p16) (h17 : p17) (h18 : p18) (h19 : p19) (h20 : p20) (h21 : p21) : p0 ∧ p1 ∧ p2 ∧ p3 ∧ p4 ∧ p5 ∧ p6 ∧ p7 ∧ p8 ∧ p9 ∧ p10 ∧ p11 ∧ p12 ∧ p13 ∧ p14 ∧ p15 ∧ p16 ∧ p17 ∧ p18 ∧ p19 ∧ p20 ∧ p21 := ⟨h0, h1, h2, h3, h4, h5, h6, h7, h8, h9, h10, h11, h12, h13, h14, h15, h16, h17, h18, h19, h20, h21⟩
theorem A23 {p0 p1 p2 p3 p4 p5 p6 p7 p8 p9 p10 p11 p12 p13 p14 p15 p16 p17 p18 p19 p20 p21 p22 : Prop} (h0 : p0) (h1 : p1) (h2 : p2) (h3 : p3) (h4 : p4) (h5 : p5) (h6 : p6) (h7 : p7) (h8 : p8) (h9 : p9) (h10 : p10) (h11 : p11) (h12 : p12) (h13 : p13) (h14 : p14) (h15 : p15) (h16 : p16) (h17 : p17) (h18 : p18) (h19 : p19) (h20 : p20) (h21 : p21) (h22 : p22) : p0 ∧ p1 ∧ p2 ∧ p3 ∧ p4 ∧ p5 ∧ p6 ∧ p7 ∧ p8 ∧ p9 ∧ p10 ∧ p11 ∧ p12 ∧ p13 ∧ p14 ∧ p15 ∧ p16 ∧ p17 ∧ p18 ∧ p19 ∧ p20 ∧ p21 ∧ p22 := ⟨h0, h1, h2, h3, h4, h5, h6, h7, h8, h9, h10, h11, h12, h13, h14, h15, h16, h17, h18, h19, h20, h21, h22⟩
theorem A24 {p0 p1 p2 p3 p4 p5 p6 p7 p8 p9 p10 p11 p12 p13 p14 p15 p16 p17 p18 p19 p20 p21 p22 p23 : Prop} (h0 : p0) (h1 : p1) (h2 : p2) (h3 : p3) (h4 : p4) (h5 : p5) (h6 : p6) (h7 : p7) (h8 : p8) (h9 : p9) (h10 : p10) (h11 : p11) (h12 : p12) (h13 : p13) (h14 : p14) (h15 : p15) (h16 : p16) (h17 : p17) (h18 : p18) (h19 : p19) (h20 : p20) (h21 : p21) (h22 : p22) (h23 : p23) : p0 ∧ p1 ∧ p2 ∧ p3 ∧ p4 ∧ p5 ∧ p6 ∧ p7 ∧ p8 ∧ p9 ∧ p10 ∧ p11 ∧ p12 ∧ p13 ∧ p14 ∧ p15 ∧ p16 ∧ p17 ∧ p18 ∧ p19 ∧ p20 ∧ p21 ∧ p22 ∧ p23 := ⟨h0, h1, h2, h3, h4, h5, h6, h7, h8, h9, h10, h11, h12, h13, h14, h15, h16, h17, h18, h19, h20, h21, h22, h23⟩
theorem A25 {p0 p1 p2 p3 p4 p5 p6 p7 p8 p9 p10 p11 p12 p13 p14 p15 p16 p17 p18 p19 p20 p21 p22 p23 p24 : Prop} (h0 : p0) (h1 : p1) (h2 : p2) (h3 : p3) (h4 : p4) (h5 : p5) (h6 : p6) (h7 : p7) (h8 : p8) (h9 : p9) (h10 : p10) (h11 : p11) (h12 : p12) (h13 : p13) (h14 : p14) (h15 : p15) (h16 : p16) (h17 : p17) (h18 : p18) (h19 : p19) (h20 : p20) (h21 : p21) (h22 : p22) (h23 : p23) (h24 : p24) : p0 ∧ p1 ∧ p2 ∧ p3 ∧ p4 ∧ p5 ∧ p6 ∧ p7 ∧ p8 ∧ p9 ∧ p10 ∧ p11 ∧ p12 ∧ p13 ∧ p14 ∧ p15 ∧ p16 ∧ p17 ∧ p18 ∧ p19 ∧ p20 ∧ p21 ∧ p22 ∧ p23 ∧ p24 := ⟨h0, h1, h2, h3, h4, h5, h6, h7, h8, h9, h10, h11, h12, h13, h14, h15, h16, h17, h18, h19, h20, h21, h22, h23, h24⟩
theorem A26 {p0 p1 p2 p3 p4 p5 p6 p7 p8 p9 p10 p11 p12 p13 p14 p15 p16 p17 p18 p19 p20 p21 p22 p23 p24 p25 : Prop} (h0 : p0) (h1 : p1) (h2 : p2) (h3 : p3) (h4 : p4) (h5 : p5) (h6 : p6) (h7 : p7) (h8 : p8) (h9 : p9) (h10 : p10) (h11 : p11) (h12 : p12) (h13 : p13) (h14 : p14) (h15 : p15) (h16 : p16) (h17 : p17) (h18 : p18) (h19 : p19) (h20 : p20) (h21 : p21) (h22 : p22) (h23 : p23) (h24 : p24) (h25 : p25) : p0 ∧ p1 ∧ p2 ∧ p3 ∧ p4 ∧ p5 ∧ p6 ∧ p7 ∧ p8 ∧ p9 ∧ p10 ∧ p11 ∧ p12 ∧ p13 ∧ p14 ∧ p15 ∧ p16 ∧ p17 ∧ p18 ∧ p19 ∧ p20 ∧ p21 ∧ p22 ∧ p23 ∧ p24 ∧ p25 := ⟨h0, h1, h2, h3, h4, h5, h6, h7, h8, h9, h10, h11, h12, h13, h14, h15, h16, h17, h18, h19, h20, h21, h22, h23, h24, h25⟩
theorem A27 {p0 p1 p2 p3 p4 p5 p6 p7 p8 p9 p10 p11 p12 p13 p14 p15 p16 p17 p18 p19 p20 p21 p22 p23 p24 p25 p26 : Prop} (h0 : p0) (h1 : p1) (h2 : p2) (h3 : p3) (h4 : p4) (h5 : p5) (h6 : p6) (h7 : p7) (h8 : p8) (h9 : p9) (h10 : p10) (h11 : p11) (h12 : p12) (h13 : p13) (h14 : p14) (h15 : p15) (h16 : p16) (h17 : p17) (h18 : p18) (h19 : p19) (h20 : p20) (h21 : p21) (h22 : p22) (h23 : p23) (h24 : p24) (h25 : p25) (h26 : p26) : p0 ∧ p1 ∧ p2 ∧ p3 ∧ p4 ∧ p5 ∧ p6 ∧ p7 ∧ p8 ∧ p9 ∧ p10 ∧ p11 ∧ p12 ∧ p13 ∧ p14 ∧ p15 ∧ p16 ∧ p17 ∧ p18 ∧ p19 ∧ p20 ∧ p21 ∧ p22 ∧ p23 ∧ p24 ∧ p25 ∧ p26 := ⟨h0, h1, h2, h3, h4, h5, h6, h7, h8, h9, h10, h11, h12, h13, h14, h15, h16, h17, h18, h19, h20, h21, h22, h23, h24, h25, h26⟩
theorem A28 {p0 p1 p2 p3 p4 p5 p6 p7 p8 p9 p10 p11 p12 p13 p14 p15 p16 p17 p18 p19 p20 p21 p22 p23 p24 p25 p26 p27 : Prop} (h0 : p0) (h1 : p1) (h2 : p2) (h3 : p3) (h4 : p4) (h5 : p5) (h6 : p6) (h7 : p7) (h8 : p8) (h9 : p9) (h10 : p10) (h11 : p11) (h12 : p12) (h13 : p13) (h14 : p14) (h15 : p15) (h16 : p16) (h17 : p17) (h18 : p18) (h19 : p19) (h20 : p20) (h21 : p21) (h22 : p22) (h23 : p23) (h24 : p24) (h25 : p25) (h26 : p26) (h27 : p27) : p0 ∧ p1 ∧ p2 ∧ p3 ∧ p4 ∧ p5 ∧ p6 ∧ p7 ∧ p8 ∧ p9 ∧ p10 ∧ p11 ∧ p12 ∧ p13 ∧ p14 ∧ p15 ∧ p16 ∧ p17 ∧ p18 ∧ p19 ∧ p20 ∧ p21 ∧ p22 ∧ p23 ∧ p24 ∧ p25 ∧ p26 ∧ p27 := ⟨h0, h1, h2, h3, h4, h5, h6, h7, h8, h9, h10, h11, h12, h13, h14, h15, h16, h17, h18, h19, h20, h21, h22, h23, h24, h25, h26, h27⟩
theorem A29 {p0 p1 p2 p3 p4 p5 p6 p7 p8 p9 p10 p11 p12 p13 p14 p15 p16 p17 p18 p19 p20 p21 p22 p23 p24 p25 p26 p27 p28 : Prop} (h0 : p0) (h1 : p1) (h2 : p2) (h3 : p3) (h4 : p4) (h5 : p5) (h6 : p6) (h7 : p7) (h8 : p8) (h9 : p9) (h10 : p10) (h11 : p11) (h12 : p12) (h13 : p13) (h14 : p14) (h15 : p15) (h16 : p16) (h17 : p17) (h18 : p18) (h19 : p19) (h20 : p20) (h21 : p21) (h22 : p22) (h23 : p23) (h24 : p24) (h25 : p25) (h26 : p26) (h27 : p27) (h28 : p28) : p0 ∧ p1 ∧ p2 ∧ p3 ∧ p4 ∧ p5 ∧ p6 ∧ p7 ∧ p8 ∧ p9 ∧ p10 ∧ p11 ∧ p12 ∧ p13 ∧ p14 ∧ p15 ∧ p16 ∧ p17 ∧ p18 ∧ p19 ∧ p20 ∧ p21 ∧ p22 ∧ p23 ∧ p24 ∧ p25 ∧ p26 ∧ p27 ∧ p28 := ⟨h0, h1, h2, h3, h4, h5, h6, h7, h8, h9, h10, h11, h12, h13, h14, h15, h16, h17, h18, h19, h20, h21, h22, h23, h24, h25, h26, h27, h28⟩
theorem A30 {p0 p1 p2 p3 p4 p5 p6 p7 p8 p9 p10 p11 p12 p13 p14 p15 p16 p17 p18 p19 p20 p21 p22 p23 p24 p25 p26 p27 p28 p29 : Prop} (h0 : p0) (h1 : p1) (h2 : p2) (h3 : p3) (h4 : p4) (h5 : p5) (h6 : p6) (h7 : p7) (h8 : p8) (h9 : p9) (h10 : p10) (h11 : p11) (h12 : p12) (h13 : p13) (h14 : p14) (h15 : p15) (h16 : p16) (h17 : p17) (h18 : p18) (h19 : p19) (h20 : p20) (h21 : p21) (h22 : p22) (h23 : p23) (h24 : p24) (h25 : p25) (h26 : p26) (h27 : p27) (h28 : p28) (h29 : p29) : p0 ∧ p1 ∧ p2 ∧ p3 ∧ p4 ∧ p5 ∧ p6 ∧ p7 ∧ p8 ∧ p9 ∧ p10 ∧ p11 ∧ p12 ∧ p13 ∧ p14 ∧ p15 ∧ p16 ∧ p17 ∧ p18 ∧ p19 ∧ p20 ∧ p21 ∧ p22 ∧ p23 ∧ p24 ∧ p25 ∧ p26 ∧ p27 ∧ p28 ∧ p29 := ⟨h0, h1, h2, h3, h4, h5, h6, h7, h8, h9, h10, h11, h12, h13, h14, h15, h16, h17, h18, h19, h20, h21, h22, h23, h24, h25, h26, h27, h28, h29⟩
theorem A31 {p0 p1 p2 p3 p4 p5 p6 p7 p8 p9 p10 p11 p12 p13 p14 p15 p16 p17 p18 p19 p20 p21 p22 p23 p24 p25 p26 p27 p28 p29 p30 : Prop} (h0 : p0) (h1 : p1) (h2 : p2) (h3 : p3) (h4 : p4) (h5 : p5) (h6 : p6) (h7 : p7) (h8 : p8) (h9 : p9) (h10 : p10) (h11 : p11) (h12 : p12) (h13 : p13) (h14 : p14) (h15 : p15) (h16 : p16) (h17 : p17) (h18 : p18) (h19 : p19) (h20 : p20) (h21 : p21) (h22 : p22) (h23 : p23) (h24 : p24) (h25 : p25) (h26 : p26) (h27 : p27) (h28 : p28) (h29 : p29) (h30 : p30) : p0 ∧ p1 ∧ p2 ∧ p3 ∧ p4 ∧ p5 ∧ p6 ∧ p7 ∧ p8 ∧ p9 ∧ p10 ∧ p11 ∧ p12 ∧ p13 ∧ p14 ∧ p15 ∧ p16 ∧ p17 ∧ p18 ∧ p19 ∧ p20 ∧ p21 ∧ p22 ∧ p23 ∧ p24 ∧ p25 ∧ p26 ∧ p27 ∧ p28 ∧ p29 ∧ p30 := ⟨h0, h1, h2, h3, h4, h5, h6, h7, h8, h9, h10, h11, h12, h13, h14, h15, h16, h17, h18, h19, h20, h21, h22, h23, h24, h25, h26, h27, h28, h29, h30⟩
theorem A32 {p0 p1 p2 p3 p4 p5 p6 p7 p8 p9 p10 p11 p12 p13 p14 p15 p16 p17 p18 p19 p20 p21 p22 p23 p24 p25 p26 p27 p28 p29 p30 p31 : Prop} (h0 : p0) (h1 : p1) (h2 : p2) (h3 : p3) (h4 : p4) (h5 : p5) (h6 : p6) (h7 : p7) (h8 : p8) (h9 : p9) (h10 : p10) (h11 : p11) (h12 : p12) (h13 : p13) (h14 : p14) (h15 : p15) (h16 : p16) (h17 : p17) (h18 : p18) (h19 : p19) (h20 : p20) (h21 : p21) (h22 : p22) (h23 : p23) (h24 : p24) (h25 : p25) (h26 : p26) (h27 : p27) (h28 : p28) (h29 : p29) (h30 : p30) (h31 : p31) : p0 ∧ p1 ∧ p2 ∧ p3 ∧ p4 ∧ p5 ∧ p6 ∧ p7 ∧ p8 ∧ p9 ∧ p10 ∧ p11 ∧ p12 ∧ p13 ∧ p14 ∧ p15 ∧ p16 ∧ p17 ∧ p18 ∧ p19 ∧ p20 ∧ p21 ∧ p22 ∧ p23 ∧ p24 ∧ p25 ∧ p26 ∧ p27 ∧ p28 ∧ p29 ∧ p30 ∧ p31 := ⟨h0, h1, h2, h3, h4, h5, h6, h7, h8, h9, h10, h11, h12, h13, h14, h15, h16, h17, h18, h19, h20, h21, h22, h23, h24, h25, h26, h27, h28, h29, h30, h31⟩

theorem o2_of {α β γ : Type} {x : Option (α × β)} {a : α} {b : β} {f : α → β → Option γ} {z : Option γ} (e : x = some (a, b)) (k : f a b = z) : o2 x f = z := by subst e; exact k
theorem o1_of {α β : Type} {x : Option α} {a : α} {f : α → Option β} {z : Option β} (e : x = some a) (k : f a = z) : o1 x f = z := by subst e; exact k
noncomputable def kN (fl : Flw) (P : Prop) : Prop := match fl with
  | .next => P
  | _ => False
theorem kN_e {fl : Flw} {P : Prop} (h : kN fl P) : fl = .next ∧ P := by cases fl <;> first | exact ⟨rfl, h⟩ | exact h.elim
section
variable {m k : Nat} {ns : Names} {fx x : Str} {body : List Stmt} {ρ ρ' : St}
def Turn (m k : Nat) (ns : Names) (fx : Str) (body : List Stmt) (x : Str) (a : AV) (ρ ρ' : St) : Prop := ∃ hs, (kin m k).B ns fx body ((x, .tree a) :: ρ) hs fun fl ρ2 _ => kN fl (Sub ρ2 ρ')
theorem Turn.go {a : AV} {σ : St} (h : Turn m k ns fx body x a ρ ρ') (hA : Agree ρ σ) : ∃ σ', (interp tabV (m + k)).B ns fx body (put σ x (.tree a)) = some (.next, σ') ∧ Agree ρ' σ' := by
  obtain ⟨hs, h⟩ := h
  obtain ⟨fl, σ', ρ2, hs, e, hA2, h⟩ := (kin_ok m k).B hA.put h
  obtain ⟨rfl, h⟩ := kN_e h
  exact ⟨σ', e, h.agree hA2⟩
theorem cut {m k : Nat} {ns : Names} {fx : Str} {st : Stmt} {ρ ρ' : St} (hs : HS) (h : kS (interp tabV (m + k)) (kin m k) ns fx st ρ hs fun fl ρ2 _ => kN fl (Sub ρ2 ρ')) : Ends (stepS (interp tabV (m + k)) ns fx st) ρ .next ρ' :=
  W.ends fun σ hA => (kS_ok (kin_ok m k) hA h).mono fun fl ρ2 _ h => kN_e h
theorem for_nil (h : Sub ρ ρ') : Ends (forL ((interp tabV (m + k)).B ns fx body) x []) ρ .next ρ' := fun σ hA => ⟨σ, rfl, h.agree hA⟩
theorem for_cons {a : AV} {vs : List AV} {ρ1 : St} {fl : Flw} (t : Turn m k ns fx body x a ρ ρ1) (h : Ends (forL ((interp tabV (m + k)).B ns fx body) x vs) ρ1 fl ρ') : Ends (forL ((interp tabV (m + k)).B ns fx body) x (a :: vs)) ρ fl ρ' := fun σ hA => by
  obtain ⟨σ1, e1, hA1⟩ := t.go hA
  obtain ⟨σ2, e2, hA2⟩ := h σ1 hA1
  exact ⟨σ2, o2_of e1 e2, hA2⟩
theorem for_ret {a : AV} {vs : List AV} {v : LV} (h : ∃ hs, (kin m k).B ns fx body ((x, .tree a) :: ρ) hs fun fl ρ2 _ => fl = .ret v ∧ Sub ρ2 ρ') : Ends (forL ((interp tabV (m + k)).B ns fx body) x (a :: vs)) ρ (.ret v) ρ' := fun σ hA => by
  obtain ⟨hs, h⟩ := h
  obtain ⟨fl, σ', ρ2, hs, e, hA2, rfl, h⟩ := (kin_ok m k).B (σ := put σ x (.tree a)) hA.put h
  exact ⟨σ', o2_of e rfl, h.agree hA2⟩
theorem for_brk {a : AV} {vs : List AV} (h : ∃ hs, (kin m k).B ns fx body ((x, .tree a) :: ρ) hs fun fl ρ2 _ => fl = .brk ∧ Sub ρ2 ρ') : Ends (forL ((interp tabV (m + k)).B ns fx body) x (a :: vs)) ρ .next ρ' := fun σ hA => by
  obtain ⟨hs, h⟩ := h
  obtain ⟨fl, σ', ρ2, hs, e, hA2, rfl, h⟩ := (kin_ok m k).B (σ := put σ x (.tree a)) hA.put h
  exact ⟨σ', o2_of e rfl, h.agree hA2⟩
noncomputable abbrev nsF (f : Str) : Names := (dOf (tabV f)).scope.names
noncomputable abbrev bdF (f : Str) : List Stmt := (dOf (tabV f)).body
def LTurn {α : Type} (m k : Nat) (ns : Names) (fx : Str) (body : List Stmt) (x : Str) (g : α → AV) (l : List α) (inv : List α → St) : Prop := ∀ done a rest, l = done ++ a :: rest → Turn m k ns fx body x (g a) (inv done) (inv (done ++ [a]))
theorem forG {α : Type} {l : List α} {g : α → AV} {its : List AV} (inv : List α → St) (h0 : Sub ρ (inv [])) (turn : ∀ done a rest, l = done ++ a :: rest → Turn m k ns fx body x (g a) (inv done) (inv (done ++ [a]))) (he : its = l.map g := by rfl) :
    Ends (forL ((interp tabV (m + k)).B ns fx body) x its) ρ .next (inv l) := by
  subst he
  have key : ∀ (rest done : List α), l = done ++ rest → Ends (forL ((interp tabV (m + k)).B ns fx body) x (rest.map g)) (inv done) .next (inv l) := by
    intro rest
    induction rest with
    | nil =>
      intro done e
      rw [List.append_nil] at e
      rw [e]
      exact fun σ hA => ⟨σ, rfl, hA⟩
    | cons a rest ih => exact fun done e => for_cons (turn done a rest e) (ih _ (by rw [e, List.append_assoc]; rfl))
  exact fun σ hA => key l [] rfl σ (h0.agree hA)
theorem forR {n : Nat} {g : Nat → AV} {its : List AV} (inv : Nat → St) (h0 : Sub ρ (inv 0)) (turn : ∀ i, i < n → Turn m k ns fx body x (g i) (inv i) (inv (i + 1))) (he : its = (List.range n).map g := by rfl) :
    Ends (forL ((interp tabV (m + k)).B ns fx body) x its) ρ .next (inv n) := by
  have := forG (m := m) (k := k) (ns := ns) (fx := fx) (body := body) (x := x) (l := List.range n) (g := g) (its := its) (fun l => inv l.length) h0 (fun done a rest e => by
    have h1 : (List.range n)[done.length]? = some a := by rw [e, List.getElem?_append_right (Nat.le_refl _), Nat.sub_self]; rfl
    obtain ⟨h2, h3⟩ := List.getElem?_eq_some_iff.mp h1
    rw [List.length_range] at h2
    rw [List.getElem_range] at h3
    subst h3
    rw [List.length_append]
    exact turn _ h2) he
  rw [List.length_range] at this
  exact this
end

section
variable {m k : Nat} {ns : Names} {elt : Expr} {g : Comprehension} {ρ ρ' : St}
noncomputable def kTs (J : KI) (ns : Names) (es : List Expr) : St → HS → (Bool → St → HS → Prop) → Prop := List.rec (motive := fun _ => St → HS → (Bool → St → HS → Prop) → Prop)
  (fun ρ hs K => K true ρ hs) (fun e _ ih ρ hs K => J.T ns e ρ hs fun b ρ1 h1 => (match b with
    | true => ih ρ1 h1 K
    | false => K false ρ1 h1)) es
theorem kTs_ok {I : Interp} {J : KI} (H : KOk I J) (es : List Expr) : ∀ {ρ σ : St} {hs : HS}, Agree ρ σ → ∀ {K : Bool → St → HS → Prop}, kTs J ns es ρ hs K → W (tests I ns es σ) K := by
  induction es with
  | nil => exact fun hA _ h => W_some hA h
  | cons e es ih =>
    intro ρ σ hs hA K h
    have h : J.T ns e ρ hs fun b ρ1 h1 => (match b with
      | true => kTs J ns es ρ1 h1 K
      | false => K false ρ1 h1) := h
    exact W_o2 (H.T hA h) fun b ρ hs σ hA h => (by
      cases b with
      | true => exact ih hA h
      | false => exact W_some hA h)
def Row (m k : Nat) (ns : Names) (elt : Expr) (x : Str) (ifs : List Expr) (a : AV) (ρ : St) (us : List AV) (ρ' : St) : Prop := ∃ hs, kTs (kin m k) ns ifs ((x, .tree a) :: ρ) hs fun c ρ1 h1 => (match c with
  | true => kA (kin m k) ns elt ρ1 h1 fun t ρ2 _ => [t] = us ∧ Sub ρ2 ρ'
  | false => [] = us ∧ Sub ρ1 ρ')
theorem Row.go {x : Str} {ifs : List Expr} {a : AV} {us : List AV} {σ : St} (h : Row m k ns elt x ifs a ρ us ρ') (hA : Agree ρ σ) : ∃ σ', compRow (interp tabV (m + k)) ns elt x ifs a σ = some (us, σ') ∧ Agree ρ' σ' := by
  obtain ⟨hs, h⟩ := h
  have : W (compRow (interp tabV (m + k)) ns elt x ifs a σ) fun b ρ2 _ => b = us ∧ Sub ρ2 ρ' := W_o2 (kTs_ok (kin_ok m k) ifs hA.put h) fun c ρ hs σ hA h => (by
    cases c with
    | true => exact W_o2 (kA_ok (kin_ok m k) hA h) fun t ρ hs σ hA h => W_some (hs := []) hA h
    | false => exact W_some (hs := []) hA h)
  obtain ⟨b, σ', ρ2, hs, e, hA', rfl, s⟩ := this
  exact ⟨σ', e, s.agree hA'⟩
theorem compL_st {α : Type} {l : List α} {f : AV → St → Option (List AV × St)} {q : α → AV} (inv : List α → St) (us : List α → List AV)
    (turn : ∀ done a rest, l = done ++ a :: rest → ∃ ws, us (done ++ [a]) = us done ++ ws ∧ Ends (f (q a)) (inv done) ws (inv (done ++ [a]))) (u0 : us [] = []) : Ends (compL f (l.map q)) (inv []) (us l) (inv l) := by
  have key : ∀ (rest done : List α), l = done ++ rest → ∃ ws, us l = us done ++ ws ∧ Ends (compL f (rest.map q)) (inv done) ws (inv l) := by
    intro rest
    induction rest with
    | nil =>
      intro done e
      rw [List.append_nil] at e
      rw [e]
      exact ⟨[], (List.append_nil _).symm, fun σ hA => ⟨σ, rfl, hA⟩⟩
    | cons a rest ih =>
      intro done e
      obtain ⟨ws, e1, t⟩ := turn done a rest e
      obtain ⟨ws2, e2, h⟩ := ih (done ++ [a]) (by rw [e, List.append_assoc]; rfl)
      refine ⟨ws ++ ws2, by rw [e2, e1, List.append_assoc], fun σ hA => ?_⟩
      obtain ⟨σ1, e3, hA1⟩ := t σ hA
      obtain ⟨σ2, e4, hA2⟩ := h σ1 hA1
      exact ⟨σ2, o2_of e3 (o2_of e4 rfl), hA2⟩
  obtain ⟨ws, e, h⟩ := key l [] rfl
  rw [u0, List.nil_append] at e
  rw [e]; exact h
theorem comp_st {α : Type} {l : List α} {q : α → AV} {its : List AV} (x : Str) (inv : List α → St) (us : List α → List AV) (h0 : Sub ρ (inv []))
    (turn : ∀ done a rest, l = done ++ a :: rest → ∃ ws, us (done ++ [a]) = us done ++ ws ∧ Row m k ns elt x g.ifs (q a) (inv done) ws (inv (done ++ [a])))
    (u0 : us [] = [] := by rfl) (hx : nameOf g.target = some x := by rfl) (hz : isZero g.is_async = true := by rfl) (he : its = l.map q := by rfl) :
    Ends (compIn (interp tabV (m + k)) ns elt [g] its) ρ (us l) (inv l) := fun σ hA => by
  rw [he]
  obtain ⟨σ', e, h⟩ := compL_st inv us (fun done a rest e => by
    obtain ⟨ws, e1, h⟩ := turn done a rest e
    exact ⟨ws, e1, fun σ hA => h.go hA⟩) u0 σ (h0.agree hA)
  refine ⟨σ', o1_of hx ?_, h⟩
  rw [hz]; exact e
theorem comp_flt {α : Type} {l : List α} {q : α → AV} {its : List AV} (x : Str) (u : α → List AV) (ρ' : St) (h0 : Sub ρ ρ')
    (turn : ∀ a ∈ l, Row m k ns elt x g.ifs (q a) ρ' (u a) ρ') (hx : nameOf g.target = some x := by rfl) (hz : isZero g.is_async = true := by rfl) (he : its = l.map q := by rfl) :
    Ends (compIn (interp tabV (m + k)) ns elt [g] its) ρ (l.flatMap u) ρ' :=
  comp_st x (fun _ => ρ') (fun l => l.flatMap u) h0 (fun done a rest e => ⟨u a, by rw [List.flatMap_append, List.flatMap_cons, List.flatMap_nil, List.append_nil], turn a (by rw [e]; exact List.mem_append_right _ List.mem_cons_self)⟩) rfl hx hz he
theorem flat_one {α β : Type} {f : α → β} (l : List α) : l.flatMap (fun v => [f v]) = l.map f := by
  induction l with
  | nil => rfl
  | cons a l ih => rw [List.flatMap_cons, ih]; rfl
theorem comp_map {α : Type} {l : List α} {q : α → AV} {its : List AV} (x : Str) (u : α → AV) (ρ' : St) (h0 : Sub ρ ρ')
    (turn : ∀ a ∈ l, Row m k ns elt x g.ifs (q a) ρ' [u a] ρ') (hx : nameOf g.target = some x := by rfl) (hz : isZero g.is_async = true := by rfl) (he : its = l.map q := by rfl) :
    Ends (compIn (interp tabV (m + k)) ns elt [g] its) ρ (l.map u) ρ' := by
  rw [← flat_one]
  exact comp_flt x (fun a => [u a]) ρ' h0 turn hx hz he
end
end Mini

namespace Mini
open PySem

theorem c_get0 (m : Nat) (k : Str) (i : AV) (nm : Str) :
    (interp tabV (m + 30)).C "get_attr" [.tree (.vec k i .none), .tree (.str nm)] = some (.ret (.tree .none), .tree (.vec k i .none)) := fn [] (A2 rfl rfl)
theorem c_get (m : Nat) (k : Str) (i : AV) (nm : Str) (ks : List Str) (vs : List AV) (t : AV) (h : (dictGet nm ks vs).getD .none = t) :
    (interp tabV (m + 30)).C "get_attr" [.tree (.vec k i (.dict ks vs)), .tree (.str nm)] = some (.ret (.tree t), .tree (.vec k i (.dict ks vs))) := fn [hv t] (A3 h rfl rfl)
theorem gs {k : Str} {ks : List Str} {vs : List AV} {t : AV} (h : dictGet k ks vs = some t) : (dictGet k ks vs).getD .none = t := by rw [h]; rfl
theorem gn {k : Str} {ks : List Str} {vs : List AV} (h : dictGet k ks vs = none) : (dictGet k ks vs).getD .none = .none := by rw [h]; rfl
theorem c_missing (m : Nat) : (interp tabV (m + 30)).C "missing" [] = some (.ret (.tree .miss), .tree .none) := fn [] (A2 rfl rfl)
theorem c_integer (m : Nat) (xs : List AV) (h : xs.length ≤ lim) : (interp tabV (m + 30)).C "integer" [.tree (.list xs)] = some (.ret (.mvec "integer" (.list xs) .none), .tree (.list xs)) := fn [] (A3 h rfl rfl)
theorem c_character (m : Nat) (xs : List AV) (h : xs.length ≤ lim) : (interp tabV (m + 30)).C "character" [.tree (.list xs)] = some (.ret (.mvec "character" (.list xs) .none), .tree (.list xs)) := fn [] (A3 h rfl rfl)
theorem c_isvec (m : Nat) (k : Str) (i t : AV) : (interp tabV (m + 30)).C "is_vector" [.tree (.vec k i t)] = some (.ret (.tree (.bool true)), .tree (.vec k i t)) := fn [] (A2 rfl rfl)
theorem c_rkind (m : Nat) : (interp tabV (m + 30)).C "result_kind" [.tree (.str "integer")] = some (.ret (.tree (.str "integer")), .tree (.str "integer")) := fn [] (A2 rfl rfl)
theorem c_named0 (m : Nat) (k : Str) (i t : AV) : (interp tabV (m + 60)).C "named" [.mvec k i t, .tree .none] = some (.retv "v" (.mvec k i t), .mvec k i t) := fn [] (A2 rfl rfl)
theorem c_named1 (m : Nat) (k : Str) (i t : AV) (xs : List AV) (h : xs.length ≤ lim) : (interp tabV (m + 60)).C "named" [.mvec k i t, .tree (.list xs)] = some (.retv "v" (.mvec k i (.dict ["names"] [.vec "character" (.list xs) .none])), .mvec k i (.dict ["names"] [.vec "character" (.list xs) .none])) :=
  fn [hc (.ret (.mvec "character" (.list xs) .none)) (.tree (.list xs))] (A3 (c_character _ xs h) rfl rfl)
theorem c_share (m : Nat) (k : Str) (i t : AV) : (interp tabV (m + 30)).C "share" [.mvec k i t] = some (.retv "v" (.mvec k i t), .mvec k i t) := fn [] (A2 rfl rfl)
theorem c_dim1 (m : Nat) (k : Str) (i : AV) (ks : List Str) (vs : List AV) (k2 : Str) (ds : List AV) (t2 : AV) (h : dictGet "dim" ks vs = some (.vec k2 (.list ds) t2)) (hl : ds.length ≤ lim) :
    (interp tabV (m + 60)).C "dim_of" [.tree (.vec k i (.dict ks vs))] = some (.ret (.mlist ds), .tree (.vec k i (.dict ks vs))) :=
  fn [hc (.ret (.tree (.vec k2 (.list ds) t2))) _] (A4 (c_get _ k i _ ks vs _ (gs h)) hl rfl rfl)
theorem c_dim2 (m : Nat) (k : Str) (i : AV) : (interp tabV (m + 60)).C "dim_of" [.tree (.vec k i .none)] = some (.ret (.tree .none), .tree (.vec k i .none)) :=
  fn [hc (.ret (.tree .none)) _] (A3 (c_get0 _ k i _) rfl rfl)
theorem c_dim3 (m : Nat) (k : Str) (i : AV) (ks : List Str) (vs : List AV) (h : dictGet "dim" ks vs = none) :
    (interp tabV (m + 60)).C "dim_of" [.tree (.vec k i (.dict ks vs))] = some (.ret (.tree .none), .tree (.vec k i (.dict ks vs))) :=
  fn [hc (.ret (.tree .none)) _] (A3 (c_get _ k i _ ks vs _ (gn h)) rfl rfl)

noncomputable def partOf (a : AV) : AV := match a with
  | .vec _ its _ => (match its with
    | .list xs => .list xs
    | _ => .none)
  | _ => .none
def IsPart (a : AV) : Prop := a = .null ∨ ∃ xs t, a = .vec "character" (.list xs) t ∧ xs.length ≤ lim

theorem c_dn0 (m : Nat) (k : Str) (i : AV) (ks : List Str) (vs : List AV) (h : dictGet "dimnames" ks vs = none) :
    (interp tabV (m + 60)).C "dimnames_of" [.tree (.vec k i (.dict ks vs))] = some (.ret (.tree .none), .tree (.vec k i (.dict ks vs))) :=
  fn [hc (.ret (.tree .none)) _] (A3 (c_get _ k i _ ks vs _ (gn h)) rfl rfl)
theorem id_map (l : List AV) : l = l.map fun a => a := (List.map_id _).symm
theorem c_dn1 (m : Nat) (k : Str) (i : AV) (ks : List Str) (vs : List AV) (k2 : Str) (ps : List AV) (t2 : AV) (h : dictGet "dimnames" ks vs = some (.vec k2 (.list ps) t2)) (hp : ∀ p ∈ ps, IsPart p) (hl : ps.length ≤ lim) :
    (interp tabV (m + 60)).C "dimnames_of" [.tree (.vec k i (.dict ks vs))] = some (.ret (.mlist (ps.map partOf)), .tree (.vec k i (.dict ks vs))) :=
  fn [hc (.ret (.tree (.vec k2 (.list ps) t2))) _, hu (ps.map partOf) []] (A6 (c_get _ k i _ ks vs _ (gs h)) ⟨rfl, rfl⟩
    (comp_map "part" partOf [] trivial (he := id_map ps) fun p q => by
      rcases hp p q with rfl | ⟨xs, t, rfl, hx⟩
      · exact ⟨[], A2 rfl trivial⟩
      · exact ⟨[], A3 hx rfl trivial⟩) (by rw [List.length_map]; exact hl) rfl rfl)

theorem c_names0 (m : Nat) (i : AV) : (interp tabV (m + 90)).C "names_of" [.tree (.vec "list" i .none)] = some (.ret (.tree .none), .tree (.vec "list" i .none)) :=
  fn [hc (.ret (.tree .none)) _, hc (.ret (.tree .none)) _] (A4 (c_dim2 _ _ i) (c_get0 _ _ i _) rfl rfl)
theorem c_names1 (m : Nat) (i : AV) (k2 : Str) (xs : List AV) (t2 : AV) (hl : xs.length ≤ lim) : (interp tabV (m + 90)).C "names_of" [.tree (.vec "list" i (.dict ["names"] [.vec k2 (.list xs) t2]))] = some (.ret (.mlist xs), .tree (.vec "list" i (.dict ["names"] [.vec k2 (.list xs) t2]))) :=
  fn [hc (.ret (.tree .none)) _, hc (.ret (.tree (.vec k2 (.list xs) t2))) _] (A5 (c_dim3 _ _ i _ _ rfl) (c_get _ _ i _ _ _ _ rfl) hl rfl rfl)
theorem c_heads0 (m : Nat) (k : Str) (i : AV) (ks : List Str) (vs : List AV) (h : dictGet "dimnames" ks vs = none) :
    (interp tabV (m + 120)).C "heads_of_dimnames" [.tree (.vec k i (.dict ks vs))] = some (.ret (.tree .none), .tree (.vec k i (.dict ks vs))) :=
  fn [hc (.ret (.tree .none)) _] (A3 (c_get _ k i _ ks vs _ (gn h)) rfl rfl)
theorem c_heads1 (m : Nat) (k : Str) (i : AV) (ks : List Str) (vs : List AV) (j : AV) (h : dictGet "dimnames" ks vs = some (.vec "list" j .none)) :
    (interp tabV (m + 120)).C "heads_of_dimnames" [.tree (.vec k i (.dict ks vs))] = some (.ret (.tree .none), .tree (.vec k i (.dict ks vs))) :=
  fn [hc (.ret (.tree (.vec "list" j .none))) _, hc (.ret (.tree .none)) _] (A4 (c_get _ k i _ ks vs _ (gs h)) (c_names0 _ j) rfl rfl)
theorem c_heads2 (m : Nat) (k : Str) (i : AV) (ks : List Str) (vs : List AV) (j : AV) (k2 : Str) (xs : List AV) (t2 : AV) (hl : xs.length ≤ lim) (h : dictGet "dimnames" ks vs = some (.vec "list" j (.dict ["names"] [.vec k2 (.list xs) t2]))) :
    (interp tabV (m + 120)).C "heads_of_dimnames" [.tree (.vec k i (.dict ks vs))] = some (.ret (.mlist xs), .tree (.vec k i (.dict ks vs))) :=
  fn [hc (.ret (.tree (.vec "list" j (.dict ["names"] [.vec k2 (.list xs) t2])))) _, hc (.ret (.mlist xs)) _] (A4 (c_get _ k i _ ks vs _ (gs h)) (c_names1 _ j k2 xs t2 hl) rfl rfl)

noncomputable def strideL : Int → List Int → List Int
  | _, [] => []
  | s, d :: ds => s :: strideL (s * d) ds

noncomputable def prodL (l : List Int) : Int := l.foldl (· * ·) 1
theorem prod_step (done : List Int) : ∀ (s : Int) (v : Int), strideL s (done ++ [v]) = strideL s done ++ [done.foldl (· * ·) s] := by
  induction done with
  | nil => exact fun _ _ => rfl
  | cons d ds ih => exact fun s v => congrArg (s :: ·) (ih (s * d) v)
theorem prodL_snoc (l : List Int) (d : Int) : prodL (l ++ [d]) = prodL l * d := by unfold prodL; rw [List.foldl_append]; rfl
theorem strideL_len (l : List Int) : ∀ (s : Int), (strideL s l).length = l.length := by
  induction l with
  | nil => exact fun _ => rfl
  | cons d l ih => exact fun s => congrArg (· + 1) (ih (s * d))
theorem mul3 {a b k : Int} (ha : 0 ≤ a ∧ a ≤ k) (hb : 0 ≤ b ∧ b ≤ 3) : 0 ≤ a * b ∧ a * b ≤ k * 3 := ⟨Int.mul_nonneg ha.1 hb.1, Int.mul_le_mul ha.2 hb.2 hb.1 (Int.le_trans ha.1 ha.2)⟩
theorem prod_le (l : List Int) (hl : l.length ≤ 3) (hd : ∀ d ∈ l, 0 ≤ d ∧ d ≤ 3) : 0 ≤ prodL l ∧ prodL l ≤ 27 := by
  have key : ∀ (l : List Int) (s k : Int) (n : Nat), l.length ≤ n → (∀ d ∈ l, 0 ≤ d ∧ d ≤ 3) → 1 ≤ k → 0 ≤ s ∧ s ≤ k → 0 ≤ l.foldl (· * ·) s ∧ l.foldl (· * ·) s ≤ k * 3 ^ n := by
    intro l
    induction l with
    | nil => exact fun s k n _ _ h1 h => ⟨h.1, Int.le_trans h.2 (by
        have : (1 : Int) ≤ 3 ^ n := Int.pow_pos (by decide)
        have := Int.mul_le_mul_of_nonneg_left this (show 0 ≤ k by omega)
        omega)⟩
    | cons d l ih =>
      intro s k n hn hd h1 h
      obtain ⟨n', rfl⟩ : ∃ n', n = n' + 1 := ⟨n - 1, by have : l.length + 1 ≤ n := hn; omega⟩
      have := ih (s * d) (k * 3) n' (Nat.le_of_succ_le_succ hn) (fun d h => hd d (List.mem_cons_of_mem _ h)) (by omega) (mul3 h (hd d List.mem_cons_self))
      rw [Int.pow_succ, Int.mul_comm (3 ^ n'), ← Int.mul_assoc]; exact this
  exact key l 1 1 3 hl hd (by decide) (by decide)

theorem sml {a b : List AV} (h : a = b) : some (LV.mlist a) = some (.mlist b) := by rw [h]
theorem sti {a b : Int} (h : a = b) : some (LV.tree (.int a)) = some (.tree (.int b)) := by rw [h]
theorem pre_len {α : Type} {l done : List α} {a : α} {rest : List α} (e : l = done ++ a :: rest) : done.length < l.length := by
  rw [e, List.length_append, List.length_cons]; exact Nat.lt_add_of_pos_right (Nat.succ_pos _)
theorem pre_mem {α : Type} {l done : List α} {a : α} {rest : List α} (e : l = done ++ a :: rest) : a ∈ l := by
  rw [e]; exact List.mem_append_right _ List.mem_cons_self
theorem c_strides (m : Nat) (ds : List Int) (hl : ds.length ≤ 3) (hd : ∀ d ∈ ds, 0 ≤ d ∧ d ≤ 3) :
    (interp tabV (m + 30)).C "strides" [.tree (.list (IL ds))] = some (.ret (.mlist (IL (strideL 1 ds))), .tree (.list (IL ds))) := by
  let inv : List Int → St := fun l => [("steps", .mlist (IL (strideL 1 l))), ("step", .tree (.int (prodL l))), ("dims", .tree (.list (IL ds)))]
  exact fn [hf .next (inv ds)] (A3 (forG (g := AV.int) inv (A4 rfl rfl rfl trivial) fun l d r e => by
    have h1 := pre_len e
    have hdd := hd d (pre_mem e)
    have hp := prod_le l (by omega) (fun d h => hd d (by rw [e]; exact List.mem_append_left _ h))
    exact ⟨[], A6 (by rw [IL_len, strideL_len]; unfold lim; omega) ⟨by omega, by omega⟩ (sml (by rw [prod_step, IL_app]; rfl)) (sti (prodL_snoc l d).symm) rfl trivial⟩) rfl rfl)
end Mini

namespace Mini
open PySem

noncomputable def pk (xs : List AV) (p : Int) : AV := (xs[p.toNat]?).getD .none
noncomputable def pick (xs : List AV) (ps : List Int) : List AV := ps.map (pk xs)
theorem pick_len (xs : List AV) (ps : List Int) : (pick xs ps).length = ps.length := List.length_map _
theorem pick_snoc (xs : List AV) (ps : List Int) (p : Int) : pick xs ps ++ [pk xs p] = pick xs (ps ++ [p]) := by unfold pick; rw [List.map_append]; rfl
theorem sub_of {xs : List AV} {i : Nat} {t : AV} {z : Int} (h : xs[i]? = some t) (hz : z = (i : Int)) (hi : i ≤ lim) : subL xs z = some t := by
  subst hz
  unfold subL
  rw [if_pos (idx_of (by omega) (by unfold lim at hi; omega)), Int.toNat_natCast, h]
theorem sub_at {xs : List AV} {p : Int} (h : 0 ≤ p ∧ p < xs.length) (hx : xs.length ≤ lim) : subL xs p = some (pk xs p) := by
  have h2 : p.toNat < xs.length := by omega
  refine sub_of (i := p.toNat) ?_ (by omega) (by omega)
  unfold pk
  rw [List.getElem?_eq_getElem h2]; rfl
theorem dle {a b : Int} (h : b < a) : decide (a ≤ b) = false := decide_eq_false (by omega)
theorem dlt {a b : Int} (h : a < b) : decide (a < b) = true := decide_eq_true h

theorem c_names_at (m : Nat) (xs : List AV) (ps : List Int) (hx : xs.length ≤ lim) (hl : ps.length ≤ lim) (hp : ∀ p ∈ ps, 0 ≤ p ∧ p < xs.length) :
    (interp tabV (m + 40)).C "names_at" [.tree (.list xs), .tree (.list (IL ps))] = some (.ret (.mlist (pick xs ps)), .tree (.list xs)) := by
  let inv : List Int → St := fun l => [("found", .mlist (pick xs l)), ("names", .tree (.list xs))]
  exact fn [hf .next (inv ps)] (A3 (forG (g := AV.int) inv (A3 rfl rfl trivial) fun l p r e => by
    have h := hp p (pre_mem e)
    exact ⟨[hb false, hv (pk xs p)], A7 hx (dle h.2) (sub_at h hx) (by rw [pick_len]; exact Nat.le_trans (Nat.le_of_lt (pre_len e)) hl) (sml (pick_snoc xs l p)) rfl trivial⟩) rfl rfl)

theorem c_items_at (m : Nat) (k : Str) (t : AV) (xs : List AV) (ps : List Int) (hx : xs.length ≤ lim) (hl : ps.length ≤ lim) (hp : ∀ p ∈ ps, 0 ≤ p ∧ p < xs.length) :
    (interp tabV (m + 40)).C "items_at" [.tree (.vec k (.list xs) t), .tree (.list (IL ps))] = some (.ret (.mlist (pick xs ps)), .tree (.vec k (.list xs) t)) := by
  let inv : List Int → St := fun l => [("found", .mlist (pick xs l)), ("v", .tree (.vec k (.list xs) t)), ("n", .tree (.int xs.length))]
  exact fn [hf .next (inv ps)] (A4 hx (forG (g := AV.int) inv (A4 rfl rfl rfl trivial) fun l p r e => by
    have h := hp p (pre_mem e)
    exact ⟨[hb false, hv (pk xs p)], A7 (dle h.2) (sub_at h hx) (by rw [pick_len]; exact Nat.le_trans (Nat.le_of_lt (pre_len e)) hl) (sml (pick_snoc xs l p)) rfl rfl trivial⟩) rfl rfl)

theorem c_wsub (m : Nat) (i t : AV) : (interp tabV (m + 15)).C "whole_subscripts" [.tree (.vec "integer" i t)] = some (.ret (.tree i), .tree (.vec "integer" i t)) := fn [] (A2 rfl rfl)

theorem c_wplaces (m : Nat) (n : AV) (ps : List Int) (hl : ps.length ≤ lim) (hp : ∀ p ∈ ps, 0 ≤ p) :
    (interp tabV (m + 18)).C "whole_places" [.tree (.list (IL (ps.map (· + 1)))), .tree n] = some (.ret (.mlist (IL ps)), .tree (.list (IL (ps.map (· + 1))))) := by
  let inv : List Int → St := fun l => [("places", .mlist (IL l)), ("left_out", .mdict [] []), ("items", .tree (.list (IL (ps.map (· + 1)))))]
  exact fn [hf .next (inv ps), hb true] (A5 (forG (g := fun p => AV.int (p + 1)) inv (A4 rfl rfl rfl trivial) (fun l p r e => by
    have h := hp p (pre_mem e)
    exact ⟨[hb true], A6 (dlt (by omega)) (by rw [IL_len]; exact Nat.le_trans (Nat.le_of_lt (pre_len e)) hl) (sml (by rw [IL_app, Int.add_sub_cancel]; rfl)) rfl rfl trivial⟩)
    (by unfold IL; rw [List.map_map]; rfl)) (Nat.zero_le _) rfl rfl rfl)

noncomputable def upto (d : Nat) : List Int := (List.range d).map fun (i : Nat) => (i : Int)
theorem upto_len (d : Nat) : (upto d).length = d := by unfold upto; rw [List.length_map, List.length_range]
theorem upto_IL (d : Nat) : ((List.range d).map fun (i : Nat) => AV.int i) = IL (upto d) := by unfold upto IL; rw [List.map_map]; rfl
theorem upto_mem {d : Nat} {p : Int} (h : p ∈ upto d) : 0 ≤ p ∧ p < d := by
  unfold upto at h
  obtain ⟨i, hi, rfl⟩ := List.mem_map.mp h
  rw [List.mem_range] at hi
  omega

def IxOk (ix : AV) (d : Nat) (ps : List Int) : Prop := (ix = .miss ∧ ps = upto d) ∨ ((∃ t, ix = .vec "integer" (.list (IL (ps.map (· + 1)))) t) ∧ ∀ p ∈ ps, 0 ≤ p ∧ p < d)
theorem IxOk.bound {ix : AV} {d : Nat} {ps : List Int} (h : IxOk ix d ps) : ∀ p ∈ ps, 0 ≤ p ∧ p < d := by
  rcases h with ⟨_, rfl⟩ | ⟨_, h⟩
  · exact fun p => upto_mem
  · exact h

theorem c_positions (m : Nat) (ix : AV) (d : Nat) (ps : List Int) (nm : AV) (h : IxOk ix d ps) (hd : d ≤ lim) (hl : ps.length ≤ lim) :
    (interp tabV (m + 28)).C "positions" [.tree ix, .tree (.int d), .tree nm, .tree (.bool false)] = some (.ret (.tree (.tup [.list (IL ps), .none])), .tree ix) := by
  rcases h with ⟨rfl, rfl⟩ | ⟨⟨t, rfl⟩, hp⟩
  · exact fn [hls (IL (upto d))] (A3 (by rw [← upto_IL]; exact rng_up hd) rfl rfl)
  · exact fn [hc (.ret (.tree (.list (IL (ps.map (· + 1)))))) _, hc (.ret (.mlist (IL ps))) _] (A4 (c_wsub _ _ t) (c_wplaces _ (.int d) ps hl fun p h => (hp p h).1) rfl rfl)

theorem rng_IL {l : List Int} (h : l.length ≤ lim) : rngList 0 ((IL l).length : Int) 1 = some ((List.range l.length).map fun (i : Nat) => AV.int i) := by rw [IL_len]; exact rng_up h
theorem ax_key {d : Nat} {ps : List Int} (hl : ps.length ≤ lim) (hb : ∀ p ∈ ps, 0 ≤ p ∧ p < d) (i : Nat) (hi : i < ps.length) : ∃ p, subL (IL ps) (i : Int) = some (.int p) ∧ p < (d : Int) :=
  ⟨ps[i], sub_of (by rw [IL_get, List.getElem?_eq_getElem hi]; rfl) rfl (by omega), (hb _ (List.getElem_mem hi)).2⟩
theorem c_axis (m : Nat) (ix : AV) (d : Nat) (ps : List Int) (nm : AV) (h : IxOk ix d ps) (hd : d ≤ lim) (hl : ps.length ≤ lim) :
    (interp tabV (m + 40)).C "axis" [.tree ix, .tree (.int d), .tree nm] = some (.ret (.tree (.list (IL ps))), .tree ix) := by
  have c1 := fun m => c_positions m ix d ps nm h hd hl
  let inv : Nat → St := fun _ => [("places", .tree (.list (IL ps))), ("extent", .tree (.int d)), ("ix", .tree ix)]
  have key := ax_key hl h.bound
  have hl2 : (IL ps).length ≤ lim := by rw [IL_len]; exact hl
  rcases h with ⟨rfl, _⟩ | ⟨⟨t, rfl⟩, _⟩
  all_goals
    exact fn [hc (.ret (.tree (.tup [.list (IL ps), .none]))) _, hv (.list (IL ps)), hls ((List.range ps.length).map fun (i : Nat) => AV.int i), hf .next (inv ps.length)] (A7 (c1 _) rfl hl2 (rng_IL hl)
      (forR (g := fun i => AV.int i) inv (A4 rfl rfl rfl trivial) fun i hi => by
        obtain ⟨p, h1, h2⟩ := key i hi
        exact ⟨[hv (.int p), hb false], A6 h1 (dle h2) rfl rfl rfl trivial⟩) rfl rfl)
end Mini

namespace Mini
open PySem

noncomputable def stepA (found ps : List Int) (s : Int) : List Int := found.flatMap fun b => ps.map fun p => b + p * s
theorem stepA_len (f ps : List Int) (s : Int) : (stepA f ps s).length = f.length * ps.length := by
  induction f with
  | nil => exact (Nat.zero_mul _).symm
  | cons a f ih =>
    unfold stepA at *
    rw [List.flatMap_cons, List.length_append, ih, List.length_map, List.length_cons, Nat.add_mul, Nat.one_mul, Nat.add_comm]
noncomputable def foldA (ks : List (List Int × Int)) : List Int := ks.foldr (fun k found => stepA found k.1 k.2) [0]
theorem foldA_len (ks : List (List Int × Int)) (h : ∀ k ∈ ks, k.1.length ≤ 3) : (foldA ks).length ≤ 3 ^ ks.length := by
  induction ks with
  | nil => exact Nat.le_refl 1
  | cons k ks ih =>
    show (stepA (foldA ks) k.1 k.2).length ≤ _
    rw [stepA_len, List.length_cons, Nat.pow_succ]
    exact Nat.mul_le_mul (ih fun k hk => h k (List.mem_cons_of_mem _ hk)) (h k List.mem_cons_self)
noncomputable def LL (pss : List (List Int)) : List AV := pss.map fun ps => .list (IL ps)
theorem LL_len (pss : List (List Int)) : (LL pss).length = pss.length := List.length_map _
noncomputable def placesOf (ds : List Int) (pss : List (List Int)) : List Int := foldA (pss.zip (strideL 1 ds))
noncomputable def fnd (i : Nat) (xs : List AV) : LV := match i with
  | 0 => .mlist xs
  | _ + 1 => .tree (.list xs)
theorem Ends.sub {α : Type} {F : St → Option (α × St)} {ρ ρ1 ρ2 : St} {a : α} (h : Ends F ρ a ρ1) (k : Sub ρ1 ρ2) : Ends F ρ a ρ2 := fun σ hA => by
  obtain ⟨σ', e, hA'⟩ := h σ hA
  exact ⟨σ', e, k.agree hA'⟩
theorem LL_get {pss : List (List Int)} {i : Nat} {ps : List Int} (h : pss[i]? = some ps) : (LL pss)[i]? = some (.list (IL ps)) := by unfold LL; rw [List.getElem?_map, h]; rfl
theorem IL_get' {l : List Int} {i : Nat} {p : Int} (h : l[i]? = some p) : (IL l)[i]? = some (.int p) := by rw [IL_get, h]; rfl
theorem pl_turn (ds : List Int) (pss : List (List Int)) (hn : ds.length ≤ 3) (hp : pss.length = ds.length) (hps : ∀ ps ∈ pss, ps.length ≤ 3 ∧ ∀ p ∈ ps, 0 ≤ p ∧ p ≤ 2) (hst : ∀ s ∈ strideL 1 ds, 0 ≤ s ∧ s ≤ 27) (i : Nat) (hi : i < ds.length) :
    ∃ ps s, subL (LL pss) ((ds.length - 1 - i : Nat) : Int) = some (.list (IL ps)) ∧ subL (IL (strideL 1 ds)) ((ds.length - 1 - i : Nat) : Int) = some (.int s) ∧ (ps.length ≤ 3 ∧ ∀ p ∈ ps, 0 ≤ p ∧ p ≤ 2) ∧ (0 ≤ s ∧ s ≤ 27) ∧
      (foldA ((pss.zip (strideL 1 ds)).drop (ds.length - i))).length ≤ 27 ∧ foldA ((pss.zip (strideL 1 ds)).drop (ds.length - (i + 1))) = stepA (foldA ((pss.zip (strideL 1 ds)).drop (ds.length - i))) ps s := by
  have hkl : (pss.zip (strideL 1 ds)).length = ds.length := by rw [List.length_zip, strideL_len, hp, Nat.min_self]
  have hkn : ds.length - 1 - i < (pss.zip (strideL 1 ds)).length := by omega
  obtain ⟨⟨ps, s⟩, h⟩ : ∃ q, (pss.zip (strideL 1 ds))[ds.length - 1 - i]? = some q := ⟨_, List.getElem?_eq_getElem hkn⟩
  obtain ⟨h1, h2⟩ := List.getElem?_zip_eq_some.mp h
  have hk : ds.length - 1 - i ≤ lim := by unfold lim; omega
  refine ⟨ps, s, sub_of (LL_get h1) rfl hk, sub_of (IL_get' h2) rfl hk, hps _ (List.mem_of_getElem? h1), hst _ (List.mem_of_getElem? h2), ?_, ?_⟩
  · refine Nat.le_trans (foldA_len _ fun q hq => (hps _ (List.of_mem_zip (List.mem_of_mem_drop hq)).1).1) ?_
    rw [List.length_drop, hkl]
    exact Nat.pow_le_pow_right (by decide : 3 > 0) (show ds.length - (ds.length - i) ≤ 3 by omega)
  · rw [show ds.length - (i + 1) = ds.length - 1 - i by omega, show ds.length - i = ds.length - 1 - i + 1 by omega, List.drop_eq_getElem_cons hkn]
    rw [List.getElem?_eq_getElem hkn] at h
    rw [Option.some.inj h]; rfl
theorem rng_dIL {ds : List Int} (h : ds.length ≤ lim) : rngList ((IL ds).length - 1 : Int) (-1) (-1) = some ((List.range ds.length).map fun (i : Nat) => AV.int ((ds.length - 1 - i : Nat) : Int)) := by rw [IL_len]; exact rng_dn h
theorem c_places (m : Nat) (ds : List Int) (pss : List (List Int)) (hn : ds.length ≤ 3) (hn0 : 0 < ds.length) (hd : ∀ d ∈ ds, 0 ≤ d ∧ d ≤ 3) (hp : pss.length = ds.length) (hps : ∀ ps ∈ pss, ps.length ≤ 3 ∧ ∀ p ∈ ps, 0 ≤ p ∧ p ≤ 2)
    (hst : ∀ s ∈ strideL 1 ds, 0 ≤ s ∧ s ≤ 27) :
    (interp tabV (m + 60)).C "array_places" [.tree (.list (IL ds)), .tree (.list (LL pss))] = some (.ret (.tree (.list (IL (placesOf ds pss)))), .tree (.list (IL ds))) := by
  have hl : ds.length ≤ lim := Nat.le_trans hn (by decide)
  let fr : St := [("axes", .tree (.list (LL pss))), ("steps", .mlist (IL (strideL 1 ds))), ("dims", .tree (.list (IL ds)))]
  let inv : Nat → St := fun i => ("found", fnd i (IL (foldA ((pss.zip (strideL 1 ds)).drop (ds.length - i))))) :: fr
  exact fn [hc (.ret (.mlist (IL (strideL 1 ds)))) _, hls ((List.range ds.length).map fun (i : Nat) => AV.int ((ds.length - 1 - i : Nat) : Int)), hf .next (("found", .tree (.list (IL (placesOf ds pss)))) :: fr)] (A6 (c_strides _ ds hn hd) (by rw [IL_len]; exact hl) (rng_dIL hl)
    (Ends.sub (ρ1 := inv ds.length) (forR (g := fun i => AV.int ((ds.length - 1 - i : Nat) : Int)) inv (A5 (by
        show some (LV.mlist (IL [0])) = some (LV.mlist (IL (foldA _)))
        rw [List.drop_of_length_le (by rw [List.length_zip, strideL_len]; omega)]; rfl) rfl rfl rfl trivial) (fun i hi => by
      obtain ⟨ps, s, g1, g2, hb, hs, hf, he⟩ := pl_turn ds pss hn hp hps hst i hi
      show Turn _ _ _ _ _ _ _ (("found", fnd i (IL (foldA ((pss.zip (strideL 1 ds)).drop (ds.length - i))))) :: fr) (("found", .tree (.list (IL (foldA ((pss.zip (strideL 1 ds)).drop (ds.length - (i + 1))))))) :: fr)
      rw [he]
      generalize foldA ((pss.zip (strideL 1 ds)).drop (ds.length - i)) = fo at hf
      generalize ((ds.length - 1 - i : Nat) : Int) = z at g1 g2
      let fr2 : St := ("k", .tree (.int z)) :: fr
      let inv2 : List Int → St := fun done => ("wider", .mlist (IL (stepA done ps s))) :: fr2
      let inv3 : List Int → Int → List Int → St := fun done a done2 => ("wider", .mlist (IL (stepA done ps s) ++ IL (done2.map fun p => a + p * s))) :: ("base", .tree (.int a)) :: fr2
      cases i
      all_goals
        exact ⟨[Mini.hf .next (inv2 fo)], A6 (forG (g := AV.int) inv2 (A6 rfl rfl rfl rfl rfl trivial) fun done a rest e =>
          ⟨[hv (.list (IL ps)), Mini.hf .next (inv3 done a ps)], A8 g1 (forG (g := AV.int) (inv3 done a) (A7 (sml (List.append_nil _).symm) rfl rfl rfl rfl rfl trivial) fun done2 p rest2 e2 => by
              have hpp := hb.2 p (pre_mem e2)
              have h1 := pre_len e
              have h2 := pre_len e2
              exact ⟨[hv (.int s)], A10 g2 ⟨by omega, by omega⟩ (by
                  rw [List.length_append, IL_len, IL_len, stepA_len, List.length_map]
                  have := Nat.mul_le_mul (show done.length ≤ 27 by omega) hb.1
                  unfold lim; omega) (sml (by rw [List.append_assoc, List.map_append, IL_app]; rfl)) rfl rfl rfl rfl rfl trivial⟩) (sml (by unfold stepA; rw [List.flatMap_append, List.flatMap_cons, List.flatMap_nil, List.append_nil, IL_app])) rfl rfl rfl rfl trivial⟩) rfl rfl rfl rfl trivial⟩)) (A5 (by
        show some (fnd ds.length _) = _
        rw [Nat.sub_self, List.drop_zero]
        cases hk : ds.length with
        | zero => omega
        | succ n => rfl) rfl rfl rfl trivial)) rfl rfl)
end Mini

namespace Mini
open PySem

noncomputable def valOf (a : AV) : AV := match a with
  | .list xs => .vec "character" (.list xs) .none
  | _ => .null
noncomputable def someL (ls : List AV) : Bool := ls.any fun a => !isNone a
noncomputable def headAttr (a : AV) : AV := match a with
  | .list hs => .dict ["names"] [.vec "character" (.list hs) .none]
  | _ => .none
def HdOk (h : AV) : Prop := h = .none ∨ ∃ hs, h = .list hs ∧ hs.length ≤ 3
def LsOk (ls : List AV) : Prop := ls.length ≤ 3 ∧ ∀ l ∈ ls, HdOk l
noncomputable def dval (b : Bool) (ls : List AV) (h : AV) : LV := match b with
  | true => .mvec "list" (.list (ls.map valOf)) (headAttr h)
  | false => .tree .none
theorem someL_snoc (l : List AV) (a : AV) : someL (l ++ [a]) = (someL l || !isNone a) := by unfold someL; rw [List.any_append, List.any_cons, List.any_nil, Bool.or_false]
theorem stb {a b : Bool} (h : a = b) : some (LV.tree (.bool a)) = some (.tree (.bool b)) := by rw [h]
theorem three {n : Nat} (h : n ≤ 3) : n ≤ lim := Nat.le_trans h (by decide)
theorem c_namedH (m : Nat) (k : Str) (i h : AV) (hh : HdOk h) : (interp tabV (m + 60)).C "named" [.mvec k i .none, .tree h] = some (.retv "v" (.mvec k i (headAttr h)), .mvec k i (headAttr h)) := by
  rcases hh with rfl | ⟨hs, rfl, hl⟩
  · exact c_named0 m k i .none
  · exact c_named1 m k i .none hs (three hl)
theorem c_dval (m : Nat) (ls : List AV) (h : AV) (hls : LsOk ls) (hh : HdOk h) :
    (interp tabV (m + 90)).C "dimnames_value" [.tree (.list ls), .tree h] = some (.ret (dval (someL ls) ls h), .tree (.list ls)) := by
  obtain ⟨hl, hls⟩ := hls
  let inv0 : Bool → List AV → St := fun b l => [("items", .mlist (l.map valOf)), ("filled", .tree (.bool b)), ("lists", .tree (.list ls)), ("heads", .tree h)]
  let inv : List AV → St := fun l => inv0 (someL l) l
  have r : LTurn m 88 (nsF "dimnames_value") "lists" (bodyS (hdS (tlS (tlS (bdF "dimnames_value"))))) "texts" (fun a => a) ls inv := by
    intro done a rest e
    have h1 : (done.map valOf).length ≤ lim := by rw [List.length_map]; exact three (Nat.le_trans (Nat.le_of_lt (pre_len e)) hl)
    have e1 := someL_snoc done a
    rcases hls a (pre_mem e) with rfl | ⟨xs, rfl, hx⟩
    · exact ⟨[], A6 h1 (sml (by rw [List.map_append]; rfl)) (stb (by rw [e1]; exact (Bool.or_false _).symm)) rfl rfl trivial⟩
    · exact ⟨[hc (.ret (.mvec "character" (.list xs) .none)) _, hc (.retv "v" (.mvec "character" (.list xs) .none)) (.mvec "character" (.list xs) .none)], A8 (c_character _ xs (three hx)) (c_share _ _ _ _) h1 (sml (by rw [List.map_append]; rfl)) (stb (by rw [e1]; exact (Bool.or_true _).symm)) rfl rfl trivial⟩
  cases q : someL ls with
  | false => exact fn [hf .next (inv0 false ls)] (A3 (Ends.sub (ρ1 := inv ls) (forG (g := fun a => a) inv (A5 rfl rfl rfl rfl trivial) r (id_map ls)) (A5 rfl (stb q) rfl rfl trivial)) rfl rfl)
  | true => exact fn [hf .next (inv0 true ls), hc (.retv "v" (.mvec "list" (.list (ls.map valOf)) (headAttr h))) (.mvec "list" (.list (ls.map valOf)) (headAttr h))] (A4 (Ends.sub (ρ1 := inv ls) (forG (g := fun a => a) inv (A5 rfl rfl rfl rfl trivial) r (id_map ls)) (A5 rfl (stb q) rfl rfl trivial)) (c_namedH _ _ _ h hh) rfl rfl)

noncomputable def shapeB (b : Bool) (ex l : List AV) (h : AV) : AV := match b with
  | true => .dict ["dim", "dimnames"] [.vec "integer" (.list ex) .none, .vec "list" (.list (l.map valOf)) (headAttr h)]
  | false => .dict ["dim"] [.vec "integer" (.list ex) .none]
noncomputable def shapeAt (ex : List AV) (ls h : AV) : AV := match ls with
  | .list l => shapeB (someL l) ex l h
  | _ => .dict ["dim"] [.vec "integer" (.list ex) .none]
def LsO (ls : AV) : Prop := ls = .none ∨ ∃ l, ls = .list l ∧ LsOk l
theorem c_shape (m : Nat) (k : Str) (i t : AV) (ex : List AV) (ls h : AV) (hx : ex.length ≤ 3) (hls : LsO ls) (hh : HdOk h) :
    (interp tabV (m + 120)).C "put_shape" [.mvec k i t, .tree (.list ex), .tree ls, .tree h] = some (.next, .mvec k i (shapeAt ex ls h)) := by
  have c1 := fun m => c_integer m ex (three hx)
  rcases hls with rfl | ⟨l, rfl, hl⟩
  · exact fn [hc (.ret (.mvec "integer" (.list ex) .none)) _] (A3 (c1 _) rfl rfl)
  · have c2 := fun m => c_dval m l h hl hh
    show _ = some (Flw.next, LV.mvec k i (shapeB (someL l) ex l h))
    revert c2
    cases someL l with
    | false => exact fun c2 => fn [hc (.ret (.mvec "integer" (.list ex) .none)) _, hc (.ret (.tree .none)) _] (A4 (c1 _) (c2 _) rfl rfl)
    | true => exact fun c2 => fn [hc (.ret (.mvec "integer" (.list ex) .none)) _, hc (.ret (.mvec "list" (.list (l.map valOf)) (headAttr h))) _] (A4 (c1 _) (c2 _) rfl rfl)
end Mini

namespace Mini
open PySem

noncomputable def NL (ds : List Nat) : List Int := ds.map fun (d : Nat) => (d : Int)
theorem NL_len (ds : List Nat) : (NL ds).length = ds.length := List.length_map _
theorem LL_snoc {pss : List (List Int)} {i : Nat} {ps : List Int} (h : pss[i]? = some ps) : LL (pss.take i) ++ [.list (IL ps)] = LL (pss.take (i + 1)) := by
  unfold LL
  rw [List.take_add_one, h, List.map_append]; rfl
def AxOk (ixs : List AV) (ds : List Nat) (pss : List (List Int)) : Prop := ixs.length = ds.length ∧ pss.length = ds.length ∧ ds.length ≤ 3 ∧ ∀ k, k < ds.length → ∃ ix d ps, ixs[k]? = some ix ∧ ds[k]? = some d ∧ pss[k]? = some ps ∧ IxOk ix d ps ∧ d ≤ 3 ∧ ps.length ≤ 3
theorem NL_get {ds : List Nat} {i d : Nat} (h : ds[i]? = some d) : (NL ds)[i]? = some (d : Int) := by unfold NL; rw [List.getElem?_map, h]; rfl
theorem ax_turn {ixs : List AV} {ds : List Nat} {pss : List (List Int)} (hA : AxOk ixs ds pss) (i : Nat) (hi : i < ds.length) :
    ∃ ix d ps, subL ixs (i : Int) = some ix ∧ subL (IL (NL ds)) (i : Int) = some (.int d) ∧ pss[i]? = some ps ∧ (∀ m nm, (interp tabV (m + 40)).C "axis" [.tree ix, .tree (.int d), .tree nm] = some (.ret (.tree (.list (IL ps))), .tree ix)) ∧ (LL (pss.take i)).length ≤ lim := by
  obtain ⟨a1, a2, a3, hA⟩ := hA
  obtain ⟨ix, d, ps, g1, g2, g3, hx, hd, hp⟩ := hA i hi
  have hk : i ≤ 3 := Nat.le_of_lt (Nat.lt_of_lt_of_le hi a3)
  exact ⟨ix, d, ps, sub_of g1 rfl (three hk), sub_of (IL_get' (NL_get g2)) rfl (three hk), g3, fun m nm => c_axis m ix d ps nm hx (three hd) (three hp), by rw [LL_len, List.length_take]; exact three (Nat.le_trans (Nat.min_le_left _ _) hk)⟩
theorem take_all {α : Type} {l : List α} {n : Nat} (h : l.length = n) : l.take n = l := by rw [← h]; exact List.take_length
theorem c_axes0 (m : Nat) (k0 : Str) (i0 : AV) (ks : List Str) (vs : List AV) (ixs : List AV) (ds : List Nat) (pss : List (List Int)) (h0 : dictGet "dimnames" ks vs = none) (hA : AxOk ixs ds pss) :
    (interp tabV (m + 160)).C "array_axes" [.tree (.vec k0 i0 (.dict ks vs)), .tree (.list (IL (NL ds))), .tree (.list ixs)] = some (.ret (.mlist (LL pss)), .tree (.vec k0 i0 (.dict ks vs))) := by
  have hl : (NL ds).length ≤ lim := by rw [NL_len]; exact three hA.2.2.1
  let inv0 : List (List Int) → St := fun ps => [("axes", .mlist (LL ps)), ("dimnames", .tree .none), ("dims", .tree (.list (IL (NL ds)))), ("indexes", .tree (.list ixs)), ("v", .tree (.vec k0 i0 (.dict ks vs)))]
  let inv : Nat → St := fun i => inv0 (pss.take i)
  exact fn [hc (.ret (.tree .none)) _, hls ((List.range (NL ds).length).map fun (i : Nat) => AV.int i), hf .next (inv0 pss)] (A6 (c_dn0 _ k0 i0 ks vs h0) (by rw [IL_len]; exact hl) (rng_IL hl)
    (Ends.sub (ρ1 := inv (NL ds).length) (forR (g := fun i => AV.int i) inv (A6 rfl rfl rfl rfl rfl trivial) fun i hi => by
      obtain ⟨ix, d, ps, g1, g2, g3, g4, g5⟩ := ax_turn hA i (by rw [NL_len] at hi; exact hi)
      exact ⟨[hv ix, hv (.int d), hc (.ret (.tree (.list (IL ps)))) _], A10 g1 g2 (g4 _ _) g5 (sml (LL_snoc g3)) rfl rfl rfl rfl trivial⟩)
      (A6 (sml (by rw [take_all (by rw [NL_len]; exact hA.2.1)])) rfl rfl rfl rfl trivial)) rfl rfl)
theorem c_axes1 (m : Nat) (k0 : Str) (i0 : AV) (ks : List Str) (vs : List AV) (ixs : List AV) (ds : List Nat) (pss : List (List Int)) (k2 : Str) (parts : List AV) (t2 : AV) (h0 : dictGet "dimnames" ks vs = some (.vec k2 (.list parts) t2)) (hpt : ∀ p ∈ parts, IsPart p) (hpl : parts.length = ds.length) (hA : AxOk ixs ds pss) :
    (interp tabV (m + 160)).C "array_axes" [.tree (.vec k0 i0 (.dict ks vs)), .tree (.list (IL (NL ds))), .tree (.list ixs)] = some (.ret (.mlist (LL pss)), .tree (.vec k0 i0 (.dict ks vs))) := by
  have hl : (NL ds).length ≤ lim := by rw [NL_len]; exact three hA.2.2.1
  have c1 := fun m => c_dn1 m k0 i0 ks vs k2 parts t2 h0 hpt (by rw [hpl]; exact three hA.2.2.1)
  have hdl : (parts.map partOf).length = ds.length := by rw [List.length_map]; exact hpl
  revert c1 hdl
  generalize parts.map partOf = dn
  intro c1 hdl
  let fr : St := [("dims", .tree (.list (IL (NL ds)))), ("indexes", .tree (.list ixs)), ("v", .tree (.vec k0 i0 (.dict ks vs)))]
  let inv0 : List (List Int) → St := fun ps => ("axes", .mlist (LL ps)) :: fr
  let inv : Nat → St := fun i => ("axes", .mlist (LL (pss.take i))) :: ("dimnames", fnd i dn) :: fr
  exact fn [hc (.ret (.mlist dn)) _, hls ((List.range (NL ds).length).map fun (i : Nat) => AV.int i), hf .next (inv0 pss)] (A6 (c1 _) (by rw [IL_len]; exact hl) (rng_IL hl)
    (Ends.sub (ρ1 := inv (NL ds).length) (forR (g := fun i => AV.int i) inv (A6 rfl rfl rfl rfl rfl trivial) fun i hi => by
      have hi : i < ds.length := by rw [NL_len] at hi; exact hi
      obtain ⟨ix, d, ps, g1, g2, g3, g4, g5⟩ := ax_turn hA i hi
      obtain ⟨q, h9⟩ : ∃ q, dn[i]? = some q := ⟨_, List.getElem?_eq_getElem (by rw [hdl]; exact hi)⟩
      have g9 : subL dn (i : Int) = some q := sub_of h9 rfl (three (Nat.le_trans (Nat.le_of_lt hi) hA.2.2.1))
      have g10 := LL_snoc g3
      show Turn _ _ _ _ _ _ _ (("axes", .mlist (LL (pss.take i))) :: ("dimnames", fnd i dn) :: fr) (("axes", .mlist (LL (pss.take (i + 1)))) :: ("dimnames", .tree (.list dn)) :: fr)
      generalize (i : Int) = z at g1 g2 g9
      cases i
      all_goals exact ⟨[hv q, hv ix, hv (.int d), hc (.ret (.tree (.list (IL ps)))) _], A11 g9 g1 g2 (g4 _ _) g5 (sml g10) rfl rfl rfl rfl trivial⟩)
      (A5 (sml (by rw [take_all (by rw [NL_len]; exact hA.2.1)])) rfl rfl rfl trivial)) rfl rfl)

noncomputable def pickOne (a : AV) (ps : List Int) : AV := match a with
  | .list xs => .list (pick xs ps)
  | _ => .none
noncomputable def pickedL : List AV → List (List Int) → List AV
  | [], _ => []
  | d :: dn, pss => (match pss with
    | [] => []
    | ps :: pss => pickOne d ps :: pickedL dn pss)
theorem pickedL_len (dn : List AV) : ∀ (pss : List (List Int)), dn.length = pss.length → (pickedL dn pss).length = dn.length := by
  induction dn with
  | nil => exact fun _ _ => rfl
  | cons d dn ih =>
    intro pss h
    cases pss with
    | nil => cases h
    | cons ps pss => exact congrArg (· + 1) (ih pss (Nat.succ.inj h))
theorem pickedL_take (dn : List AV) : ∀ (pss : List (List Int)) (i : Nat) (d : AV) (ps : List Int), dn[i]? = some d → pss[i]? = some ps → (pickedL dn pss).take i ++ [pickOne d ps] = (pickedL dn pss).take (i + 1) := by
  induction dn with
  | nil => exact fun _ _ _ _ h => nomatch h
  | cons a dn ih =>
    intro pss i d ps h1 h2
    cases pss with
    | nil => cases h2
    | cons b pss =>
      cases i with
      | zero => cases h1; cases h2; rfl
      | succ i => exact congrArg (pickOne a b :: ·) (ih pss i d ps h1 h2)
def NmOk (d : AV) (ps : List Int) : Prop := d = .none ∨ ∃ xs, d = .list xs ∧ xs.length ≤ 3 ∧ ∀ p ∈ ps, 0 ≤ p ∧ p < xs.length
theorem c_picked0 (m : Nat) (k0 : Str) (i0 : AV) (ks : List Str) (vs : List AV) (ax : AV) (h0 : dictGet "dimnames" ks vs = none) :
    (interp tabV (m + 90)).C "picked_dimnames" [.tree (.vec k0 i0 (.dict ks vs)), .tree ax] = some (.ret (.tree .none), .tree (.vec k0 i0 (.dict ks vs))) :=
  fn [hc (.ret (.tree .none)) _] (A3 (c_dn0 _ k0 i0 ks vs h0) rfl rfl)
theorem c_picked1 (m : Nat) (k0 : Str) (i0 : AV) (ks : List Str) (vs : List AV) (pss : List (List Int)) (k2 : Str) (parts : List AV) (t2 : AV) (h0 : dictGet "dimnames" ks vs = some (.vec k2 (.list parts) t2)) (hpt : ∀ p ∈ parts, IsPart p) (hpl : parts.length = pss.length) (hp3 : pss.length ≤ 3)
    (hps : ∀ ps ∈ pss, ps.length ≤ 3) (hnm : ∀ (i : Nat) (d : AV) (ps : List Int), (parts.map partOf)[i]? = some d → pss[i]? = some ps → NmOk d ps) :
    (interp tabV (m + 90)).C "picked_dimnames" [.tree (.vec k0 i0 (.dict ks vs)), .tree (.list (LL pss))] = some (.ret (.mlist (pickedL (parts.map partOf) pss)), .tree (.vec k0 i0 (.dict ks vs))) := by
  have c1 := fun m => c_dn1 m k0 i0 ks vs k2 parts t2 h0 hpt (by rw [hpl]; exact three hp3)
  have hdl : (parts.map partOf).length = pss.length := by rw [List.length_map]; exact hpl
  have hl : pss.length ≤ lim := three hp3
  revert c1 hdl hnm
  generalize parts.map partOf = dn
  intro hnm c1 hdl
  let inv0 : List AV → St := fun l => [("picked", .mlist l), ("axes", .tree (.list (LL pss))), ("dimnames", .tree (.list dn)), ("v", .tree (.vec k0 i0 (.dict ks vs)))]
  let inv : Nat → St := fun i => inv0 ((pickedL dn pss).take i)
  exact fn [hc (.ret (.mlist dn)) _, hls ((List.range pss.length).map fun (i : Nat) => AV.int i), hf .next (inv0 (pickedL dn pss))] (A6 (c1 _) (by rw [LL_len]; exact hl) (by rw [LL_len]; exact rng_up hl)
    (Ends.sub (ρ1 := inv pss.length) (forR (g := fun i => AV.int i) inv (A5 rfl rfl rfl rfl trivial) fun i hi => by
      obtain ⟨d, h1⟩ : ∃ d, dn[i]? = some d := ⟨_, List.getElem?_eq_getElem (by rw [hdl]; exact hi)⟩
      obtain ⟨ps, h2⟩ : ∃ ps, pss[i]? = some ps := ⟨_, List.getElem?_eq_getElem hi⟩
      have hi3 : i ≤ 3 := Nat.le_trans (Nat.le_of_lt hi) hp3
      have g1 : subL dn (i : Int) = some d := sub_of h1 rfl (three hi3)
      have g3 : subL (LL pss) (i : Int) = some (.list (IL ps)) := sub_of (LL_get h2) rfl (three hi3)
      have g7 : ((pickedL dn pss).take i).length ≤ lim := by rw [List.length_take]; exact three (Nat.le_trans (Nat.min_le_left _ _) hi3)
      have g8 := pickedL_take dn pss i d ps h1 h2
      have hpl := hps ps (List.mem_of_getElem? h2)
      rcases hnm i d ps h1 h2 with rfl | ⟨xs, rfl, hx, hb⟩
      · exact ⟨[hv .none], A7 g1 g7 (sml g8) rfl rfl rfl trivial⟩
      · exact ⟨[hv (.list xs), hv (.list xs), hv (.list (IL ps)), hc (.ret (.mlist (pick xs ps))) _], A10 g1 g1 g3 (c_names_at _ xs ps (three hx) (three hpl) hb) g7 (sml g8) rfl rfl rfl trivial⟩)
      (A5 (sml (take_all ((pickedL_len dn pss hdl).trans hdl))) rfl rfl rfl trivial)) rfl rfl)
end Mini

namespace Mini
open PySem

noncomputable def someR (l : List AV) : List AV := l.filter fun a => !isNone a
noncomputable def oneOf (l : List AV) : AV := match l with
  | [] => .none
  | a :: r => (match r with
    | [] => a
    | _ :: _ => .none)
noncomputable def onlyL (l : List AV) : AV := oneOf (someR l)
theorem someR_none (l : List AV) : someR (.none :: l) = someR l := rfl
theorem someR_list (xs l : List AV) : someR (.list xs :: l) = .list xs :: someR l := rfl
theorem Ends.pre {α : Type} {F : St → Option (α × St)} {ρ ρ1 ρ2 : St} {a : α} (h : Ends F ρ1 a ρ2) (k : Sub ρ ρ1) : Ends F ρ a ρ2 := fun σ hA => h σ (k.agree hA)
structure OT (m k : Nat) (ns : Names) (fx : Str) (body : List Stmt) (x : Str) (L : AV) : Prop where
  a : ∀ f, Turn m k ns fx body x .none [("found", .tree f), ("lists", .tree L)] [("found", .tree f), ("lists", .tree L)]
  b : ∀ xs, Turn m k ns fx body x (.list xs) [("found", .tree .none), ("lists", .tree L)] [("found", .tree (.list xs)), ("lists", .tree L)]
  c : ∀ xs ys, ∃ hs, (kin m k).B ns fx body ((x, .tree (.list xs)) :: [("found", .tree (.list ys)), ("lists", .tree L)]) hs fun fl ρ2 _ => fl = .ret (.tree .none) ∧ Sub ρ2 [("lists", .tree L)]
section
variable {m k : Nat} {ns : Names} {fx : Str} {body : List Stmt} {x : Str} {L : AV}
theorem OT.none (h : OT m k ns fx body x L) (f : AV) (l : List AV) (hl : ∀ a ∈ l, HdOk a) (q : someR l = []) : Ends (forL ((interp tabV (m + k)).B ns fx body) x l) [("found", .tree f), ("lists", .tree L)] .next [("found", .tree f), ("lists", .tree L)] := by
  induction l with
  | nil => exact fun σ hA => ⟨σ, rfl, hA⟩
  | cons a l ih =>
    rcases hl a List.mem_cons_self with rfl | ⟨xs, rfl, _⟩
    · exact for_cons (h.a f) (ih (fun a ha => hl a (List.mem_cons_of_mem _ ha)) q)
    · cases q
theorem OT.ret (h : OT m k ns fx body x L) (ys : List AV) (l : List AV) (hl : ∀ a ∈ l, HdOk a) (q : someR l ≠ []) : Ends (forL ((interp tabV (m + k)).B ns fx body) x l) [("found", .tree (.list ys)), ("lists", .tree L)] (.ret (.tree .none)) [("lists", .tree L)] := by
  induction l with
  | nil => exact absurd rfl q
  | cons a l ih =>
    rcases hl a List.mem_cons_self with rfl | ⟨xs, rfl, _⟩
    · exact for_cons (h.a _) (ih (fun a ha => hl a (List.mem_cons_of_mem _ ha)) q)
    · exact for_ret (h.c xs ys)
theorem OT.one (h : OT m k ns fx body x L) (l : List AV) (hl : ∀ a ∈ l, HdOk a) (b : AV) (q : someR l = [b]) : Ends (forL ((interp tabV (m + k)).B ns fx body) x l) [("found", .tree .none), ("lists", .tree L)] .next [("found", .tree b), ("lists", .tree L)] := by
  induction l with
  | nil => cases q
  | cons a l ih =>
    have hl2 := fun a ha => hl a (List.mem_cons_of_mem _ ha)
    rcases hl a List.mem_cons_self with rfl | ⟨xs, rfl, _⟩
    · exact for_cons (h.a _) (ih hl2 q)
    · rw [someR_list] at q
      injection q with q1 q2
      subst q1
      exact for_cons (h.b xs) (h.none _ l hl2 q2)
theorem OT.two (h : OT m k ns fx body x L) (l : List AV) (hl : ∀ a ∈ l, HdOk a) (b c : AV) (r : List AV) (q : someR l = b :: c :: r) : Ends (forL ((interp tabV (m + k)).B ns fx body) x l) [("found", .tree .none), ("lists", .tree L)] (.ret (.tree .none)) [("lists", .tree L)] := by
  induction l with
  | nil => cases q
  | cons a l ih =>
    have hl2 := fun a ha => hl a (List.mem_cons_of_mem _ ha)
    rcases hl a List.mem_cons_self with rfl | ⟨xs, rfl, _⟩
    · exact for_cons (h.a _) (ih hl2 q)
    · rw [someR_list] at q
      injection q with q1 q2
      exact for_cons (h.b xs) (h.ret xs l hl2 (by rw [q2]; exact nofun))
end
theorem c_only (m : Nat) (l : List AV) (hl : ∀ a ∈ l, HdOk a) :
    (interp tabV (m + 40)).C "only_names" [.tree (.list l)] = some (.ret (.tree (onlyL l)), .tree (.list l)) := by
  have t : OT m 38 (nsF "only_names") "lists" (bodyS (hdS (tlS (bdF "only_names")))) "texts" (.list l) :=
    ⟨fun f => ⟨[], A3 rfl rfl trivial⟩, fun xs => ⟨[], A3 rfl rfl trivial⟩, fun xs ys => ⟨[], A3 rfl rfl trivial⟩⟩
  unfold onlyL
  cases q : someR l with
  | nil => exact fn [hf .next [("found", .tree .none), ("lists", .tree (.list l))]] (A3 ((t.none .none l hl q).pre (A3 rfl rfl trivial)) rfl rfl)
  | cons a r =>
    cases r with
    | nil => exact fn [hf .next [("found", .tree a), ("lists", .tree (.list l))]] (A3 ((t.one l hl a q).pre (A3 rfl rfl trivial)) rfl rfl)
    | cons b r => exact fn [hf (.ret (.tree .none)) [("lists", .tree (.list l))]] (A3 ((t.two l hl a b r q).pre (A3 rfl rfl trivial)) rfl rfl)

noncomputable def keptOf (ex : List Int) : List Nat := (List.range ex.length).filter fun k => ex[k]? != some 1
noncomputable def KL (ks : List Nat) : List AV := ks.map fun (i : Nat) => AV.int (i : Int)
noncomputable def pickN (xs : List AV) (ks : List Nat) : List AV := ks.map fun k => (xs[k]?).getD .none
theorem KL_len (ks : List Nat) : (KL ks).length = ks.length := List.length_map _
theorem pickN_len (xs : List AV) (ks : List Nat) : (pickN xs ks).length = ks.length := List.length_map _
theorem kept_len (ex : List Int) : (keptOf ex).length ≤ ex.length := by
  have := List.length_filter_le (fun k => ex[k]? != some 1) (List.range ex.length)
  rw [List.length_range] at this
  exact this
theorem kept_mem {ex : List Int} {k : Nat} (h : k ∈ keptOf ex) : k < ex.length := List.mem_range.mp (List.mem_filter.mp h).1
theorem flat_filter {α : Type} (p : α → Bool) (f : α → AV) (l : List α) : l.flatMap (fun i => if p i = true then [f i] else []) = (l.filter p).map f := by
  induction l with
  | nil => rfl
  | cons a l ih =>
    rw [List.flatMap_cons, List.filter_cons, ih]
    cases p a <;> rfl
noncomputable def pickO (a : AV) (ks : List Nat) : AV := match a with
  | .list l => .list (pickN l ks)
  | _ => .none
noncomputable def pickV (a : AV) (ks : List Nat) : LV := match a with
  | .list l => .mlist (pickN l ks)
  | _ => .tree .none
theorem pickN_LsOk {l : List AV} {ks : List Nat} (h : LsOk l) (hk : ks.length ≤ 3) : LsOk (pickN l ks) := by
  refine ⟨by rw [pickN_len]; exact hk, fun a ha => ?_⟩
  obtain ⟨k, _, rfl⟩ := List.mem_map.mp ha
  cases q : l[k]? with
  | none => exact .inl rfl
  | some a => exact h.2 a (List.mem_of_getElem? q)
theorem someR_mem {l : List AV} {a : AV} (h : a ∈ someR l) : a ∈ l := (List.mem_filter.mp h).1
theorem onlyL_ok {l : List AV} (h : ∀ a ∈ l, HdOk a) : HdOk (onlyL l) := by
  unfold onlyL
  cases q : someR l with
  | nil => exact .inl rfl
  | cons a r =>
    cases r with
    | nil => exact h a (someR_mem (by rw [q]; exact List.mem_cons_self))
    | cons _ _ => exact .inl rfl
theorem Ends.us {α : Type} {F : St → Option (α × St)} {ρ ρ1 : St} {a b : α} (h : Ends F ρ a ρ1) (e : a = b) : Ends F ρ b ρ1 := by rw [← e]; exact h
theorem comp_pick {m k : Nat} {ns : Names} {elt : Expr} {g : Comprehension} {ρ : St} (x : Str) (xs : List AV) (ks : List Nat) (ρ' : St) (h0 : Sub ρ ρ') (hk : ∀ k ∈ ks, k < xs.length) (hl : xs.length ≤ 3)
    (turn : ∀ z t, subL xs z = some t → Row m k ns elt x g.ifs (.int z) ρ' [t] ρ') (hx : nameOf g.target = some x := by rfl) (hz : isZero g.is_async = true := by rfl) :
    Ends (compIn (interp tabV (m + k)) ns elt [g] (KL ks)) ρ (pickN xs ks) ρ' :=
  comp_map (l := ks) (q := fun (i : Nat) => AV.int (i : Int)) x (fun k => (xs[k]?).getD .none) ρ' h0 (fun i hi => turn _ _ (by
    have := hk i hi
    exact sub_of (by rw [List.getElem?_eq_getElem this]; rfl) rfl (three (Nat.le_trans (Nat.le_of_lt this) hl)))) hx hz rfl
theorem comp_kept {m k : Nat} {ns : Names} {elt : Expr} {g : Comprehension} {ρ : St} (x : Str) (ex : List Int) (ρ' : St) (hl : ex.length ≤ 3) (h0 : Sub ρ ρ')
    (t1 : ∀ z e, subL (IL ex) z = some (.int e) → decide (e = 1) = true → Row m k ns elt x g.ifs (.int z) ρ' [] ρ') (t2 : ∀ z e, subL (IL ex) z = some (.int e) → decide (e = 1) = false → Row m k ns elt x g.ifs (.int z) ρ' [.int z] ρ')
    (hx : nameOf g.target = some x := by rfl) (hz : isZero g.is_async = true := by rfl) :
    Ends (compIn (interp tabV (m + k)) ns elt [g] ((List.range ex.length).map fun (i : Nat) => AV.int (i : Int))) ρ (KL (keptOf ex)) ρ' :=
  (comp_flt (l := List.range ex.length) (q := fun (i : Nat) => AV.int (i : Int)) x (fun i => if (ex[i]? != some 1) = true then [AV.int (i : Int)] else []) ρ' h0 (fun i hi => by
      have hi := List.mem_range.mp hi
      have g : subL (IL ex) (i : Int) = some (.int ex[i]) := sub_of (by rw [IL_get, List.getElem?_eq_getElem hi]; rfl) rfl (three (Nat.le_trans (Nat.le_of_lt hi) hl))
      rw [List.getElem?_eq_getElem hi]
      by_cases q : ex[i] = 1
      · rw [if_neg (by rw [q]; decide)]
        exact t1 _ _ g (decide_eq_true q)
      · rw [if_pos (by rw [bne_iff_ne]; exact fun e => q (Option.some.inj e))]
        exact t2 _ _ g (decide_eq_false q)) hx hz rfl).us (flat_filter _ _ _)
end Mini

namespace Mini
open PySem

section
variable (k : Str) (i : AV) (ex : List Int) (ls h : AV)
noncomputable abbrev drK : St := [("kept", .mlist (KL (keptOf ex))), ("extents", .tree (.list (IL ex))), ("lists", .tree ls), ("heads", .tree h), ("result", .mvec k i .none)]
noncomputable abbrev drF : St := [("kept", .tree (.list (KL (keptOf ex)))), ("extents", .tree (.list (IL ex))), ("lists", .tree ls), ("heads", .tree h), ("result", .mvec k i .none)]
noncomputable abbrev dr1 : St := ("kept_heads", .tree .none) :: ("names", pickV ls (keptOf ex)) :: drF k i ex ls h
noncomputable abbrev dr2 : St := ("kept_heads", pickV h (keptOf ex)) :: ("names", pickV ls (keptOf ex)) :: drF k i ex ls h
noncomputable abbrev drS : List Stmt := bodyS (hdS (tlS (bdF "put_dropped")))
end
theorem kept_lt {ex : List Int} {n : Nat} (h : n = ex.length) : ∀ k ∈ keptOf ex, k < n := fun k hk => by rw [h]; exact kept_mem hk
theorem dr_a (m : Nat) (k : Str) (i : AV) (ex : List Int) (ls h : AV) (hx : ex.length ≤ 3) (hls : ls = .none ∨ ∃ l, ls = .list l ∧ l.length = ex.length) :
    Ends (stepS (interp tabV (m + 157)) (nsF "put_dropped") "result" (hdS (tlS (tlS drS)))) (("kept_heads", .tree .none) :: ("names", .tree .none) :: drF k i ex ls h) .next (dr1 k i ex ls h) := by
  rcases hls with rfl | ⟨l, rfl, hl⟩
  · exact cut [] (A8 rfl rfl rfl rfl rfl rfl rfl trivial)
  · exact cut [hu (pickN l (keptOf ex)) [("lists", .tree (.list l))]] (A4 ⟨rfl, rfl⟩ (comp_pick "k" l (keptOf ex) [("lists", .tree (.list l))] (A2 rfl trivial) (kept_lt hl) (by rw [hl]; exact hx) fun z t q => ⟨[hv t], A3 q rfl (A2 rfl trivial)⟩)
      (by rw [pickN_len]; exact three (Nat.le_trans (kept_len ex) hx)) (A8 rfl rfl rfl rfl rfl rfl rfl trivial))
theorem dr_b (m : Nat) (k : Str) (i : AV) (ex : List Int) (ls h : AV) (hx : ex.length ≤ 3) (hls : h = .none ∨ ∃ l, h = .list l ∧ l.length = ex.length) :
    Ends (stepS (interp tabV (m + 157)) (nsF "put_dropped") "result" (hdS (tlS (tlS (tlS drS))))) (dr1 k i ex ls h) .next (dr2 k i ex ls h) := by
  rcases hls with rfl | ⟨l, rfl, hl⟩
  · exact cut [] (A8 rfl rfl rfl rfl rfl rfl rfl trivial)
  · exact cut [hu (pickN l (keptOf ex)) [("heads", .tree (.list l))]] (A4 ⟨rfl, rfl⟩ (comp_pick "k" l (keptOf ex) [("heads", .tree (.list l))] (A2 rfl trivial) (kept_lt hl) (by rw [hl]; exact hx) fun z t q => ⟨[hv t], A3 q rfl (A2 rfl trivial)⟩)
      (by rw [pickN_len]; exact three (Nat.le_trans (kept_len ex) hx)) (A8 rfl rfl rfl rfl rfl rfl rfl trivial))
theorem pickV_cases {a : AV} {ex : List Int} (h : a = .none ∨ ∃ l, a = .list l ∧ l.length = ex.length) : pickV a (keptOf ex) = .tree (pickO a (keptOf ex)) ∨ ∃ l, pickV a (keptOf ex) = .mlist l ∧ pickO a (keptOf ex) = .list l := by
  rcases h with rfl | ⟨l, rfl, _⟩
  · exact .inl rfl
  · exact .inr ⟨_, rfl, rfl⟩
theorem dr_c (m : Nat) (k : Str) (i : AV) (ex : List Int) (ls h : AV) (hx : ex.length ≤ 3) (hls : ls = .none ∨ ∃ l, ls = .list l ∧ l.length = ex.length) (hh : h = .none ∨ ∃ l, h = .list l ∧ l.length = ex.length) (h1 : LsO (pickO ls (keptOf ex))) (h2 : HdOk (pickO h (keptOf ex))) :
    Ends (stepS (interp tabV (m + 157)) (nsF "put_dropped") "result" (hdS (tlS (tlS (tlS (tlS drS)))))) (dr2 k i ex ls h) .next [("result", .mvec k i (shapeAt (pickN (IL ex) (keptOf ex)) (pickO ls (keptOf ex)) (pickO h (keptOf ex))))] := by
  have hp : (pickN (IL ex) (keptOf ex)).length ≤ 3 := by rw [pickN_len]; exact Nat.le_trans (kept_len ex) hx
  have c := fun m => c_shape m k i .none (pickN (IL ex) (keptOf ex)) _ _ hp h1 h2
  have hil := IL_len ex
  show Ends _ (("kept_heads", pickV h (keptOf ex)) :: ("names", pickV ls (keptOf ex)) :: drF k i ex ls h) _ _
  rcases pickV_cases hls with e1 | ⟨l1, e1, e3⟩ <;> rcases pickV_cases hh with e2 | ⟨l2, e2, e4⟩
  all_goals
    rw [e1, e2]
    first | rw [e3] at c | skip
    first | rw [e4] at c | skip
    exact cut [hu (pickN (IL ex) (keptOf ex)) [("extents", .tree (.list (IL ex)))], hc .next (.mvec k i (shapeAt (pickN (IL ex) (keptOf ex)) (pickO ls (keptOf ex)) (pickO h (keptOf ex))))]
      (A6 ⟨rfl, rfl⟩ (comp_pick "k" (IL ex) (keptOf ex) [("extents", .tree (.list (IL ex)))] (A2 rfl trivial) (kept_lt hil) (by rw [hil]; exact hx) fun z t q => ⟨[hv t], A3 q rfl (A2 rfl trivial)⟩) (three hp) (by first | exact c _ | (rw [e3, e4]; exact c _) | (rw [e3]; exact c _) | (rw [e4]; exact c _)) rfl trivial)
theorem dr_k (m : Nat) (k : Str) (i : AV) (ex : List Int) (ls h : AV) (hx : ex.length ≤ 3) :
    Ends (stepS (interp tabV (m + 158)) (nsF "put_dropped") "result" (hdS (bdF "put_dropped"))) [("result", .mvec k i .none), ("extents", .tree (.list (IL ex))), ("lists", .tree ls), ("heads", .tree h)] .next (drK k i ex ls h) := by
  have hl : ex.length ≤ lim := three hx
  exact cut [hls ((List.range ex.length).map fun (i : Nat) => AV.int i), hu (KL (keptOf ex)) [("extents", .tree (.list (IL ex)))]] (A10 ⟨rfl, rfl⟩ (by rw [IL_len]; exact hl) (rng_IL hl)
    (comp_kept "k" ex [("extents", .tree (.list (IL ex)))] hx (A2 rfl trivial) (fun z e g q => by exact ⟨[hv (.int e), hb true], A4 g q rfl (A2 rfl trivial)⟩) (fun z e g q => by exact ⟨[hv (.int e), hb false], A4 g q rfl (A2 rfl trivial)⟩)) (by rw [KL_len]; exact Nat.le_trans (kept_len ex) hl) rfl rfl rfl rfl (A2 rfl trivial))
noncomputable def qOf (ex : List Int) (l : List AV) : AV := if (keptOf ex).length = 1 then ((pickN l (keptOf ex)).head?).getD .none else onlyL l
theorem c_dropS (m : Nat) (k : Str) (i : AV) (ex : List Int) (ls h : AV) (hx : ex.length ≤ 3) (hA : 1 < (keptOf ex).length) (hls : ls = .none ∨ ∃ l, ls = .list l ∧ LsOk l ∧ l.length = ex.length) (hh : h = .none ∨ ∃ hs, h = .list hs ∧ hs.length = ex.length) :
    (interp tabV (m + 160)).C "put_dropped" [.mvec k i .none, .tree (.list (IL ex)), .tree ls, .tree h] = some (.next, .mvec k i (shapeAt (pickN (IL ex) (keptOf ex)) (pickO ls (keptOf ex)) (pickO h (keptOf ex)))) := by
  have hk := Nat.le_trans (kept_len ex) hx
  have hls2 : ls = .none ∨ ∃ l, ls = .list l ∧ l.length = ex.length := by
    rcases hls with e | ⟨l, e, _, e2⟩
    · exact .inl e
    · exact .inr ⟨l, e, e2⟩
  exact fn [Mini.hk (drK k i ex ls h), hb true, hsk, hsk, Mini.hk (dr1 k i ex ls h), Mini.hk (dr2 k i ex ls h), Mini.hk [("result", .mvec k i (shapeAt (pickN (IL ex) (keptOf ex)) (pickO ls (keptOf ex)) (pickO h (keptOf ex))))]]
    (A8 (dr_k m k i ex ls h hx) (by rw [KL_len]; exact three hk) (decide_eq_true (by rw [KL_len]; omega)) ((dr_a m k i ex ls h hx hls2).pre (A8 rfl rfl rfl rfl rfl rfl rfl trivial)) (dr_b m k i ex ls h hx hh) (dr_c m k i ex ls h hx hls2 hh (by
      rcases hls with rfl | ⟨l, rfl, e, _⟩
      · exact .inl rfl
      · exact .inr ⟨_, rfl, pickN_LsOk e hk⟩) (by
      rcases hh with rfl | ⟨l, rfl, e⟩
      · exact .inl rfl
      · exact .inr ⟨_, rfl, by rw [pickN_len]; exact hk⟩)) rfl rfl)
theorem c_drop0 (m : Nat) (k : Str) (i : AV) (ex : List Int) (h : AV) (hx : ex.length ≤ 3) (hA : ¬ 1 < (keptOf ex).length) :
    (interp tabV (m + 160)).C "put_dropped" [.mvec k i .none, .tree (.list (IL ex)), .tree .none, .tree h] = some (.next, .mvec k i .none) :=
  fn [hk (drK k i ex .none h), hb false] (A5 (dr_k m k i ex .none h hx) (by rw [KL_len]; exact three (Nat.le_trans (kept_len ex) hx)) (decide_eq_false (by rw [KL_len]; omega)) rfl rfl)
theorem c_dropT (m : Nat) (k : Str) (i : AV) (ex : List Int) (l : List AV) (h : AV) (hx : ex.length ≤ 3) (hA : ¬ 1 < (keptOf ex).length) (hlo : LsOk l) (hll : l.length = ex.length) :
    HdOk (qOf ex l) ∧ (interp tabV (m + 160)).C "put_dropped" [.mvec k i .none, .tree (.list (IL ex)), .tree (.list l), .tree h] = some (.next, .tree (.vec k i (headAttr (qOf ex l)))) := by
  have hk := Nat.le_trans (kept_len ex) hx
  have h2 : (KL (keptOf ex)).length ≤ lim := by rw [KL_len]; exact three hk
  have h3 : decide ((1 : Int) < ((KL (keptOf ex)).length : Int)) = false := decide_eq_false (by rw [KL_len]; omega)
  unfold qOf
  by_cases hC : (keptOf ex).length = 1
  · rw [if_pos hC]
    have h4 : decide (((KL (keptOf ex)).length : Int) = 1) = true := decide_eq_true (by rw [KL_len]; omega)
    have d := dr_k m k i ex (.list l) h hx
    obtain ⟨k0, hk0⟩ : ∃ k0, keptOf ex = [k0] := List.length_eq_one_iff.mp hC
    have hk1 : k0 < l.length := by rw [hll]; exact kept_mem (by rw [hk0]; exact List.mem_cons_self)
    have g1 : subL (KL (keptOf ex)) 0 = some (.int (k0 : Int)) := by rw [hk0]; exact sub_of (i := 0) rfl rfl (Nat.zero_le _)
    have g2 : subL l (k0 : Int) = some (((pickN l (keptOf ex)).head?).getD .none) := by
      rw [hk0]
      show _ = some ((l[k0]?).getD .none)
      exact sub_of (by rw [List.getElem?_eq_getElem hk1]; rfl) rfl (by have := hlo.1; unfold lim; omega)
    have hq : HdOk (((pickN l (keptOf ex)).head?).getD .none) := by
      rw [hk0]
      show HdOk ((l[k0]?).getD .none)
      rw [List.getElem?_eq_getElem hk1]
      exact hlo.2 _ (List.getElem_mem hk1)
    refine ⟨hq, ?_⟩
    revert g2 hq
    generalize ((pickN l (keptOf ex)).head?).getD .none = q
    intro g2 hq
    exact fn [Mini.hk (drK k i ex (.list l) h), hb false, hb true, hv (.int (k0 : Int)), hv q, hc (.retv "v" (.mvec k i (headAttr q))) (.mvec k i (headAttr q))]
      (A10 d h2 h3 h2 h4 g1 g2 (c_namedH _ k i q hq) rfl rfl)
  · rw [if_neg hC]
    have h4 : decide (((KL (keptOf ex)).length : Int) = 1) = false := decide_eq_false (by rw [KL_len]; omega)
    exact ⟨onlyL_ok hlo.2, fn [Mini.hk (drK k i ex (.list l) h), hb false, hb false, hc (.ret (.tree (onlyL l))) _, hc (.retv "v" (.mvec k i (headAttr (onlyL l)))) (.mvec k i (headAttr (onlyL l)))]
      (A9 (dr_k m k i ex (.list l) h hx) h2 h3 h2 h4 (c_only _ l hlo.2) (c_namedH _ k i _ (onlyL_ok hlo.2)) rfl rfl)⟩
noncomputable def dropAt (ex : List Int) (ls h : AV) : AV := match decide (1 < (keptOf ex).length) with
  | true => shapeAt (pickN (IL ex) (keptOf ex)) (pickO ls (keptOf ex)) (pickO h (keptOf ex))
  | false => (match ls with
    | .list l => headAttr (qOf ex l)
    | _ => .none)
theorem c_dropped (k : Str) (i : AV) (ex : List Int) (ls h : AV) (hx : ex.length ≤ 3) (hls : ls = .none ∨ ∃ l, ls = .list l ∧ LsOk l ∧ l.length = ex.length) (hh : h = .none ∨ ∃ hs, h = .list hs ∧ hs.length = ex.length) :
    ∃ L, (∀ m, (interp tabV (m + 160)).C "put_dropped" [.mvec k i .none, .tree (.list (IL ex)), .tree ls, .tree h] = some (.next, L)) ∧ L.frz = .vec k i (dropAt ex ls h) ∧ ((∃ a, L = .tree a) ∨ ∃ at', L = .mvec k i at') := by
  unfold dropAt
  cases q : decide (1 < (keptOf ex).length) with
  | true => exact ⟨_, fun m => c_dropS m k i ex ls h hx (of_decide_eq_true q) hls hh, rfl, .inr ⟨_, rfl⟩⟩
  | false =>
    rcases hls with rfl | ⟨l, rfl, hlo, hll⟩
    · exact ⟨_, fun m => c_drop0 m k i ex h hx (of_decide_eq_false q), rfl, .inr ⟨_, rfl⟩⟩
    · exact ⟨_, fun m => (c_dropT m k i ex l h hx (of_decide_eq_false q) hlo hll).2, rfl, .inl ⟨_, rfl⟩⟩
end Mini

namespace Mini
open PySem

noncomputable def EX (pss : List (List Int)) : List Int := pss.map fun (ps : List Int) => (ps.length : Int)
theorem EX_len (pss : List (List Int)) : (EX pss).length = pss.length := List.length_map _
theorem EX_map (pss : List (List Int)) : pss.map (fun ps => AV.int ((IL ps).length : Int)) = IL (EX pss) := by
  unfold IL EX
  rw [List.map_map]
  exact List.map_congr_left fun ps _ => by rw [List.length_map]; rfl
noncomputable def saI (dr : Bool) : Str := match dr with
  | true => "put_dropped"
  | false => "put_shape"
theorem sa_if (m : Nat) (dr : Bool) (v r : AV) (ex : List AV) (P H L : LV) (its : AV) (hP : (∃ l, P = .mlist l) ∨ P = .tree .none)
    (c6 : ∀ m, (interp tabV (m + 120)).C "heads_of_dimnames" [.tree v] = some (.ret H, .tree v))
    (c8 : ∀ m, (interp tabV (m + 160)).C (saI dr) [.mvec "integer" its .none, .tree (.list ex), .tree P.frz, .tree H.frz] = some (.next, L)) :
    Ends (stepS (interp tabV (m + 218)) (nsF "subset_array") "v" (hdS (tlS (tlS (tlS (tlS (tlS (bdF "subset_array")))))))) [("lists", P), ("extents", .mlist ex), ("result", .mvec "integer" its .none), ("drop", .tree (.bool dr)), ("v", .tree v)] .next [("result", L), ("v", .tree v)] := by
  rcases hP with ⟨l, rfl⟩ | rfl <;> cases dr
  all_goals exact cut [hc (.ret H) _, hc .next L] (A5 (c6 _) (c8 _) rfl rfl trivial)
theorem c_sarr0 (m : Nat) (dr : Bool) (its : List AV) (ks : List Str) (vs : List AV) (ds : List Nat) (ixs : List AV) (pss : List (List Int)) (P H L : LV) (v : AV) (hv : v = .vec "integer" (.list its) (.dict ks vs))
    (c1 : ∀ m, (interp tabV (m + 60)).C "dim_of" [.tree v] = some (.ret (.mlist (IL (NL ds))), .tree v))
    (c2 : ∀ m, (interp tabV (m + 160)).C "array_axes" [.tree v, .tree (.list (IL (NL ds))), .tree (.list ixs)] = some (.ret (.mlist (LL pss)), .tree v))
    (c3 : ∀ m, (interp tabV (m + 60)).C "array_places" [.tree (.list (IL (NL ds))), .tree (.list (LL pss))] = some (.ret (.tree (.list (IL (placesOf (NL ds) pss)))), .tree (.list (IL (NL ds)))))
    (c4 : ∀ m, (interp tabV (m + 40)).C "items_at" [.tree v, .tree (.list (IL (placesOf (NL ds) pss)))] = some (.ret (.mlist (pick its (placesOf (NL ds) pss))), .tree v))
    (c5 : ∀ m, (interp tabV (m + 90)).C "picked_dimnames" [.tree v, .tree (.list (LL pss))] = some (.ret P, .tree v))
    (c6 : ∀ m, (interp tabV (m + 120)).C "heads_of_dimnames" [.tree v] = some (.ret H, .tree v))
    (hpl : pss.length ≤ 3) (hps : ∀ ps ∈ pss, ps.length ≤ 3) (hP : (∃ l, P = .mlist l) ∨ P = .tree .none)
    (c8 : ∀ m, (interp tabV (m + 160)).C (saI dr) [.mvec "integer" (.list (pick its (placesOf (NL ds) pss))) .none, .tree (.list (IL (EX pss))), .tree P.frz, .tree H.frz] = some (.next, L))
    (hL : (∃ a, L = .tree a) ∨ (∃ k i a, L = .mvec k i a)) :
    (interp tabV (m + 220)).C "subset_array" [.tree v, .tree (.list ixs), .tree (.bool dr)] = some (.ret L, .tree v) := by
  have e := sa_if m dr v .none (IL (EX pss)) P H L (.list (pick its (placesOf (NL ds) pss))) hP c6 c8
  have hl : (IL (EX pss)).length ≤ lim := by rw [IL_len, EX_len]; exact three hpl
  subst hv
  rcases hL with ⟨a, rfl⟩ | ⟨k, i, a, rfl⟩
  · exact fn [hc (.ret (.mlist (IL (NL ds)))) _, hc (.ret (.mlist (LL pss))) _, hc (.ret (.tree (.str "integer"))) _, hc (.ret (.tree (.list (IL (placesOf (NL ds) pss))))) _, hc (.ret (.mlist (pick its (placesOf (NL ds) pss)))) _, hu (IL (EX pss)) [], hc (.ret P) _,
        hk [("result", .tree a), ("v", .tree _)]]
      (A12 (c1 _) (c2 _) (c_rkind _) (c3 _) (c4 _) ⟨rfl, rfl⟩ ((comp_map (l := pss) (q := fun ps => AV.list (IL ps)) "places" (fun ps => AV.int ((IL ps).length : Int)) [] trivial fun ps h => by
        exact ⟨[], A3 (by rw [IL_len]; exact three (hps ps h)) rfl trivial⟩).us (EX_map pss)) hl (c5 _) (e.pre (A6 rfl rfl rfl rfl rfl trivial)) rfl rfl)
  · exact fn [hc (.ret (.mlist (IL (NL ds)))) _, hc (.ret (.mlist (LL pss))) _, hc (.ret (.tree (.str "integer"))) _, hc (.ret (.tree (.list (IL (placesOf (NL ds) pss))))) _, hc (.ret (.mlist (pick its (placesOf (NL ds) pss)))) _, hu (IL (EX pss)) [], hc (.ret P) _,
        hk [("result", .mvec k i a), ("v", .tree _)]]
      (A12 (c1 _) (c2 _) (c_rkind _) (c3 _) (c4 _) ⟨rfl, rfl⟩ ((comp_map (l := pss) (q := fun ps => AV.list (IL ps)) "places" (fun ps => AV.int ((IL ps).length : Int)) [] trivial fun ps h => by
        exact ⟨[], A3 (by rw [IL_len]; exact three (hps ps h)) rfl trivial⟩).us (EX_map pss)) hl (c5 _) (e.pre (A6 rfl rfl rfl rfl rfl trivial)) rfl rfl)

theorem c_any (v : AV) (its : List AV) (ks : List Str) (vs : List AV) (hv : v = .vec "integer" (.list its) (.dict ks vs)) (ds : List Nat) (ixs : List AV) (dr : Bool) (L : LV)
    (c2 : ∀ m, (interp tabV (m + 60)).C "dim_of" [.tree v] = some (.ret (.mlist (IL (NL ds))), .tree v)) (h1 : ixs.length = ds.length) (h2 : ds.length = 2 ∨ ds.length = 3)
    (c1 : ∀ m, (interp tabV (m + 220)).C "subset_array" [.tree v, .tree (.list ixs), .tree (.bool dr)] = some (.ret L, .tree v)) (m : Nat) :
    (interp tabV (m + 260)).C "subset_any" [.tree v, .tree (.list ixs), .tree (.bool dr), .tree (.bool true)] = some (.ret L, .tree v) := by
  have g3 : (IL (NL ds)).length = ixs.length := by rw [IL_len, NL_len, h1]
  have g4 : ixs.length ≤ lim := by unfold lim; omega
  subst hv
  exact fn [hb false, hb false, hc (.ret (.tree (.bool true))) _, hc (.ret (.mlist (IL (NL ds)))) _, hb false, hb true, hc (.ret L) _]
    (A14 g4 (decide_eq_false (by omega)) g4 (decide_eq_false (by omega)) (c_isvec _ _ _ _) (c2 _) g4 (decide_eq_false (by omega)) (by rw [g3]; exact g4) g4 (decide_eq_true (by rw [g3])) (c1 _) rfl rfl)

theorem eqableL_IL (n : Nat) (cs : List Int) : AV.eqableL n (IL cs) = true := by
  induction cs with
  | nil => rfl
  | cons c cs ih =>
    show (AV.eqable n (.int c) && AV.eqableL n (IL cs)) = true
    rw [ih]; cases n <;> rfl
noncomputable def drawL (cs : List Int) (k : Int) : Int := match cs.getLast? with
  | some c => c % k
  | none => 0
theorem draw_ok (cs : List Int) {k : Int} (hk : 0 < k) : 0 ≤ drawL cs k ∧ drawL cs k < k := by
  unfold drawL
  cases cs.getLast? with
  | some c => exact ⟨Int.emod_nonneg _ (by omega), Int.emod_lt_of_pos _ hk⟩
  | none => exact ⟨Int.le_refl 0, hk⟩
theorem c_card (m : Nat) (cs : List Int) (k : Int) (hk : 0 < k) (hl : cs.length ≤ lim) :
    (interp tabV (m + 30)).C "_law_card" [.mlist (IL cs), .tree (.int k)] = some (.ret (.tree (.int (drawL cs k))), .mlist (IL cs.dropLast)) := by
  have he : AV.eqable 6 (.list (IL cs)) = true := eqableL_IL 5 cs
  unfold drawL
  cases q : cs.getLast? with
  | none =>
    cases List.getLast?_eq_none_iff.mp q
    exact fn [hb true] (A3 ⟨he, rfl⟩ rfl rfl)
  | some c =>
    have hs : AV.sameL (IL cs) [] = false := by
      cases cs with
      | nil => cases q
      | cons a cs => rfl
    exact fn [hb false, hv (.int c)] (A5 ⟨he, hs⟩ ⟨by rw [IL_len]; exact hl, by unfold IL; rw [List.getLast?_map, q]; rfl⟩ hk rfl (by unfold IL; rw [List.map_dropLast]))

theorem cd_in (m : Nat) (X : AV) (its : List AV) : ∀ (cs : List Int) (pk : Int), cs.length + its.length ≤ lim → ∃ cs2 : List Int, cs2.length ≤ cs.length + its.length ∧
    Ends (forL ((interp tabV (m + 37)).B (nsF "_law_cards") "script" (bodyS (hdS (tlS (bodyS (hdS (tlS (bdF "_law_cards")))))))) "lap" its) [("cards", .mlist (IL cs)), ("pack", .tree (.int pk)), ("script", .tree X)] .next [("cards", .mlist (IL cs2)), ("script", .tree X)] := by
  induction its with
  | nil => exact fun cs pk _ => ⟨cs, Nat.le_refl _, for_nil (A3 rfl rfl trivial)⟩
  | cons a its ih =>
    intro cs pk h
    have hl : (cs ++ [pk % 200]).length = cs.length + 1 := List.length_append
    have hc : (IL cs).length ≤ lim := by rw [IL_len]; exact Nat.le_trans (Nat.le_add_right _ _) h
    rw [List.length_cons] at h
    by_cases q : pk / 200 = 0
    · exact ⟨cs ++ [pk % 200], by rw [hl, List.length_cons]; omega, for_brk ⟨[hb true], A7 (by decide) hc ⟨by decide, by decide⟩ (decide_eq_true q) rfl (sml (IL_snoc _ _)) (A2 rfl trivial)⟩⟩
    · obtain ⟨cs2, h1, h2⟩ := ih (cs ++ [pk % 200]) (pk / 200) (by rw [hl]; omega)
      refine ⟨cs2, by rw [hl] at h1; rw [List.length_cons]; omega, for_cons (ρ1 := [("cards", .mlist (IL (cs ++ [pk % 200]))), ("pack", .tree (.int (pk / 200))), ("script", .tree X)]) ⟨[hb false], A8 (by decide) hc ⟨by decide, by decide⟩ (decide_eq_false q) (sml (IL_snoc _ _)) rfl rfl trivial⟩ h2⟩
theorem cd_out (m : Nat) (X : AV) (l : List Int) : ∀ (cs : List Int), cs.length + 12 * l.length ≤ 1000 → ∃ cs2 : List Int, cs2.length ≤ cs.length + 12 * l.length ∧
    Ends (forL ((interp tabV (m + 38)).B (nsF "_law_cards") "script" (bodyS (hdS (tlS (bdF "_law_cards"))))) "cell" (IL l)) [("cards", .mlist (IL cs)), ("script", .tree X)] .next [("cards", .mlist (IL cs2)), ("script", .tree X)] := by
  induction l with
  | nil => exact fun cs _ => ⟨cs, Nat.le_refl _, for_nil (A3 rfl rfl trivial)⟩
  | cons c l ih =>
    intro cs h
    rw [List.length_cons] at h
    have hr : rngList 0 12 1 = some ((List.range 12).map fun (i : Nat) => AV.int i) := rng_up (n := 12) (by decide)
    have key : ∀ pk : Int, ∃ cs1 : List Int, cs1.length ≤ cs.length + 12 ∧ Ends (forL ((interp tabV (m + 37)).B (nsF "_law_cards") "script" (bodyS (hdS (tlS (bodyS (hdS (tlS (bdF "_law_cards")))))))) "lap" ((List.range 12).map fun (i : Nat) => AV.int i)) [("cards", .mlist (IL cs)), ("pack", .tree (.int pk)), ("script", .tree X)] .next [("cards", .mlist (IL cs1)), ("script", .tree X)] :=
      fun pk => cd_in m X ((List.range 12).map fun (i : Nat) => AV.int i) cs pk (show cs.length + 12 ≤ 65536 by omega)
    have fin : ∀ cs1 : List Int, cs1.length ≤ cs.length + 12 → Turn m 38 (nsF "_law_cards") "script" (bodyS (hdS (tlS (bdF "_law_cards")))) "cell" (.int c) [("cards", .mlist (IL cs)), ("script", .tree X)] [("cards", .mlist (IL cs1)), ("script", .tree X)] → ∃ cs2 : List Int, cs2.length ≤ cs.length + 12 * (c :: l).length ∧
        Ends (forL ((interp tabV (m + 38)).B (nsF "_law_cards") "script" (bodyS (hdS (tlS (bdF "_law_cards"))))) "cell" (IL (c :: l))) [("cards", .mlist (IL cs)), ("script", .tree X)] .next [("cards", .mlist (IL cs2)), ("script", .tree X)] := by
      intro cs1 h1 t
      obtain ⟨cs2, h3, h4⟩ := ih cs1 (by omega)
      exact ⟨cs2, by rw [List.length_cons]; omega, for_cons t h4⟩
    by_cases q : 0 ≤ c
    · obtain ⟨cs1, h1, h2⟩ := key c
      exact fin cs1 h1 ⟨[hb true, hls _, hf .next _], A6 (decide_eq_true q) hr (h2.pre (A4 rfl rfl rfl trivial)) rfl rfl trivial⟩
    · obtain ⟨cs1, h1, h2⟩ := key (61 - c)
      exact fin cs1 h1 ⟨[hb false, hls _, hf .next _], A6 (decide_eq_false q) hr (h2.pre (A4 rfl rfl rfl trivial)) rfl rfl trivial⟩
theorem c_cards (m : Nat) (ns : List Int) (hn : ns.length ≤ 63) :
    ∃ cs : List Int, cs.length ≤ 140 ∧ (interp tabV (m + 40)).C "_law_cards" [.tree (.list (IL ns))] = some (.ret (.mlist (IL cs)), .tree (.list (IL ns))) := by
  have h50 : (ns.take 50).length ≤ 50 := by rw [List.length_take]; exact Nat.min_le_left _ _
  obtain ⟨cs, h1, h2⟩ := cd_out m (.list (IL ns)) (ns.take 50) [] (by rw [List.length_nil]; omega)
  rw [List.length_nil] at h1
  have hil : IL (ns.take 50) = (IL ns).take 50 := by unfold IL; rw [List.map_take]
  rw [hil] at h2
  have hc : cs.length ≤ lim := by unfold lim; omega
  refine ⟨(cs.take 140).reverse, by rw [List.length_reverse, List.length_take]; exact Nat.min_le_left _ _, ?_⟩
  exact fn [hf .next [("cards", .mlist (IL cs)), ("script", .tree (.list (IL ns)))]] (A6 ⟨by decide, by decide, by rw [IL_len]; unfold lim; omega⟩ (h2.pre (A3 rfl rfl trivial)) ⟨by decide, by decide, by rw [IL_len]; exact hc⟩
    (by rw [List.length_take, IL_len]; exact Nat.le_trans (Nat.min_le_right _ _) hc) (by unfold IL; rw [List.map_reverse, List.map_take]; rfl) rfl)
end Mini

namespace Mini
open PySem

def Nest (m k : Nat) (ns : Names) (elt : Expr) (x y : Str) (it : Expr) (ifs : List Expr) (a : AV) (ρ : St) (us : List AV) (ρ' : St) : Prop :=
  ∃ (its : List AV) (u : AV → List AV), its.flatMap u = us ∧ (∃ hs, kA (kin m k) ns it ((x, .tree a) :: ρ) hs fun t ρ2 _ => iterOf t = some its ∧ Sub ρ2 ((x, .tree a) :: ρ')) ∧ Sub ((x, .tree a) :: ρ') ρ' ∧ ∀ b ∈ its, Row m k ns elt y ifs b ((x, .tree a) :: ρ') (u b) ((x, .tree a) :: ρ')
theorem compL_rows {f : AV → St → Option (List AV × St)} {its : List AV} {u : AV → List AV} {ρ : St} (h : ∀ b ∈ its, Ends (f b) ρ (u b) ρ) : Ends (compL f its) ρ (its.flatMap u) ρ := by
  induction its with
  | nil => exact fun σ hA => ⟨σ, rfl, hA⟩
  | cons b its ih =>
    intro σ hA
    obtain ⟨σ1, e1, hA1⟩ := h b List.mem_cons_self σ hA
    obtain ⟨σ2, e2, hA2⟩ := ih (fun b hb => h b (List.mem_cons_of_mem _ hb)) σ1 hA1
    exact ⟨σ2, o2_of e1 (o2_of e2 rfl), hA2⟩
theorem Nest.go {m k : Nat} {ns : Names} {elt : Expr} {x y : Str} {it : Expr} {ifs : List Expr} {a : AV} {ρ : St} {us : List AV} {ρ' : St} (h : Nest m k ns elt x y it ifs a ρ us ρ') : Ends (compNest (interp tabV (m + k)) ns elt x y it ifs a) ρ us ρ' := fun σ hA => by
  obtain ⟨its, u, e, ⟨hs, h1⟩, h2, h3⟩ := h
  obtain ⟨t, σ1, ρ2, _, e1, hA1, e2, s⟩ := kA_ok (kin_ok m k) (σ := put σ x (.tree a)) hA.put h1
  obtain ⟨σ2, e3, hA2⟩ := compL_rows (fun b hb σ hA => (h3 b hb).go hA) σ1 (s.agree hA1)
  rw [e] at e3
  exact ⟨σ2, o2_of e1 (o1_of e2 e3), h2.agree hA2⟩
theorem comp_nest {m k : Nat} {ns : Names} {elt : Expr} {g h : Comprehension} {ρ : St} {l : List AV} (x y : Str) (inv : List AV → St) (us : AV → List AV) (h0 : Sub ρ (inv []))
    (turn : ∀ done a rest, l = done ++ a :: rest → Nest m k ns elt x y h.iter h.ifs a (inv done) (us a) (inv (done ++ [a]))) (hx : nameOf g.target = some x := by rfl) (hy : nameOf h.target = some y := by rfl)
    (hz : (isZero g.is_async && isNil g.ifs && isZero h.is_async && plainE h.iter) = true := by rfl) : Ends (compIn (interp tabV (m + k)) ns elt [g, h] l) ρ (l.flatMap us) (inv l) := fun σ hA => by
  obtain ⟨σ', e, hA'⟩ := compL_st (l := l) (q := fun a => a) inv (fun l => l.flatMap us) (fun done a rest e => ⟨us a, by rw [List.flatMap_append, List.flatMap_cons, List.flatMap_nil, List.append_nil], (turn done a rest e).go⟩) rfl σ (h0.agree hA)
  rw [← id_map l] at e
  refine ⟨σ', o1_of hx (o1_of hy ?_), hA'⟩
  rw [hz]; exact e

noncomputable def SL (sp : List (List Int)) : List AV := sp.map fun s => .list (IL s)
theorem SL_len (sp : List (List Int)) : (SL sp).length = sp.length := List.length_map _
noncomputable def stepS' (found : List (List Int)) (ps : List Int) : List (List Int) := ps.flatMap fun a => found.map fun s => s ++ [a]
noncomputable def spotsL (pss : List (List Int)) : List (List Int) := pss.foldl stepS' [[]]
theorem stepS'_len (f : List (List Int)) (ps : List Int) : (stepS' f ps).length = ps.length * f.length := by
  induction ps with
  | nil => exact (Nat.zero_mul _).symm
  | cons a ps ih =>
    unfold stepS' at *
    rw [List.flatMap_cons, List.length_append, ih, List.length_map, List.length_cons, Nat.add_mul, Nat.one_mul, Nat.add_comm]
theorem stepS'_mem {f : List (List Int)} {ps : List Int} {s : List Int} (h : s ∈ stepS' f ps) : ∃ t a, t ∈ f ∧ a ∈ ps ∧ s = t ++ [a] := by
  unfold stepS' at h
  rw [List.mem_flatMap] at h
  obtain ⟨a, ha, h⟩ := h
  rw [List.mem_map] at h
  obtain ⟨t, ht, h⟩ := h
  exact ⟨t, a, ht, ha, h.symm⟩
theorem spotsL_snoc (l : List (List Int)) (ps : List Int) : spotsL (l ++ [ps]) = stepS' (spotsL l) ps := by unfold spotsL; rw [List.foldl_append]; rfl
theorem snoc_ind {α : Type} {P : List α → Prop} (h0 : P []) (h1 : ∀ l a, P l → P (l ++ [a])) (l : List α) : P l := by
  have : ∀ n (l : List α), l.length = n → P l := by
    intro n
    induction n with
    | zero => exact fun l h => by rw [List.length_eq_zero_iff.mp h]; exact h0
    | succ n ih =>
      intro l h
      have hne : l ≠ [] := fun e => by rw [e] at h; cases h
      rw [← List.dropLast_concat_getLast hne]
      exact h1 _ _ (ih _ (by rw [List.length_dropLast, h]; rfl))
  exact this _ l rfl
theorem spots_inv (pss : List (List Int)) : (∀ ps ∈ pss, ps.length ≤ 3) → (spotsL pss).length ≤ 3 ^ pss.length := by
  induction pss using snoc_ind with
  | h0 => exact fun _ => Nat.le_refl 1
  | h1 l ps ih =>
    intro h
    rw [spotsL_snoc, stepS'_len, List.length_append, Nat.pow_add, Nat.mul_comm]
    exact Nat.mul_le_mul (ih fun q hq => h q (List.mem_append_left _ hq)) (h ps (List.mem_append_right _ List.mem_cons_self))
theorem spots_len (pss : List (List Int)) : ∀ s ∈ spotsL pss, s.length = pss.length := by
  induction pss using snoc_ind with
  | h0 => exact fun s h => by rw [List.mem_singleton.mp h]; rfl
  | h1 l ps ih =>
    intro s h
    rw [spotsL_snoc] at h
    obtain ⟨t, a, ht, _, rfl⟩ := stepS'_mem h
    rw [List.length_append, List.length_append, ih t ht]; rfl
theorem SL_step (f : List (List Int)) (ps : List Int) : (IL ps).flatMap (fun a => (SL f).flatMap fun s => (match s with | .list xs => [.list (xs ++ [a])] | _ => [])) = SL (stepS' f ps) := by
  induction ps with
  | nil => rfl
  | cons a ps ih =>
    have h : SL (stepS' f (a :: ps)) = SL (f.map fun s => s ++ [a]) ++ SL (stepS' f ps) := by unfold SL stepS'; rw [List.flatMap_cons, List.map_append]
    rw [h, ← ih]
    rw [show IL (a :: ps) = .int a :: IL ps from rfl, List.flatMap_cons]
    congr 1
    clear h ih
    induction f with
    | nil => rfl
    | cons s f ih =>
      rw [show SL (s :: f) = .list (IL s) :: SL f from rfl, List.flatMap_cons, ih]
      show [AV.list (IL s ++ [AV.int a])] ++ SL (f.map fun s => s ++ [a]) = _
      rw [IL_snoc]; rfl
noncomputable def fndL {α : Type} (done : List α) (xs : List AV) : LV := match done with
  | [] => .mlist xs
  | _ :: _ => .tree (.list xs)
theorem fndL_snoc {α : Type} (done : List α) (a : α) (xs : List AV) : fndL (done ++ [a]) xs = .tree (.list xs) := by cases done <;> rfl
def RowOk (row : AV) (ps : List Int) : Prop := (∃ a b c, row = .rng a b c ∧ rngList a b c = some (IL ps)) ∨ row = .list (IL ps)
theorem c_spots (m : Nat) (rps : List (AV × List Int)) (hn : rps.length ≤ 3) (hr : ∀ q ∈ rps, RowOk q.1 q.2 ∧ q.2.length ≤ 3) :
    (interp tabV (m + 40)).C "_law_spots" [.tree (.list (rps.map (·.1)))] = some (.ret (.mlist (SL (spotsL (rps.map (·.2))))), .tree (.list (rps.map (·.1)))) := by
  let inv : List (AV × List Int) → St := fun l => [("found", .mlist (SL (spotsL (l.map (·.2))))), ("rows", .tree (.list (rps.map (·.1))))]
  exact fn [hf .next (inv rps)] (A3 (forG (g := fun q : AV × List Int => q.1) inv (A3 rfl rfl trivial) fun l q r e => by
    have hq := hr q (pre_mem e)
    have hll := pre_len e
    have hps : ∀ ps ∈ l.map (·.2), ps.length ≤ 3 := fun ps h => by
      obtain ⟨q', hq', rfl⟩ := List.mem_map.mp h
      exact (hr q' (by rw [e]; exact List.mem_append_left _ hq')).2
    have h1 := spots_inv _ hps
    have h2 := spots_len (l.map (·.2))
    rw [List.length_map] at h1 h2
    have e2 : spotsL ((l ++ [q]).map (·.2)) = stepS' (spotsL (l.map (·.2))) q.2 := by rw [List.map_append]; exact spotsL_snoc _ _
    show Turn _ _ _ _ _ _ _ [("found", .mlist (SL (spotsL (l.map (·.2))))), ("rows", .tree (.list (rps.map (·.1))))] [("found", .mlist (SL (spotsL ((l ++ [q]).map (·.2))))), ("rows", .tree (.list (rps.map (·.1))))]
    rw [e2]
    revert h1 h2
    generalize spotsL (l.map (·.2)) = fo
    intro h1 h2
    have hfl : fo.length ≤ 9 := Nat.le_trans h1 (Nat.pow_le_pow_right (by decide : 3 > 0) (show l.length ≤ 2 by omega))
    have hlen : (SL (stepS' fo q.2)).length ≤ lim := by
      rw [SL_len, stepS'_len]
      exact Nat.le_trans (Nat.mul_le_mul hq.2 hfl) (by decide)
    have hs1 : ∀ s ∈ SL fo, ∃ xs, s = .list xs ∧ xs.length + 1 ≤ lim := fun s hs => by
      obtain ⟨t, ht, rfl⟩ := List.mem_map.mp hs
      exact ⟨_, rfl, by rw [IL_len, h2 t ht]; unfold lim; omega⟩
    let iv : List AV → St := fun done => [("found", fndL done (SL fo))]
    rcases hq.1 with ⟨a, b, c, h3, h4⟩ | h3
    · rw [h3]
      exact ⟨[hls (IL q.2), hu (SL (stepS' fo q.2)) (iv (IL q.2))], A7 ⟨rfl, rfl⟩ h4 ((comp_nest (l := IL q.2) "at" "spot" iv (fun a => (SL fo).flatMap fun s => (match s with | .list xs => [.list (xs ++ [a])] | _ => [])) (A2 rfl trivial) fun done a rest e => by
        show Nest _ _ _ _ _ _ _ _ _ [("found", fndL done (SL fo))] _ [("found", fndL (done ++ [a]) (SL fo))]
        rw [fndL_snoc]
        refine ⟨SL fo, _, rfl, ⟨[], ?_⟩, A2 rfl trivial, fun b hb => ?_⟩
        · cases done
          all_goals exact A4 rfl rfl rfl trivial
        · obtain ⟨xs, rfl, hx⟩ := hs1 b hb
          exact ⟨[], A4 hx rfl rfl (A2 rfl trivial)⟩).us (SL_step fo q.2)) hlen rfl rfl trivial⟩
    · rw [h3]
      exact ⟨[hu (SL (stepS' fo q.2)) (iv (IL q.2))], A6 ⟨rfl, rfl⟩ ((comp_nest (l := IL q.2) "at" "spot" iv (fun a => (SL fo).flatMap fun s => (match s with | .list xs => [.list (xs ++ [a])] | _ => [])) (A2 rfl trivial) fun done a rest e => by
        show Nest _ _ _ _ _ _ _ _ _ [("found", fndL done (SL fo))] _ [("found", fndL (done ++ [a]) (SL fo))]
        rw [fndL_snoc]
        refine ⟨SL fo, _, rfl, ⟨[], ?_⟩, A2 rfl trivial, fun b hb => ?_⟩
        · cases done
          all_goals exact A4 rfl rfl rfl trivial
        · obtain ⟨xs, rfl, hx⟩ := hs1 b hb
          exact ⟨[], A4 hx rfl rfl (A2 rfl trivial)⟩).us (SL_step fo q.2)) hlen rfl rfl trivial⟩) rfl rfl)
end Mini

namespace Mini
open PySem

mutual
theorem same_refl (x : AV) : ∀ n, AV.eqable n x = true → AV.same x x = true := match x with
  | .none => fun _ _ => rfl
  | .int a => fun _ _ => beq_self_eq_true a
  | .str a => fun _ _ => beq_self_eq_true a
  | .list xs => fun n h => (match n, h with
    | n + 1, h => sameL_refl xs n h)
  | .bool _ => fun n h => (by cases n <;> cases h)
  | .tup _ => fun n h => (by cases n <;> cases h)
  | .rng _ _ _ => fun n h => (by cases n <;> cases h)
  | .vec _ _ _ => fun n h => (by cases n <;> cases h)
  | .dict _ _ => fun n h => (by cases n <;> cases h)
  | .null => fun n h => (by cases n <;> cases h)
  | .miss => fun n h => (by cases n <;> cases h)
theorem sameL_refl (xs : List AV) : ∀ n, AV.eqableL n xs = true → AV.sameL xs xs = true := match xs with
  | [] => fun _ _ => rfl
  | x :: xs => fun n h => by
    have h := Bool.and_eq_true_iff.mp (show (AV.eqable n x && AV.eqableL n xs) = true from h)
    show (AV.same x x && AV.sameL xs xs) = true
    rw [same_refl x n h.1, sameL_refl xs n h.2]; rfl
end
theorem eqAV_refl {x : AV} (h : AV.eqable 6 x = true) : eqAV x x = some true := by
  unfold eqAV
  rw [h, same_refl x 6 h]; rfl
theorem eqAV_IL (l : List Int) : eqAV (.list (IL l)) (.list (IL l)) = some true := eqAV_refl (eqableL_IL 5 l)
noncomputable def dvec (cnt : List Int) : AV := .vec "integer" (.list (IL cnt)) .none
theorem k_get3 (a b : AV) : dictGet (Str.ofString "dimnames") ["dim", "dimnames"] [a, b] = some b := by
  unfold dictGet; rw [if_neg (seq_ne rfl)]; unfold dictGet; rw [if_pos rfl]
theorem k_get5 (a : AV) : dictGet (Str.ofString "dimnames") ["dim"] [a] = none := by
  unfold dictGet; rw [if_neg (seq_ne rfl)]; rfl
theorem k_get1 (k : Str) (ks : List Str) (a : AV) (vs : List AV) : dictGet k (k :: ks) (a :: vs) = some a := by unfold dictGet; rw [if_pos rfl]
theorem c_ll0 (m : Nat) (k : Str) (i : AV) (a : AV) : (interp tabV (m + 40)).C "_law_lists" [.tree (.vec k i (.dict ["dim"] [a]))] = some (.ret (.tree .none), .tree (.vec k i (.dict ["dim"] [a]))) := fn [] (A2 rfl rfl)
theorem c_ll1 (m : Nat) (k : Str) (i : AV) (a : AV) (parts : List AV) (t : AV) (hl : parts.length ≤ 3) (hp : ∀ p ∈ parts, IsPart p) :
    (interp tabV (m + 40)).C "_law_lists" [.tree (.vec k i (.dict ["dim", "dimnames"] [a, .vec "list" (.list parts) t]))] = some (.ret (.mlist (parts.map partOf)), .tree (.vec k i (.dict ["dim", "dimnames"] [a, .vec "list" (.list parts) t]))) :=
  fn [hv (.vec "list" (.list parts) t), hu (parts.map partOf) []] (A6 ⟨rfl, rfl⟩ (k_get3 _ _) (comp_map "one" partOf [] trivial (he := id_map parts) fun p q => by
      rcases hp p q with rfl | ⟨xs, t, rfl, hx⟩
      · exact ⟨[], A2 rfl trivial⟩
      · exact ⟨[], A2 rfl trivial⟩) (by rw [List.length_map]; exact three hl) rfl rfl)
theorem c_lt0 (m : Nat) (k : Str) (i : AV) (a : AV) : (interp tabV (m + 40)).C "_law_titles" [.tree (.vec k i (.dict ["dim"] [a]))] = some (.ret (.tree .none), .tree (.vec k i (.dict ["dim"] [a]))) := fn [] (A2 rfl rfl)
theorem c_lt1 (m : Nat) (k : Str) (i : AV) (a p : AV) (tv : AV) (ht : HdOk tv) : (interp tabV (m + 40)).C "_law_titles" [.tree (.vec k i (.dict ["dim", "dimnames"] [a, .vec "list" p (headAttr tv)]))] = some (.ret (.tree tv), .tree (.vec k i (.dict ["dim", "dimnames"] [a, .vec "list" p (headAttr tv)]))) := by
  rcases ht with rfl | ⟨hs, rfl, _⟩
  · exact fn [hv (.vec "list" p .none)] (A3 (k_get3 _ _) rfl rfl)
  · exact fn [hv (.vec "list" p (.dict ["names"] [.vec "character" (.list hs) .none])), hv (.vec "list" p (.dict ["names"] [.vec "character" (.list hs) .none])), hv (.vec "character" (.list hs) .none)] (A5 (k_get3 _ _) (k_get3 _ _) (k_get1 _ _ _ _) rfl rfl)
theorem someR_len (ls : List AV) : (someR ls).length ≤ ls.length := List.length_filter_le _ _
theorem someR_nil {ls : List AV} (h : someL ls = false) : someR ls = [] := by
  unfold someL at h
  exact List.filter_eq_nil_iff.mpr fun a ha q => List.any_eq_false.mp h a ha q
theorem someR_pos {ls : List AV} (h : someL ls = true) : 0 < (someR ls).length := by
  obtain ⟨a, ha, q⟩ := List.any_eq_true.mp h
  exact List.length_pos_of_mem (List.mem_filter.mpr ⟨ha, q⟩)
theorem val_part {ls : List AV} (h : ∀ a ∈ ls, HdOk a) : (ls.map valOf).map partOf = ls := by
  rw [List.map_map]
  refine (List.map_congr_left fun a ha => ?_).trans (List.map_id _)
  rcases h a ha with rfl | ⟨xs, rfl, _⟩ <;> rfl
theorem val_isPart {ls : List AV} (h : ∀ a ∈ ls, HdOk a) : ∀ p ∈ ls.map valOf, IsPart p := fun p hp => by
  obtain ⟨a, ha, rfl⟩ := List.mem_map.mp hp
  rcases h a ha with rfl | ⟨xs, rfl, hx⟩
  · exact .inl rfl
  · exact .inr ⟨xs, .none, rfl, three hx⟩
theorem comp_some {m k : Nat} {ns : Names} {elt : Expr} {g : Comprehension} {ρ : St} (ls : List AV) (hl : ∀ a ∈ ls, HdOk a)
    (t1 : Row m k ns elt "one" g.ifs .none [] [] []) (t2 : ∀ xs, Row m k ns elt "one" g.ifs (.list xs) [] [.list xs] []) (hx : nameOf g.target = some "one" := by rfl) (hz : isZero g.is_async = true := by rfl) :
    Ends (compIn (interp tabV (m + k)) ns elt [g] ls) ρ (someR ls) [] :=
  (comp_flt (l := ls) (q := fun a => a) "one" (fun a => if (!isNone a) = true then [a] else []) [] trivial (fun a ha => by
    rcases hl a ha with rfl | ⟨xs, rfl, _⟩
    · exact t1
    · exact t2 xs) hx hz (id_map ls)).us ((flat_filter (fun a => !isNone a) (fun a => a) ls).trans (List.map_id _))
theorem c_holds (m : Nat) (k : Str) (i : AV) (cnt : List Int) (ls : List AV) (tv lsv hv' : AV) (hl : LsOk ls) (he : AV.eqable 6 (.list ls) = true) (ht : HdOk tv) (hte : AV.eqable 6 tv = true)
    (hc' : (someL ls = true ∧ lsv = .list ls ∧ hv' = tv) ∨ (someL ls = false ∧ (lsv = .none ∨ lsv = .list ls))) :
    (interp tabV (m + 80)).C "_law_shape_holds" [.tree (.vec k i (shapeAt (IL cnt) lsv hv')), .tree (.list (IL cnt)), .tree (.list ls), .tree tv] = some (.ret (.tree (.bool true)), .tree (.vec k i (shapeAt (IL cnt) lsv hv'))) := by
  have q1 := eqAV_IL cnt
  have q5 : (someR ls).length ≤ lim := three (Nat.le_trans (someR_len ls) hl.1)
  rcases hc' with ⟨hs, rfl, rfl⟩ | ⟨hs, hlv⟩
  · show (interp tabV (m + 80)).C "_law_shape_holds" [.tree (.vec k i (shapeB (someL ls) (IL cnt) ls hv')), _, _, _] = some (_, .tree (.vec k i (shapeB (someL ls) (IL cnt) ls hv')))
    rw [hs]
    have c1 := fun m => c_ll1 m k i (dvec cnt) (ls.map valOf) (headAttr hv') (by rw [List.length_map]; exact hl.1) (val_isPart hl.2)
    rw [val_part hl.2] at c1
    have c3 := fun m => c_lt1 m k i (dvec cnt) (.list (ls.map valOf)) hv' ht
    rcases ht with rfl | ⟨xs, rfl, _⟩
    · exact fn [hv (dvec cnt), hb true, hu (someR ls) [], hb true, hc (.ret (.mlist ls)) _, hb true, hc (.ret (.tree .none)) _, hb true] (A13 (k_get1 _ _ _ _) q1 ⟨rfl, rfl⟩ (comp_some ls hl.2 (by exact ⟨[], A2 rfl trivial⟩) (by exact fun xs => ⟨[], A2 rfl trivial⟩)) q5 q5 (decide_eq_true (by have := someR_pos hs; omega)) (c1 _) (eqAV_refl he) (c3 _) (eqAV_refl hte) rfl rfl)
    · exact fn [hv (dvec cnt), hb true, hu (someR ls) [], hb true, hc (.ret (.mlist ls)) _, hb true, hc (.ret (.tree (.list xs))) _, hb true] (A13 (k_get1 _ _ _ _) q1 ⟨rfl, rfl⟩ (comp_some ls hl.2 (by exact ⟨[], A2 rfl trivial⟩) (by exact fun ys => ⟨[], A2 rfl trivial⟩)) q5 q5 (decide_eq_true (by have := someR_pos hs; omega)) (c1 _) (eqAV_refl he) (c3 _) (eqAV_refl hte) rfl rfl)
  · have e0 : shapeAt (IL cnt) lsv hv' = .dict ["dim"] [dvec cnt] := by
      rcases hlv with rfl | rfl
      · rfl
      · show shapeB (someL ls) (IL cnt) ls hv' = _
        rw [hs]; rfl
    rw [e0]
    have hz := someR_nil hs
    exact fn [hv (dvec cnt), hb true, hu (someR ls) [], hb false, hc (.ret (.tree .none)) _, hb true, hc (.ret (.tree .none)) _, hb true]
      (A13 (k_get1 _ _ _ _) q1 ⟨rfl, rfl⟩ (comp_some ls hl.2 (by exact ⟨[], A2 rfl trivial⟩) (by exact fun xs => ⟨[], A2 rfl trivial⟩)) q5 q5 (decide_eq_false (by rw [hz]; decide)) (c_ll0 _ _ _ _) rfl (c_lt0 _ _ _ _) rfl rfl rfl)
end Mini

namespace Mini
open PySem

noncomputable def tlN (n : Nat) (l : List Stmt) : List Stmt := Nat.rec (motive := fun _ => List Stmt) l (fun _ ih => tlS ih) n
noncomputable abbrev lawS (k : Nat) : Stmt := hdS (tlN k (bdF "law"))
abbrev LW (m k : Nat) (ρ ρ' : St) : Prop := Ends (stepS (interp tabV (m + 380)) (nsF "law") "script" (lawS k)) ρ .next ρ'

noncomputable def dropN (n : Nat) (l : List Int) : List Int := Nat.rec (motive := fun _ => List Int) l (fun _ ih => ih.dropLast) n
noncomputable def drs (k : Int) (cs : List Int) (n : Nat) : List Int := Nat.rec (motive := fun _ => List Int) [] (fun n ih => ih ++ [drawL (dropN n cs) k]) n
theorem dropN_len (cs : List Int) (h : cs.length ≤ 140) (n : Nat) : (dropN n cs).length ≤ 140 := by
  induction n with
  | zero => exact h
  | succ n ih =>
    show (dropN n cs).dropLast.length ≤ 140
    rw [List.length_dropLast]; omega
theorem l140 {l : List Int} (h : l.length ≤ 140) : l.length ≤ lim := Nat.le_trans h (by decide)
theorem drs_len (k : Int) (cs : List Int) (n : Nat) : (drs k cs n).length = n := by
  induction n with
  | zero => rfl
  | succ n ih =>
    show (drs k cs n ++ [_]).length = _
    rw [List.length_append, ih]; rfl
theorem drs_mem {k : Int} (hk : 0 < k) (cs : List Int) (n : Nat) : ∀ x ∈ drs k cs n, 0 ≤ x ∧ x < k := by
  induction n with
  | zero => exact nofun
  | succ n ih =>
    intro x h
    rcases List.mem_append.mp (show x ∈ drs k cs n ++ [drawL (dropN n cs) k] from h) with h | h
    · exact ih x h
    · rw [List.mem_singleton.mp h]; exact draw_ok _ hk

section
variable (ns cs : List Int) (w : Nat) (ds : List Nat) (ls : List AV)
noncomputable abbrev C1 : St := [("cards", .mlist (IL cs)), ("script", .tree (.list (IL ns)))]
noncomputable abbrev C2 : St := ("wide", .tree (.int (w : Int))) :: C1 ns cs
noncomputable abbrev C3 : St := ("spans", .mlist (IL (NL ds))) :: C2 ns cs w
noncomputable abbrev C4 : St := ("lists", .mlist ls) :: C3 ns cs w ds
end
theorem s0 (m : Nat) (ns : List Int) (hn : ns.length ≤ 63) : ∃ cs : List Int, cs.length ≤ 140 ∧ LW m 0 [("script", .tree (.list (IL ns)))] (C1 ns cs) := by
  obtain ⟨cs, h, c⟩ := c_cards (m + 339) ns hn
  exact ⟨cs, h, cut [hc (.ret (.mlist (IL cs))) _] (A4 c rfl rfl trivial)⟩
theorem s1 (m : Nat) (ns cs : List Int) (h : cs.length ≤ 140) : ∃ w, (w = 2 ∨ w = 3) ∧ LW m 1 (C1 ns cs) (C2 ns cs.dropLast w) := by
  obtain ⟨d1, d2⟩ := draw_ok cs (k := 2) (by decide)
  refine ⟨(2 + drawL cs 2).toNat, by omega, cut [hc (.ret (.tree (.int (drawL cs 2)))) (.mlist (IL cs.dropLast))] (A5 (c_card _ cs 2 (by decide) (l140 h)) (sti (by omega)) rfl rfl trivial)⟩
theorem s2_us (cs : List Int) (n : Nat) : (drs 3 cs n).map (fun x => AV.int (1 + x)) = IL (NL ((drs 3 cs n).map fun x => (1 + x).toNat)) := by
  unfold IL NL
  rw [List.map_map, List.map_map]
  exact List.map_congr_left fun x h => congrArg AV.int (by
    have := drs_mem (by decide) cs n x h
    show 1 + x = ((1 + x).toNat : Int)
    omega)
theorem rng_w {w : Nat} (hw : w ≤ 3) : rngList 0 (w : Int) 1 = some ((List.range w).map fun (i : Nat) => AV.int i) := rng_up (three hw)
theorem s2 (m : Nat) (ns cs : List Int) (h : cs.length ≤ 140) (w : Nat) (hw : w ≤ 3) : ∃ ds, (ds.length = w ∧ ∀ d ∈ ds, 1 ≤ d ∧ d ≤ 3) ∧ LW m 2 (C2 ns cs w) (C3 ns (dropN w cs) w ds) := by
  refine ⟨(drs 3 cs w).map fun x => (1 + x).toNat, ⟨by rw [List.length_map, drs_len], fun d hd => ?_⟩, ?_⟩
  · obtain ⟨x, hx, rfl⟩ := List.mem_map.mp hd
    have := drs_mem (by decide) cs w x hx
    omega
  · show LW m 2 (C2 ns cs w) (("spans", .mlist (IL (NL ((drs 3 cs w).map fun x => (1 + x).toNat)))) :: C2 ns (dropN w cs) w)
    rw [← s2_us]
    refine cut [hls ((List.range w).map fun (i : Nat) => AV.int i), hu ((drs 3 cs w).map (fun x => AV.int (1 + x))) [("cards", .mlist (IL (dropN w cs)))]] (A8 ⟨rfl, rfl⟩ (rng_w hw)
      (Ends.us (Ends.sub (ρ1 := [("cards", .mlist (IL (dropN (List.range w).length cs)))]) (ρ2 := [("cards", .mlist (IL (dropN w cs)))]) (comp_st (l := List.range w) (q := fun (i : Nat) => AV.int i) "lap" (fun done => [("cards", .mlist (IL (dropN done.length cs)))]) (fun done => (drs 3 cs done.length).map (fun x => AV.int (1 + x))) (A2 rfl trivial) fun done i rest e => ?_) (A2 (sml (by rw [List.length_range])) trivial)) (by rw [List.length_range]))
      (by rw [List.length_map, drs_len]; exact three hw) rfl rfl rfl (A2 rfl trivial))
    rw [List.length_append]
    refine ⟨[.int (1 + drawL (dropN done.length cs) 3)], List.map_append, ⟨[hc (.ret (.tree (.int (drawL (dropN done.length cs) 3)))) (.mlist (IL (dropN (done.length + 1) cs)))], A3 (c_card _ _ 3 (by decide) (l140 (dropN_len cs h _))) rfl (A2 rfl trivial)⟩⟩
theorem s3 (m : Nat) (ns cs : List Int) (w : Nat) (ds : List Nat) : LW m 3 (C3 ns cs w ds) (C4 ns cs w ds []) := cut [] (A6 rfl rfl rfl rfl rfl trivial)
end Mini

namespace Mini
open PySem

noncomputable def pre (k : Nat) : Str := ⟨#[114 + k]⟩
theorem rst_at (k : Nat) (hk : k < 3) : subStr (Str.ofString "rst") (k : Int) = some (.str (pre k)) := by
  match k, hk with
  | 0, _ => kernel_rfl
  | 1, _ => kernel_rfl
  | 2, _ => kernel_rfl
noncomputable def nmL (k d : Nat) : List AV := (List.range d).map fun (p : Nat) => AV.str (pre k ++ digit (p : Int))
theorem nmL_len (k d : Nat) : (nmL k d).length = d := by unfold nmL; rw [List.length_map, List.length_range]
def LOk (ds : List Nat) (ls : List AV) : Prop := ∀ (k : Nat) (a : AV), ls[k]? = some a → ∃ d, ds[k]? = some d ∧ (a = .none ∨ a = .list (nmL k d))
noncomputable def lsAt (cs : List Int) (ds : List Nat) (k : Nat) : AV := match decide (drawL (dropN k cs) 2 = 1) with
  | true => .list (nmL k ((ds[k]?).getD 0))
  | false => .none
noncomputable def lsF (cs : List Int) (ds : List Nat) (w : Nat) : List AV := (List.range w).map (lsAt cs ds)
theorem lsF_snoc (cs : List Int) (ds : List Nat) (i : Nat) (a : AV) (h : lsAt cs ds i = a) : lsF cs ds i ++ [a] = lsF cs ds (i + 1) := by
  unfold lsF
  rw [List.range_succ, List.map_append, ← h]; rfl
theorem lsF_ok (cs : List Int) (ds : List Nat) : LOk ds (lsF cs ds ds.length) := fun k a h => by
  unfold lsF at h
  rw [List.getElem?_map] at h
  have hk : k < ds.length := by
    rw [← List.length_range (n := ds.length)]
    cases q : (List.range ds.length)[k]? with
    | none => rw [q] at h; cases h
    | some b => exact (List.getElem?_eq_some_iff.mp q).1
  rw [List.getElem?_range hk] at h
  have h : some (lsAt cs ds k) = some a := h
  refine ⟨ds[k], List.getElem?_eq_getElem hk, ?_⟩
  rw [← Option.some.inj h]
  unfold lsAt
  cases decide (drawL (dropN k cs) 2 = 1) with
  | true => rw [List.getElem?_eq_getElem hk]; exact .inr rfl
  | false => exact .inl rfl
theorem s4 (m : Nat) (ns cs : List Int) (hc' : cs.length ≤ 140) (w : Nat) (hw : w ≤ 3) (ds : List Nat) (hd : ds.length = w ∧ ∀ d ∈ ds, 1 ≤ d ∧ d ≤ 3) :
    LW m 4 (C4 ns cs w ds []) (C4 ns (dropN w cs) w ds (lsF cs ds w)) := by
  let inv : Nat → St := fun i => C4 ns (dropN i cs) w ds (lsF cs ds i)
  refine cut [hls ((List.range w).map fun (i : Nat) => AV.int i), hf .next (inv w)] (A7 (rng_w hw) (forR (g := fun i => AV.int i) inv (A6 rfl rfl rfl rfl rfl trivial) fun i hi => ?_) rfl rfl rfl rfl (A2 rfl trivial))
  have c1 := fun m => c_card m (dropN i cs) 2 (by decide) (l140 (dropN_len cs hc' i))
  have hi3 : i < 3 := Nat.lt_of_lt_of_le hi hw
  have e5 : (lsF cs ds i).length ≤ lim := by unfold lsF; rw [List.length_map, List.length_range]; exact three (Nat.le_of_lt hi3)
  obtain ⟨d, hdi⟩ : ∃ d, ds[i]? = some d := ⟨_, List.getElem?_eq_getElem (by rw [hd.1]; exact hi)⟩
  have hdb := hd.2 d (List.mem_of_getElem? hdi)
  show Turn _ _ _ _ _ _ _ (C4 ns (dropN i cs) w ds (lsF cs ds i)) (C4 ns (dropN i cs).dropLast w ds (lsF cs ds (i + 1)))
  cases q : decide (drawL (dropN i cs) 2 = 1) with
  | true =>
    have e6 := lsF_snoc cs ds i (.list (nmL i d)) (by unfold lsAt; rw [q, hdi]; rfl)
    have e1 : subL (IL (NL ds)) (i : Int) = some (.int (d : Int)) := sub_of (IL_get' (NL_get hdi)) rfl (three (Nat.le_of_lt hi3))
    have e4 := rst_at i hi3
    have hr : rngList 0 (d : Int) 1 = some ((List.range d).map fun (p : Nat) => AV.int p) := rng_up (three hdb.2)
    revert e6 e5
    generalize lsF cs ds i = l1
    generalize lsF cs ds (i + 1) = l2
    intro e5 e6
    exact ⟨[hc (.ret (.tree (.int (drawL (dropN i cs) 2)))) (.mlist (IL (dropN i cs).dropLast)), hb true, hv (.int (d : Int)), hls ((List.range d).map fun (p : Nat) => AV.int p), hu (nmL i d) [("at", .tree (.int (i : Int)))]],
      A14 (c1 _) q ⟨rfl, rfl⟩ e1 hr (comp_map (l := List.range d) (q := fun p => AV.int p) "spot" (fun (p : Nat) => AV.str (pre i ++ digit (p : Int))) [("at", .tree (.int (i : Int)))] (A2 rfl trivial) fun p hp => by
        have hp := List.mem_range.mp hp
        exact ⟨[hv (.str (pre i))], A5 e4 ⟨by omega, by omega⟩ (show 1 + 1 ≤ 1000 by decide) rfl (A2 rfl trivial)⟩) (by rw [nmL_len]; exact three hdb.2) e5 (sml e6) rfl rfl rfl rfl trivial⟩
  | false =>
    have e6 := lsF_snoc cs ds i .none (by unfold lsAt; rw [q])
    revert e6 e5
    generalize lsF cs ds i = l1
    generalize lsF cs ds (i + 1) = l2
    intro e5 e6
    exact ⟨[hc (.ret (.tree (.int (drawL (dropN i cs) 2)))) (.mlist (IL (dropN i cs).dropLast)), hb false], A9 (c1 _) q e5 (sml e6) rfl rfl rfl rfl trivial⟩

noncomputable def xyz (w : Nat) : List AV := [AV.str "X", AV.str "Y", AV.str "Z"].take w
theorem xyz_len {w : Nat} (hw : w ≤ 3) : (xyz w).length = w := by unfold xyz; rw [List.length_take]; exact Nat.min_eq_left hw
noncomputable def TL (a : AV) : LV := match a with
  | .list hs => .mlist hs
  | _ => .tree .none
def TvOk (w : Nat) (tv : AV) : Prop := tv = .none ∨ tv = .list (xyz w)
section
variable (ns cs : List Int) (w : Nat) (ds : List Nat) (ls : List AV) (T : LV)
noncomputable def tot (ds : List Nat) : Nat := (SL (spotsL (ds.map upto))).length
noncomputable abbrev D5 : St := ("titles", T) :: C4 ns cs w ds ls
noncomputable abbrev D6 : St := [("total", .tree (.int (tot ds))), ("titles", T), ("lists", .mlist ls), ("spans", .tree (.list (IL (NL ds)))), ("wide", .tree (.int (w : Int))), ("cards", .mlist (IL cs)), ("script", .tree (.list (IL ns)))]
end
theorem s5 (m : Nat) (ns cs : List Int) (h : cs.length ≤ 140) (w : Nat) (hw : w ≤ 3) (ds : List Nat) (ls : List AV) : ∃ tv, TvOk w tv ∧ LW m 5 (C4 ns cs w ds ls) (D5 ns cs.dropLast w ds ls (TL tv)) := by
  have c1 := fun m => c_card m cs 3 (by decide) (l140 h)
  cases q : decide (drawL cs 3 = 2) with
  | true => exact ⟨.list (xyz w), .inr rfl, cut [hc (.ret (.tree (.int (drawL cs 3)))) (.mlist (IL cs.dropLast)), hb true] (A10 (c1 _) q ⟨by omega, by omega, by decide⟩ rfl rfl rfl rfl rfl rfl trivial)⟩
  | false => exact ⟨.none, .inl rfl, cut [hc (.ret (.tree (.int (drawL cs 3)))) (.mlist (IL cs.dropLast)), hb false] (A9 (c1 _) q rfl rfl rfl rfl rfl rfl trivial)⟩
theorem tot_le (ds : List Nat) (hl : ds.length ≤ 3) (hd : ∀ d ∈ ds, 1 ≤ d ∧ d ≤ 3) : tot ds ≤ 27 := by
  have := spots_inv (ds.map upto) (fun ps hps => by
    obtain ⟨d, hd', rfl⟩ := List.mem_map.mp hps
    rw [upto_len]; exact (hd d hd').2)
  rw [List.length_map] at this
  unfold tot
  rw [SL_len]
  exact Nat.le_trans this (Nat.pow_le_pow_right (by decide : 3 > 0) hl)
theorem s6 (m : Nat) (ns cs : List Int) (w : Nat) (hw : w ≤ 3) (ds : List Nat) (hd : ds.length = w ∧ ∀ d ∈ ds, 1 ≤ d ∧ d ≤ 3) (ls : List AV) (T : LV) : LW m 6 (D5 ns cs w ds ls T) (D6 ns cs w ds ls T) := by
  have htl : tot ds ≤ lim := Nat.le_trans (tot_le ds (by rw [hd.1]; exact hw) hd.2) (by decide)
  have c1 := fun m => c_spots m (ds.map fun (d : Nat) => (AV.rng 0 (d : Int) 1, upto d)) (by rw [List.length_map, hd.1]; exact hw) (fun q hq => by
      obtain ⟨d, hd', rfl⟩ := List.mem_map.mp hq
      have hb := hd.2 d hd'
      exact ⟨.inl ⟨_, _, _, rfl, by rw [← upto_IL]; exact rng_up (three hb.2)⟩, by show (upto d).length ≤ 3; rw [upto_len]; exact hb.2⟩)
  rw [List.map_map, List.map_map] at c1
  exact cut [hu (ds.map fun (d : Nat) => AV.rng 0 (d : Int) 1) [], hc (.ret (.mlist (SL (spotsL (ds.map upto))))) _] (A12 ⟨rfl, rfl⟩ (comp_map (l := ds) (q := fun (d : Nat) => AV.int (d : Int)) "span" (fun (d : Nat) => AV.rng 0 (d : Int) 1) [] trivial
    (fun d hd => by exact ⟨[], A2 rfl trivial⟩) (he := by unfold IL NL; rw [List.map_map]; rfl)) (by rw [List.length_map, hd.1]; exact three hw) (c1 _) htl rfl rfl rfl rfl rfl rfl (A2 rfl trivial))
noncomputable def itsL (T : Nat) : List AV := (List.range T).map fun (i : Nat) => AV.int (100 + (i : Int))
theorem itsL_len (T : Nat) : (itsL T).length = T := by unfold itsL; rw [List.length_map, List.length_range]
theorem its_rng (T : Nat) (h : T ≤ 27) : rngList 100 (100 + (T : Int)) 1 = some (itsL T) := by
  unfold rngList
  rw [if_pos ⟨by decide, by unfold lim; omega⟩, if_pos rfl, show ((100 : Int) + T - 100).toNat = T by omega]; rfl
section
variable (ns cs : List Int) (w : Nat) (ds : List Nat) (ls : List AV) (T : LV) (at' : AV)
noncomputable abbrev D7 : St := ("v", .mvec "integer" (.list (itsL (tot ds))) at') :: D6 ns cs w ds ls T
end
theorem s7 (m : Nat) (ns cs : List Int) (w : Nat) (ds : List Nat) (hT : tot ds ≤ 27) (ls : List AV) (T : LV) : LW m 7 (D6 ns cs w ds ls T) (D7 ns cs w ds ls T .none) :=
  cut [hls (itsL (tot ds))] (A10 (its_rng _ hT) rfl rfl rfl rfl rfl rfl rfl rfl trivial)
theorem s8 (m : Nat) (ns cs : List Int) (w : Nat) (ds : List Nat) (hl : ds.length ≤ 3) (ls : List AV) (T : LV) : LW m 8 (D7 ns cs w ds ls T .none) (D7 ns cs w ds ls T (.dict ["dim"] [dvec (NL ds)])) :=
  cut [] (A10 (by rw [IL_len, NL_len]; exact three hl) rfl rfl rfl rfl rfl rfl rfl rfl trivial)
end Mini

namespace Mini
open PySem

theorem eqL_of (n : Nat) (xs : List AV) (h : ∀ a ∈ xs, AV.eqable n a = true) : AV.eqableL n xs = true := by
  induction xs with
  | nil => rfl
  | cons x xs ih =>
    show (AV.eqable n x && AV.eqableL n xs) = true
    rw [h x List.mem_cons_self, ih fun a ha => h a (List.mem_cons_of_mem _ ha)]; rfl
theorem eq6 {n : Nat} {xs : List AV} (h : ∀ a ∈ xs, AV.eqable n a = true) : AV.eqable (n + 1) (.list xs) = true := eqL_of n xs h
theorem eqs_of (n : Nat) (s : Str) (h : PyData.strOk s = true) : AV.eqable n (.str s) = true := by cases n <;> exact h
theorem nm_ok (k : Nat) (hk : k < 3) (p : Nat) (hp : p < 10) : PyData.strOk (pre k ++ digit (p : Int)) = true := by
  apply sOk_ok
  show (decide (114 + k < 0x110000) && (decide (48 + p < 0x110000) && true)) = true
  rw [decide_eq_true (show 114 + k < 0x110000 by omega), decide_eq_true (show 48 + p < 0x110000 by omega)]; rfl
theorem nmL_ok (n k d : Nat) (hk : k < 3) (hd : d ≤ 3) : ∀ a ∈ nmL k d, AV.eqable n a = true := fun a ha => by
  obtain ⟨p, hp, rfl⟩ := List.mem_map.mp ha
  rw [List.mem_range] at hp
  exact eqs_of n _ (nm_ok k hk p (by omega))
theorem LOk.each {ds : List Nat} {ls : List AV} (h : LOk ds ls) (hl : ls.length ≤ 3) (hd : ∀ d ∈ ds, 1 ≤ d ∧ d ≤ 3) : ∀ a ∈ ls, HdOk a ∧ AV.eqable 5 a = true := fun a ha => by
  obtain ⟨k, hk⟩ := List.mem_iff_getElem?.mp ha
  obtain ⟨d, hd', ho⟩ := h k a hk
  have hb := hd d (List.mem_of_getElem? hd')
  have hk3 : k < 3 := Nat.lt_of_lt_of_le (List.getElem?_eq_some_iff.mp hk).1 hl
  rcases ho with rfl | rfl
  · exact ⟨.inl rfl, rfl⟩
  · exact ⟨.inr ⟨_, rfl, by rw [nmL_len]; exact hb.2⟩, eq6 (nmL_ok 4 k d hk3 hb.2)⟩
theorem eq_nil {R : List AV} (h : ∀ a ∈ R, AV.eqable 5 a = true) : eqAV (.list R) (.list []) = some (AV.sameL R []) := by
  unfold eqAV
  rw [if_pos (by rw [eq6 h]; rfl)]; rfl
section
variable (ns cs : List Int) (w : Nat) (ds : List Nat) (ls : List AV) (T : LV) (at' : AV) (pss : List (List Int)) (ixs : List AV)
noncomputable abbrev E0 : St := [("total", .tree (.int (tot ds))), ("titles", T), ("lists", .tree (.list ls)), ("spans", .tree (.list (IL (NL ds)))), ("wide", .tree (.int (w : Int))), ("script", .tree (.list (IL ns)))]
noncomputable abbrev E9 : St := ("v", .mvec "integer" (.list (itsL (tot ds))) at') :: ("cards", .mlist (IL cs)) :: E0 ns w ds ls T
noncomputable abbrev E11 : St := ("indexes", .mlist ixs) :: ("picks", .mlist (LL pss)) :: E9 ns cs w ds ls T at'
noncomputable abbrev E13 (due : List Int) : St := ("due", .mlist (IL due)) :: ("indexes", .mlist ixs) :: ("picks", .mlist (LL pss)) :: ("v", .mvec "integer" (.list (itsL (tot ds))) at') :: E0 ns w ds ls T
noncomputable abbrev E14 (due : List Int) : St := ("due", .mlist (IL due)) :: ("indexes", .mlist ixs) :: ("picks", .tree (.list (LL pss))) :: ("v", .mvec "integer" (.list (itsL (tot ds))) at') :: E0 ns w ds ls T
end
theorem s9 (m : Nat) (ns cs : List Int) (w : Nat) (hw : w ≤ 3) (ds : List Nat) (ls : List AV) (hl : ls.length ≤ 3) (hls : ∀ a ∈ ls, HdOk a ∧ AV.eqable 5 a = true) (tv : AV) (ht : TvOk w tv) :
    ∃ T, (T = .tree tv ∨ ∃ l, T = .mlist l ∧ tv = .list l) ∧ LW m 9 (D7 ns cs w ds ls (TL tv) (.dict ["dim"] [dvec (NL ds)])) (E9 ns cs w ds ls T (shapeB (someL ls) (IL (NL ds)) ls tv)) := by
  have h1 : (someR ls).length ≤ lim := three (Nat.le_trans (someR_len ls) hl)
  have h2 := eq_nil fun a ha => (hls a (someR_mem ha)).2
  have h3 : (ls.map valOf).length ≤ lim := by rw [List.length_map]; exact three hl
  have ho := fun a ha => (hls a ha).1
  cases q : someL ls with
  | false =>
    rw [someR_nil q] at h2
    refine ⟨TL tv, by rcases ht with rfl | rfl; exact .inl rfl; exact .inr ⟨_, rfl, rfl⟩, cut [hu (someR ls) [], hb true] (A13 ⟨rfl, rfl⟩ (comp_some ls ho (by exact ⟨[], A2 rfl trivial⟩) (by exact fun xs => ⟨[], A2 rfl trivial⟩)) h1 (by rw [someR_nil q]; exact h2) rfl rfl rfl rfl rfl rfl rfl rfl trivial)⟩
  | true =>
    have h4 : AV.sameL (someR ls) [] = false := by
      have := someR_pos q
      cases hR : someR ls with
      | nil => rw [hR] at this; cases this
      | cons a R => rfl
    rw [h4] at h2
    rcases ht with rfl | rfl
    · exact ⟨.tree .none, .inl rfl, cut [hu (someR ls) [], hb false, hu (ls.map valOf) []] (A16 ⟨rfl, rfl⟩ (comp_some ls ho (by exact ⟨[], A2 rfl trivial⟩) (by exact fun xs => ⟨[], A2 rfl trivial⟩)) h1 h2
        ⟨rfl, rfl⟩ (comp_map "one" valOf [] trivial (he := id_map ls) (fun p q => by
          rcases ho p q with rfl | ⟨xs, rfl, hx⟩
          · exact ⟨[], A2 rfl trivial⟩
          · exact ⟨[], A3 (three hx) rfl trivial⟩)) h3 rfl rfl rfl rfl rfl rfl rfl rfl trivial)⟩
    · exact ⟨.tree (.list (xyz w)), .inl rfl, cut [hu (someR ls) [], hb false, hu (ls.map valOf) []] (A17 ⟨rfl, rfl⟩ (comp_some ls ho (by exact ⟨[], A2 rfl trivial⟩) (by exact fun xs => ⟨[], A2 rfl trivial⟩)) h1 h2
        ⟨rfl, rfl⟩ (comp_map "one" valOf [] trivial (he := id_map ls) (fun p q => by
          rcases ho p q with rfl | ⟨xs, rfl, hx⟩
          · exact ⟨[], A2 rfl trivial⟩
          · exact ⟨[], A3 (three hx) rfl trivial⟩)) h3 (by rw [xyz_len hw]; exact three hw) rfl rfl rfl rfl rfl rfl rfl rfl trivial)⟩
theorem s10 (m : Nat) (ns cs : List Int) (w : Nat) (ds : List Nat) (ls : List AV) (T : LV) (at' : AV) : LW m 10 (E9 ns cs w ds ls T at') (("picks", .mlist (LL [])) :: E9 ns cs w ds ls T at') := cut [] (A10 rfl rfl rfl rfl rfl rfl rfl rfl rfl trivial)
theorem s11 (m : Nat) (ns cs : List Int) (w : Nat) (ds : List Nat) (ls : List AV) (T : LV) (at' : AV) : LW m 11 (("picks", .mlist (LL [])) :: E9 ns cs w ds ls T at') (E11 ns cs w ds ls T at' [] []) := cut [] (A11 rfl rfl rfl rfl rfl rfl rfl rfl rfl rfl trivial)
def AxPart (i : Nat) (ixs : List AV) (ds : List Nat) (pss : List (List Int)) : Prop := ixs.length = i ∧ pss.length = i ∧ ∀ k, k < i → ∃ ix d ps, ixs[k]? = some ix ∧ ds[k]? = some d ∧ pss[k]? = some ps ∧ IxOk ix d ps ∧ d ≤ 3 ∧ ps.length ≤ 3
theorem get_snoc {α : Type} (l : List α) (a : α) {n : Nat} (h : l.length = n) : (l ++ [a])[n]? = some a := by
  rw [List.getElem?_append_right (by rw [h]; exact Nat.le_refl _), h, Nat.sub_self]; rfl
theorem AxPart.snoc {i : Nat} {ixs : List AV} {ds : List Nat} {pss : List (List Int)} (h : AxPart i ixs ds pss) {ix : AV} {d : Nat} {ps : List Int} (hd : ds[i]? = some d) (hx : IxOk ix d ps) (h3 : d ≤ 3) (hl : ps.length ≤ 3) : AxPart (i + 1) (ixs ++ [ix]) ds (pss ++ [ps]) := by
  obtain ⟨a, b, c⟩ := h
  refine ⟨by rw [List.length_append, a]; rfl, by rw [List.length_append, b]; rfl, fun k hk => ?_⟩
  rcases Nat.lt_succ_iff_lt_or_eq.mp hk with q | rfl
  · obtain ⟨ix', d', ps', g1, g2, g3, g4⟩ := c k q
    exact ⟨ix', d', ps', by rw [List.getElem?_append_left (by rw [a]; exact q)]; exact g1, g2, by rw [List.getElem?_append_left (by rw [b]; exact q)]; exact g3, g4⟩
  · exact ⟨ix, d, ps, get_snoc ixs ix a, hd, get_snoc pss ps b, hx, h3, hl⟩
theorem LL_app (pss : List (List Int)) (ps : List Int) : LL pss ++ [.list (IL ps)] = LL (pss ++ [ps]) := by unfold LL; rw [List.map_append]; rfl
theorem IL_drs (k : Int) (cs : List Int) (n : Nat) : IL (drs k cs n) ++ [.int (drawL (dropN n cs) k)] = IL (drs k cs (n + 1)) := IL_snoc _ _
theorem t12 (m : Nat) (ns cs : List Int) (h : cs.length ≤ 140) (w : Nat) (ds : List Nat) (ls : List AV) (T : LV) (at' : AV) (pss : List (List Int)) (ixs : List AV) (i d : Nat) (hi : i < 3) (hdi : ds[i]? = some d) (hd : 1 ≤ d ∧ d ≤ 3) (hp : pss.length = i) (hx : ixs.length = i) :
    ∃ ps ix cs', IxOk ix d ps ∧ ps.length ≤ 3 ∧ cs'.length ≤ 140 ∧ Turn m 380 (nsF "law") "script" (bodyS (lawS 12)) "at" (.int (i : Int)) (E11 ns cs w ds ls T at' pss ixs) (E11 ns cs' w ds ls T at' (pss ++ [ps]) (ixs ++ [ix])) := by
  have c1 := fun m => c_card m cs 3 (by decide) (l140 h)
  have g1 : subL (IL (NL ds)) (i : Int) = some (.int (d : Int)) := sub_of (IL_get' (NL_get hdi)) rfl (three (Nat.le_of_lt hi))
  have h1 : cs.dropLast.length ≤ 140 := dropN_len cs h 1
  have l1 : (LL pss).length ≤ lim := by rw [LL_len, hp]; exact three (Nat.le_of_lt hi)
  have l2 : ixs.length ≤ lim := by rw [hx]; exact three (Nat.le_of_lt hi)
  cases q : decide (drawL cs 3 = 2) with
  | true =>
    refine ⟨upto d, .miss, cs.dropLast, .inl ⟨rfl, rfl⟩, by rw [upto_len]; exact hd.2, h1, [hc (.ret (.tree (.int (drawL cs 3)))) (.mlist (IL cs.dropLast)), hb true, hv (.int (d : Int)), hls (IL (upto d)), hc (.ret (.tree .miss)) _],
      A18 (c1 _) q g1 (by rw [← upto_IL]; exact rng_up (three hd.2)) l1 (c_missing _) l2 rfl (sml (LL_app pss _)) rfl rfl rfl rfl rfl rfl rfl rfl trivial⟩
  | false =>
    have c2 := fun m => c_card m cs.dropLast 4 (by decide) (l140 h1)
    obtain ⟨d1, d2⟩ := draw_ok cs.dropLast (k := 4) (by decide)
    obtain ⟨n, hn⟩ := Int.eq_ofNat_of_zero_le d1
    have hn3 : n ≤ 3 := by omega
    have h2 : cs.dropLast.dropLast.length ≤ 140 := dropN_len cs h 2
    rw [hn] at c2
    have hdp : 0 < (d : Int) := by omega
    have l3 : (IL (drs d cs.dropLast.dropLast n)).length ≤ lim := by rw [IL_len, drs_len]; exact three hn3
    refine ⟨drs d cs.dropLast.dropLast n, .vec "integer" (.list (IL ((drs d cs.dropLast.dropLast n).map (· + 1)))) .none, dropN n cs.dropLast.dropLast, .inr ⟨⟨_, rfl⟩, drs_mem hdp _ n⟩, by rw [drs_len]; exact hn3, dropN_len _ h2 n,
      [hc (.ret (.tree (.int (drawL cs 3)))) (.mlist (IL cs.dropLast)), hb false, hc (.ret (.tree (.int (n : Int)))) (.mlist (IL cs.dropLast.dropLast)), hls ((List.range n).map fun (i : Nat) => AV.int i),
        hu (IL (drs d cs.dropLast.dropLast n)) [("cards", .mlist (IL (dropN n cs.dropLast.dropLast))), ("spans", .tree (.list (IL (NL ds)))), ("at", .tree (.int (i : Int)))], hv (.list (IL (drs d cs.dropLast.dropLast n))), hu (IL ((drs d cs.dropLast.dropLast n).map (· + 1))) []],
      A24 (c1 _) q ⟨rfl, rfl⟩ (c2 _) (rng_w hn3) ?_ l3 l1 ⟨rfl, rfl⟩ (sub_of (get_snoc (LL pss) _ (by rw [LL_len]; exact hp)) rfl (three (Nat.le_of_lt hi))) (Ends.us (comp_map (l := drs d cs.dropLast.dropLast n) (q := AV.int) "spot" (fun p => AV.int (p + 1)) [] trivial fun p hp => by exact ⟨[], A2 rfl trivial⟩) (by unfold IL; rw [List.map_map]; rfl))
        (by rw [IL_len, List.length_map, drs_len]; exact three hn3) l2 rfl (sml (LL_app pss _)) rfl rfl rfl rfl rfl rfl rfl rfl trivial⟩
    generalize cs.dropLast.dropLast = c3 at h2
    refine Ends.us (Ends.sub (ρ1 := [("cards", .mlist (IL (dropN (List.range n).length c3))), ("spans", .tree (.list (IL (NL ds)))), ("at", .tree (.int (i : Int)))]) (comp_st (l := List.range n) (q := fun (i : Nat) => AV.int i) "lap" (fun done => [("cards", .mlist (IL (dropN done.length c3))), ("spans", .tree (.list (IL (NL ds)))), ("at", .tree (.int (i : Int)))]) (fun done => IL (drs d c3 done.length))
      (A4 rfl rfl rfl trivial) fun done j rest e => ?_) (A4 (sml (by rw [List.length_range])) rfl rfl trivial)) (by rw [List.length_range])
    rw [List.length_append]
    refine ⟨[.int (drawL (dropN done.length c3) d)], (IL_drs _ _ _).symm, ⟨[hv (.int (d : Int)), hc (.ret (.tree (.int (drawL (dropN done.length c3) d)))) (.mlist (IL (dropN (done.length + 1) c3)))], A6 g1 (c_card _ _ _ hdp (l140 (dropN_len _ h2 _))) rfl rfl rfl (A2 rfl trivial)⟩⟩
theorem s12_go (m : Nat) (ns : List Int) (w : Nat) (hw : w ≤ 3) (ds : List Nat) (hd : ds.length = w ∧ ∀ d ∈ ds, 1 ≤ d ∧ d ≤ 3) (ls : List AV) (T : LV) (at' : AV) (n : Nat) : ∀ (i : Nat) (cs : List Int) (pss : List (List Int)) (ixs : List AV), i + n = w → cs.length ≤ 140 → AxPart i ixs ds pss →
    ∃ pss' ixs' cs', AxPart w ixs' ds pss' ∧ Ends (forL ((interp tabV (m + 380)).B (nsF "law") "script" (bodyS (lawS 12))) "at" ((List.range' i n).map fun (i : Nat) => AV.int (i : Int))) (E11 ns cs w ds ls T at' pss ixs) .next (E11 ns cs' w ds ls T at' pss' ixs') := by
  induction n with
  | zero => exact fun i cs pss ixs e h hax => ⟨pss, ixs, cs, by rw [← e]; exact hax, fun σ hA => ⟨σ, rfl, hA⟩⟩
  | succ n ih =>
    intro i cs pss ixs e h hax
    have hi : i < w := by omega
    obtain ⟨d, hdi⟩ : ∃ d, ds[i]? = some d := ⟨_, List.getElem?_eq_getElem (by rw [hd.1]; exact hi)⟩
    have hdb := hd.2 d (List.mem_of_getElem? hdi)
    obtain ⟨ps, ix, cs1, h1, h2, h3, t⟩ := t12 m ns cs h w ds ls T at' pss ixs i d (Nat.lt_of_lt_of_le hi hw) hdi hdb hax.2.1 hax.1
    obtain ⟨pss', ixs', cs', h4, h5⟩ := ih (i + 1) cs1 (pss ++ [ps]) (ixs ++ [ix]) (by omega) h3 (hax.snoc hdi h1 hdb.2 h2)
    exact ⟨pss', ixs', cs', h4, for_cons t h5⟩
theorem s12 (m : Nat) (ns cs : List Int) (h : cs.length ≤ 140) (w : Nat) (hw : w ≤ 3) (ds : List Nat) (hd : ds.length = w ∧ ∀ d ∈ ds, 1 ≤ d ∧ d ≤ 3) (ls : List AV) (T : LV) (at' : AV) :
    ∃ pss ixs cs', AxPart w ixs ds pss ∧ LW m 12 (E11 ns cs w ds ls T at' [] []) (E11 ns cs' w ds ls T at' pss ixs) := by
  obtain ⟨pss, ixs, cs', h1, h2⟩ := s12_go m ns w hw ds hd ls T at' w 0 cs [] [] (Nat.zero_add w) h ⟨rfl, rfl, fun k hk => absurd hk (Nat.not_lt_zero k)⟩
  rw [← List.range_eq_range'] at h2
  exact ⟨pss, ixs, cs', h1, cut [hls ((List.range w).map fun (i : Nat) => AV.int i), hf .next (E11 ns cs' w ds ls T at' pss ixs)] (A13 (rng_w hw) h2 rfl rfl rfl rfl rfl rfl rfl rfl rfl rfl trivial)⟩
theorem s13 (m : Nat) (ns cs : List Int) (w : Nat) (ds : List Nat) (ls : List AV) (T : LV) (at' : AV) (pss : List (List Int)) (ixs : List AV) : LW m 13 (E11 ns cs w ds ls T at' pss ixs) (E13 ns w ds ls T at' pss ixs []) := cut [] (A11 rfl rfl rfl rfl rfl rfl rfl rfl rfl rfl trivial)
end Mini

namespace Mini
open PySem

noncomputable def plN (s : List Int) (ds : List Nat) (i : Nat) : Int := Nat.rec (motive := fun _ => Int) 0 (fun i ih => ih + (s[i]?).getD 0 * prodL (NL (ds.take i))) i
noncomputable def dueL (ds : List Nat) (pss : List (List Int)) (w : Nat) : List Int := (spotsL pss).map fun s => 100 + plN s ds w
theorem spots_mem (pss : List (List Int)) : ∀ s ∈ spotsL pss, ∀ (k : Nat) (a : Int), s[k]? = some a → ∃ ps, pss[k]? = some ps ∧ a ∈ ps := by
  induction pss using snoc_ind with
  | h0 => exact fun s h k a g => by rw [List.mem_singleton.mp h] at g; cases g
  | h1 l ps ih =>
    intro s h k a g
    rw [spotsL_snoc] at h
    obtain ⟨t, b, ht, hb, rfl⟩ := stepS'_mem h
    have hl := spots_len l t ht
    by_cases q : k < t.length
    · rw [List.getElem?_append_left q] at g
      obtain ⟨qs, g1, g2⟩ := ih t ht k a g
      exact ⟨qs, by rw [List.getElem?_append_left (by rw [← hl]; exact q)]; exact g1, g2⟩
    · have hk : k = t.length := by
        have := (List.getElem?_eq_some_iff.mp g).1
        rw [List.length_append] at this
        exact Nat.le_antisymm (Nat.le_of_lt_succ this) (Nat.le_of_not_lt q)
      subst hk
      rw [get_snoc t b rfl] at g
      cases g
      exact ⟨ps, get_snoc l ps hl.symm, hb⟩
theorem NL_snoc (ds : List Nat) (d : Nat) : NL (ds ++ [d]) = NL ds ++ [(d : Int)] := List.map_append
theorem pl_step {s : List Int} {ds : List Nat} {i : Nat} {a : Int} (h : s[i]? = some a) : plN s ds (i + 1) = plN s ds i + a * prodL (NL (ds.take i)) := by
  show _ + (s[i]?).getD 0 * _ = _
  rw [h]; rfl
theorem prod_take {ds : List Nat} {i d : Nat} (h : ds[i]? = some d) : prodL (NL (ds.take (i + 1))) = prodL (NL (ds.take i)) * (d : Int) := by
  rw [List.take_add_one, h]
  exact (congrArg prodL (NL_snoc _ _)).trans (prodL_snoc _ _)
theorem plN_app (s : List Int) (a : Int) (ds : List Nat) (d : Nat) (i : Nat) (h1 : i ≤ s.length) (h2 : i ≤ ds.length) : plN (s ++ [a]) (ds ++ [d]) i = plN s ds i := by
  induction i with
  | zero => rfl
  | succ i ih =>
    show plN (s ++ [a]) (ds ++ [d]) i + ((s ++ [a])[i]?).getD 0 * prodL (NL ((ds ++ [d]).take i)) = _
    rw [ih (Nat.le_of_succ_le h1) (Nat.le_of_succ_le h2), List.getElem?_append_left h1, List.take_append_of_le_length (Nat.le_of_succ_le h2)]; rfl
theorem fold_from (ks : List (List Int × Int)) : ∀ init : List Int, ks.foldr (fun k found => stepA found k.1 k.2) init = init.flatMap fun b => (foldA ks).map fun c => b + c := by
  induction ks with
  | nil =>
    intro init
    show init = init.flatMap fun b => [b + 0]
    rw [flat_one]
    exact ((List.map_congr_left fun b _ => Int.add_zero b).trans (List.map_id _)).symm
  | cons k ks ih =>
    intro init
    show stepA (ks.foldr _ init) k.1 k.2 = init.flatMap fun b => (stepA (foldA ks) k.1 k.2).map fun c => b + c
    rw [ih init]
    unfold stepA
    rw [List.flatMap_assoc]
    congr 1; funext b
    rw [List.flatMap_map, List.map_flatMap]
    congr 1; funext c
    rw [List.map_map]
    exact List.map_congr_left fun p _ => Int.add_assoc b c _
theorem places_snoc (ds : List Nat) (d : Nat) (pss : List (List Int)) (ps : List Int) (h : pss.length = ds.length) : placesOf (NL (ds ++ [d])) (pss ++ [ps]) = ps.flatMap fun a => (placesOf (NL ds) pss).map fun c => c + a * prodL (NL ds) := by
  unfold placesOf
  rw [NL_snoc, prod_step, List.zip_append (by rw [strideL_len, NL_len, h])]
  unfold foldA
  rw [List.foldr_append, fold_from]
  show (stepA [0] ps (prodL (NL ds))).flatMap _ = _
  unfold stepA
  rw [List.flatMap_cons, List.flatMap_nil, List.append_nil, List.flatMap_map]
  congr 1; funext a
  exact List.map_congr_left fun c _ => by rw [Int.zero_add, Int.add_comm]
theorem places_eq (ds : List Nat) : ∀ (pss : List (List Int)), pss.length = ds.length → placesOf (NL ds) pss = (spotsL pss).map fun s => plN s ds ds.length := by
  induction ds using snoc_ind with
  | h0 => exact fun pss h => by rw [List.length_eq_zero_iff.mp h]; rfl
  | h1 ds d ih =>
    intro pss h
    have hne : pss ≠ [] := fun e => by rw [e, List.length_append] at h; cases h
    obtain ⟨l, ps, rfl⟩ : ∃ l ps, pss = l ++ [ps] := ⟨_, _, (List.dropLast_concat_getLast hne).symm⟩
    rw [List.length_append, List.length_append] at h
    have h : l.length = ds.length := Nat.succ.inj h
    rw [places_snoc ds d l ps h, ih l h, spotsL_snoc]
    unfold stepS'
    rw [List.map_flatMap]
    congr 1; funext a
    rw [List.map_map, List.map_map]
    refine List.map_congr_left fun s hs => ?_
    have hl := (spots_len l s hs).trans h
    show plN s ds ds.length + a * prodL (NL ds) = plN (s ++ [a]) (ds ++ [d]) (ds ++ [d]).length
    rw [List.length_append]
    show _ = plN (s ++ [a]) (ds ++ [d]) (ds.length + 1)
    rw [pl_step (get_snoc s a hl), plN_app s a ds d _ (by rw [hl]; exact Nat.le_refl _) (Nat.le_refl _), List.take_append_of_le_length (Nat.le_refl _), List.take_length]
theorem tot_snoc (ds : List Nat) (d : Nat) : tot (ds ++ [d]) = d * tot ds := by
  unfold tot
  rw [List.map_append, SL_len, SL_len]
  exact (congrArg List.length (spotsL_snoc _ _)).trans ((stepS'_len _ _).trans (by rw [upto_len]))
theorem tot_prod (ds : List Nat) : (tot ds : Int) = prodL (NL ds) := by
  induction ds using snoc_ind with
  | h0 => rfl
  | h1 ds d ih => rw [tot_snoc, NL_snoc, prodL_snoc, ← ih, Int.natCast_mul, Int.mul_comm]
theorem pl_bound (ds : List Nat) (s : List Int) (hb : ∀ (k : Nat), k < ds.length → ∃ a d, s[k]? = some a ∧ ds[k]? = some d ∧ 0 ≤ a ∧ a < (d : Int)) (i : Nat) (hi : i ≤ ds.length) : 0 ≤ plN s ds i ∧ plN s ds i < prodL (NL (ds.take i)) := by
  induction i with
  | zero => exact ⟨Int.le_refl 0, by show (0 : Int) < 1; decide⟩
  | succ i ih =>
    obtain ⟨h1, h2⟩ := ih (Nat.le_of_succ_le hi)
    obtain ⟨a, d, g1, g2, g3, g4⟩ := hb i hi
    rw [pl_step g1, prod_take g2]
    revert h1 h2
    generalize plN s ds i = x
    generalize prodL (NL (ds.take i)) = P
    intro h1 h2
    have hP : 0 ≤ P := Int.le_of_lt (Int.lt_of_le_of_lt h1 h2)
    refine ⟨Int.add_nonneg h1 (Int.mul_nonneg g3 hP), ?_⟩
    have h3 : (a + 1) * P ≤ (d : Int) * P := Int.mul_le_mul_of_nonneg_right g4 hP
    rw [Int.add_mul, Int.one_mul] at h3
    rw [Int.mul_comm P]
    exact Int.lt_of_lt_of_le (Int.add_lt_add_right h2 _) (by rw [Int.add_comm]; exact h3)
theorem its_get {T : Nat} {p : Int} (h0 : 0 ≤ p) (h1 : p < T) : pk (itsL T) p = .int (100 + p) := by
  obtain ⟨n, rfl⟩ := Int.eq_ofNat_of_zero_le h0
  unfold pk itsL
  rw [Int.toNat_natCast, List.getElem?_map, List.getElem?_range (Int.ofNat_lt.mp h1)]; rfl
theorem ax_get {w : Nat} {ixs : List AV} {ds : List Nat} {pss : List (List Int)} (hax : AxPart w ixs ds pss) {k : Nat} {ps : List Int} (h : pss[k]? = some ps) : ∃ d, ds[k]? = some d ∧ (∀ p ∈ ps, 0 ≤ p ∧ p < (d : Int)) ∧ d ≤ 3 ∧ ps.length ≤ 3 := by
  obtain ⟨ix, d, ps', g1, g2, g3, g4, g5, g6⟩ := hax.2.2 k (by rw [← hax.2.1]; exact (List.getElem?_eq_some_iff.mp h).1)
  rw [g3] at h
  cases h
  exact ⟨d, g2, g4.bound, g5, g6⟩
theorem ax_all {w : Nat} {ixs : List AV} {ds : List Nat} {pss : List (List Int)} (hax : AxPart w ixs ds pss) : ∀ ps ∈ pss, ps.length ≤ 3 ∧ ∀ p ∈ ps, 0 ≤ p ∧ p ≤ 2 := fun ps hp => by
  obtain ⟨k, hk⟩ := List.mem_iff_getElem?.mp hp
  obtain ⟨d, _, h1, h2, h3⟩ := ax_get hax hk
  exact ⟨h3, fun p hp => ⟨(h1 p hp).1, Int.le_of_lt_add_one (Int.lt_of_lt_of_le (h1 p hp).2 (Int.ofNat_le.mpr h2))⟩⟩
theorem spots_27 {w : Nat} (hw : w ≤ 3) {ixs : List AV} {ds : List Nat} {pss : List (List Int)} (hax : AxPart w ixs ds pss) : (spotsL pss).length ≤ 27 :=
  Nat.le_trans (spots_inv pss fun ps h => (ax_all hax ps h).1) (Nat.pow_le_pow_right (by decide : 3 > 0) (show pss.length ≤ 3 by rw [hax.2.1]; exact hw))
theorem pick_due {w : Nat} (hw : w ≤ 3) {ds : List Nat} (hl : ds.length = w) {ixs : List AV} {pss : List (List Int)} (hax : AxPart w ixs ds pss) :
    pick (itsL (tot ds)) (placesOf (NL ds) pss) = IL (dueL ds pss w) ∧ (∀ p ∈ placesOf (NL ds) pss, 0 ≤ p ∧ p < ((itsL (tot ds)).length : Int)) ∧ (placesOf (NL ds) pss).length ≤ 27 := by
  have hb : ∀ s ∈ spotsL pss, 0 ≤ plN s ds w ∧ plN s ds w < (tot ds : Int) := fun s hs => by
    have := pl_bound ds s (fun k hk => by
      have hk2 : k < s.length := by rw [spots_len pss s hs, hax.2.1, ← hl]; exact hk
      obtain ⟨ps, g1, g2⟩ := spots_mem pss s hs k s[k] (List.getElem?_eq_getElem hk2)
      obtain ⟨d, g3, g4, _⟩ := ax_get hax g1
      exact ⟨_, d, List.getElem?_eq_getElem hk2, g3, g4 _ g2⟩) w (by rw [hl]; exact Nat.le_refl _)
    rw [tot_prod, ← take_all hl]
    rw [take_all hl] at this ⊢
    exact this
  rw [places_eq ds pss (by rw [hax.2.1, hl]), hl]
  refine ⟨?_, fun p hp => ?_, ?_⟩
  · unfold pick IL dueL
    rw [List.map_map, List.map_map]
    exact List.map_congr_left fun s hs => its_get (hb s hs).1 (hb s hs).2
  · obtain ⟨s, hs, rfl⟩ := List.mem_map.mp hp
    rw [itsL_len]
    exact hb s hs
  · rw [List.length_map]
    exact spots_27 hw hax
theorem stride_bound (l : List Int) : l.length ≤ 3 → (∀ d ∈ l, 0 ≤ d ∧ d ≤ 3) → ∀ s ∈ strideL 1 l, 0 ≤ s ∧ s ≤ 27 := by
  induction l using snoc_ind with
  | h0 => exact fun _ _ => nofun
  | h1 l d ih =>
    intro hl hd s hs
    rw [List.length_append] at hl
    have hl : l.length ≤ 3 := Nat.le_of_succ_le hl
    have hd : ∀ x ∈ l, 0 ≤ x ∧ x ≤ 3 := fun x h => hd x (List.mem_append_left _ h)
    rw [prod_step] at hs
    rcases List.mem_append.mp hs with h | h
    · exact ih hl hd s h
    · rw [List.mem_singleton.mp h]; exact prod_le l hl hd
theorem sin {a b : List Int} (h : a = b) : some (LV.mlist (IL a)) = some (.mlist (IL b)) := by rw [h]
theorem NL_mem {ds : List Nat} (hd : ∀ d ∈ ds, 1 ≤ d ∧ d ≤ 3) : ∀ x ∈ NL ds, 0 ≤ x ∧ x ≤ 3 := fun x hx => by
  obtain ⟨y, hy, rfl⟩ := List.mem_map.mp hx
  exact ⟨Int.natCast_nonneg _, Int.ofNat_le.mpr (hd y hy).2⟩
theorem s14 (m : Nat) (ns : List Int) (w : Nat) (hw : w ≤ 3) (ds : List Nat) (hd : ds.length = w ∧ ∀ d ∈ ds, 1 ≤ d ∧ d ≤ 3) (ls : List AV) (T : LV) (at' : AV) (pss : List (List Int)) (ixs : List AV) (hax : AxPart w ixs ds pss) :
    LW m 14 (E13 ns w ds ls T at' pss ixs []) (E14 ns w ds ls T at' pss ixs (dueL ds pss w)) := by
  have hps := ax_all hax
  have c1 := fun m => c_spots m (pss.map fun ps => (AV.list (IL ps), ps)) (by rw [List.length_map, hax.2.1]; exact hw) (fun q hq => by
      obtain ⟨ps, hp, rfl⟩ := List.mem_map.mp hq
      exact ⟨.inr rfl, (hps ps hp).1⟩)
  rw [List.map_map, List.map_map] at c1
  have e2 : pss.map ((fun q : AV × List Int => q.2) ∘ fun ps => (AV.list (IL ps), ps)) = pss := List.map_id _
  rw [e2] at c1
  have hsl := spots_27 hw hax
  have hsw : ∀ s ∈ spotsL pss, s.length = w := fun s hs => (spots_len pss s hs).trans hax.2.1
  have hsb : ∀ s ∈ spotsL pss, ∀ (k : Nat) (a : Int), s[k]? = some a → 0 ≤ a ∧ a ≤ 2 := fun s hs k a ha => by
    obtain ⟨ps, g1, g2⟩ := spots_mem pss s hs k a ha
    exact (hps ps (List.mem_of_getElem? g1)).2 a g2
  unfold dueL
  revert hsl hsw hsb c1
  generalize spotsL pss = sp
  intro c1 hsl hsw hsb
  let inv : List (List Int) → St := fun done => E14 ns w ds ls T at' pss ixs (done.map fun s => 100 + plN s ds w)
  refine cut [hc (.ret (.mlist (SL sp))) _, hf .next (inv sp)] (A13 (c1 _) (forG (g := fun s => AV.list (IL s)) inv (A11 rfl rfl rfl rfl rfl rfl rfl rfl rfl rfl trivial) fun done s rest e => ?_) rfl rfl rfl rfl rfl rfl rfl rfl rfl rfl trivial)
  have hs := pre_mem e
  have hdl : (IL (done.map fun s => 100 + plN s ds w)).length ≤ lim := by
    rw [IL_len, List.length_map]
    exact Nat.le_trans (Nat.le_of_lt (pre_len e)) (Nat.le_trans hsl (by decide))
  have hmap : IL (done.map fun s => 100 + plN s ds w) ++ [.int (100 + plN s ds w)] = IL ((done ++ [s]).map fun s => 100 + plN s ds w) := by rw [IL_snoc, List.map_append]; rfl
  let inv2 : Nat → St := fun i => ("place", .tree (.int (plN s ds i))) :: ("step", .tree (.int (prodL (NL (ds.take i))))) :: ("spot", .tree (.list (IL s))) :: E14 ns w ds ls T at' pss ixs (done.map fun s => 100 + plN s ds w)
  refine ⟨[hls ((List.range w).map fun (i : Nat) => AV.int i), hf .next (inv2 w)], A14 (rng_w hw) (forR (g := fun i => AV.int i) inv2 (A14 rfl rfl rfl rfl rfl rfl rfl rfl rfl rfl rfl rfl rfl trivial) fun i hi => ?_) hdl (sml hmap) rfl rfl rfl rfl rfl rfl rfl rfl rfl trivial⟩
  obtain ⟨d, hdi⟩ : ∃ d, ds[i]? = some d := ⟨_, List.getElem?_eq_getElem (by rw [hd.1]; exact hi)⟩
  obtain ⟨a, hai⟩ : ∃ a, s[i]? = some a := ⟨_, List.getElem?_eq_getElem (by rw [hsw s hs]; exact hi)⟩
  have hdb := hd.2 d (List.mem_of_getElem? hdi)
  have hab := hsb s hs i a hai
  have hi3 : i ≤ lim := three (Nat.le_trans (Nat.le_of_lt hi) hw)
  have hp := prod_le (NL (ds.take i)) (by rw [NL_len, List.length_take]; exact Nat.le_trans (Nat.min_le_right _ _) (by rw [hd.1]; exact hw)) (NL_mem fun d h => hd.2 d (List.mem_of_mem_take h))
  have m2 : (prodL (NL (ds.take i))).natAbs < 2 ^ 60 := by omega
  exact ⟨[hv (.int a), hv (.int (d : Int))], A18 (sub_of (IL_get' hai) rfl hi3) ⟨by omega, m2⟩ (sub_of (IL_get' (NL_get hdi)) rfl hi3) ⟨m2, by omega⟩ (sti (pl_step hai).symm) (sti (prod_take hdi).symm) rfl rfl rfl rfl rfl rfl rfl rfl rfl rfl rfl trivial⟩
end Mini

namespace Mini
open PySem

noncomputable def VV (ds : List Nat) (ls : List AV) (tv : AV) : AV := .vec "integer" (.list (itsL (tot ds))) (shapeB (someL ls) (IL (NL ds)) ls tv)
theorem pickedL_get (dn : List AV) : ∀ (pss : List (List Int)) (i : Nat) (a : AV), (pickedL dn pss)[i]? = some a → ∃ d ps, dn[i]? = some d ∧ pss[i]? = some ps ∧ a = pickOne d ps := by
  induction dn with
  | nil => exact fun pss i a h => nomatch h
  | cons d dn ih =>
    intro pss i a h
    cases pss with
    | nil => cases h
    | cons ps pss =>
      cases i with
      | zero => cases h; exact ⟨d, ps, rfl, rfl, rfl⟩
      | succ i => exact ih pss i a h
theorem pickedL_some (dn : List AV) : ∀ (pss : List (List Int)), dn.length = pss.length → (∀ d ∈ dn, HdOk d) → someL (pickedL dn pss) = someL dn := by
  induction dn with
  | nil => exact fun _ _ _ => rfl
  | cons d dn ih =>
    intro pss h hd
    cases pss with
    | nil => cases h
    | cons ps pss =>
      show (!isNone (pickOne d ps) || someL (pickedL dn pss)) = (!isNone d || someL dn)
      rw [ih pss (Nat.succ.inj h) fun x hx => hd x (List.mem_cons_of_mem _ hx)]
      rcases hd d List.mem_cons_self with rfl | ⟨xs, rfl, _⟩ <;> rfl
theorem c_headsH (m : Nat) (k : Str) (i : AV) (ks : List Str) (vs : List AV) (j tv : AV) (ht : HdOk tv) (h : dictGet "dimnames" ks vs = some (.vec "list" j (headAttr tv))) :
    (interp tabV (m + 120)).C "heads_of_dimnames" [.tree (.vec k i (.dict ks vs))] = some (.ret (TL tv), .tree (.vec k i (.dict ks vs))) := by
  rcases ht with rfl | ⟨xs, rfl, hx⟩
  · exact c_heads1 m k i ks vs j h
  · exact c_heads2 m k i ks vs j _ xs .none (three hx) h
theorem nm_of {w : Nat} {ds : List Nat} (hd : ∀ d ∈ ds, 1 ≤ d ∧ d ≤ 3) {ls : List AV} (hls : LOk ds ls) {pss : List (List Int)} {ixs : List AV} (hax : AxPart w ixs ds pss) (i : Nat) (d : AV) (ps : List Int) (h1 : ls[i]? = some d) (h2 : pss[i]? = some ps) : NmOk d ps := by
  obtain ⟨dd, g1, g2⟩ := hls i d h1
  obtain ⟨d', q1, q2, _⟩ := ax_get hax h2
  rw [g1] at q1
  cases q1
  rcases g2 with rfl | rfl
  · exact .inl rfl
  · exact .inr ⟨_, rfl, by rw [nmL_len]; exact (hd dd (List.mem_of_getElem? g1)).2, fun p hp => by rw [nmL_len]; exact q2 p hp⟩
theorem ex_mem {w : Nat} {ixs : List AV} {ds : List Nat} {pss : List (List Int)} (hax : AxPart w ixs ds pss) : ∀ ps ∈ pss, ps.length ≤ 3 := fun ps h => (ax_all hax ps h).1
theorem vf_of {w : Nat} (hw2 : w = 2 ∨ w = 3) {ds : List Nat} (hd : ds.length = w ∧ ∀ d ∈ ds, 1 ≤ d ∧ d ≤ 3) {ls : List AV} (hl : ls.length = w) (hls : LOk ds ls) (hlo : ∀ a ∈ ls, HdOk a) {tv : AV} (ht : HdOk tv) {pss : List (List Int)} {ixs : List AV} (hax : AxPart w ixs ds pss) :
    ∃ P H : LV, ((someL ls = true ∧ P = .mlist (pickedL ls pss) ∧ H = TL tv) ∨ (someL ls = false ∧ P = .tree .none ∧ H = .tree .none)) ∧
      ∀ (dr : Bool) (L : LV), (∀ m, (interp tabV (m + 160)).C (saI dr) [.mvec "integer" (.list (IL (dueL ds pss w))) .none, .tree (.list (IL (EX pss))), .tree P.frz, .tree H.frz] = some (.next, L)) → ((∃ a, L = .tree a) ∨ (∃ k i a, L = .mvec k i a)) →
        ∀ m, (interp tabV (m + 260)).C "subset_any" [.tree (VV ds ls tv), .tree (.list ixs), .tree (.bool dr), .tree (.bool true)] = some (.ret L, .tree (VV ds ls tv)) := by
  have hw : w ≤ 3 := by omega
  have hds : ds.length ≤ 3 := by rw [hd.1]; exact hw
  have hpss : pss.length = ds.length := by rw [hax.2.1, hd.1]
  have hp3 : pss.length ≤ 3 := by rw [hpss]; exact hds
  have hpd := pick_due hw hd.1 hax
  have hps := ax_all hax
  have hT := tot_le ds hds hd.2
  have hAx : AxOk ixs ds pss := ⟨by rw [hax.1, hd.1], hpss, hds, fun k hk => hax.2.2 k (by rw [← hd.1]; exact hk)⟩
  have hNL := NL_mem hd.2
  have hN3 : (NL ds).length ≤ 3 := by rw [NL_len]; exact hds
  have cP := fun m => c_places m (NL ds) pss hN3 (by rw [NL_len, hd.1]; omega) hNL (by rw [NL_len, hpss]) hps (stride_bound _ hN3 hNL)
  have hT2 : (itsL (tot ds)).length ≤ lim := by rw [itsL_len]; exact Nat.le_trans hT (by decide)
  have hlr : (IL (NL ds)).length ≤ lim := by rw [IL_len]; exact three hN3
  have hp27 : (placesOf (NL ds) pss).length ≤ lim := Nat.le_trans hpd.2.2 (by decide)
  have h23 : ds.length = 2 ∨ ds.length = 3 := by rw [hd.1]; exact hw2
  rw [← hpd.1]
  unfold VV
  cases hS : someL ls with
  | false =>
    refine ⟨.tree .none, .tree .none, .inr ⟨rfl, rfl, rfl⟩, fun dr L c8 hL => ?_⟩
    have cD := fun m => c_dim1 m "integer" (.list (itsL (tot ds))) ["dim"] [dvec (NL ds)] "integer" (IL (NL ds)) .none (k_get1 _ _ _ _) hlr
    exact c_any _ _ _ _ rfl ds ixs dr L cD hAx.1 h23 fun m => c_sarr0 m dr _ _ _ ds ixs pss (.tree .none) (.tree .none) L _ rfl cD
      (fun m => c_axes0 m _ _ _ _ ixs ds pss (k_get5 _) hAx) cP (fun m => c_items_at m _ _ _ _ hT2 hp27 hpd.2.1) (fun m => c_picked0 m _ _ _ _ _ (k_get5 _)) (fun m => c_heads0 m _ _ _ _ (k_get5 _)) hp3 (ex_mem hax) (.inr rfl) c8 hL
  | true =>
    refine ⟨.mlist (pickedL ls pss), TL tv, .inl ⟨rfl, rfl, rfl⟩, fun dr L c8 hL => ?_⟩
    have cD := fun m => c_dim1 m "integer" (.list (itsL (tot ds))) ["dim", "dimnames"] [dvec (NL ds), .vec "list" (.list (ls.map valOf)) (headAttr tv)] "integer" (IL (NL ds)) .none (k_get1 _ _ _ _) hlr
    have hvi := val_isPart hlo
    have hvl : (ls.map valOf).length = ds.length := by rw [List.length_map, hl, hd.1]
    have hvp := val_part hlo
    have cK := fun m => c_picked1 m "integer" (.list (itsL (tot ds))) ["dim", "dimnames"] [dvec (NL ds), .vec "list" (.list (ls.map valOf)) (headAttr tv)] pss "list" (ls.map valOf) (headAttr tv) (k_get3 _ _) hvi (by rw [hvl, hpss]) hp3 (ex_mem hax) (by rw [hvp]; exact nm_of hd.2 hls hax)
    rw [hvp] at cK
    exact c_any _ _ _ _ rfl ds ixs dr L cD hAx.1 h23 fun m => c_sarr0 m dr _ _ _ ds ixs pss (.mlist (pickedL ls pss)) (TL tv) L _ rfl cD
      (fun m => c_axes1 m _ _ _ _ ixs ds pss _ _ _ (k_get3 _ _) hvi hvl hAx) cP (fun m => c_items_at m _ _ _ _ hT2 hp27 hpd.2.1) cK (fun m => c_headsH m _ _ _ _ _ tv ht (k_get3 _ _)) hp3 (ex_mem hax) (.inl ⟨_, rfl⟩) c8 hL

section
variable (ns : List Int) (w : Nat) (ds : List Nat) (ls : List AV) (T : LV) (V W0 W1 : AV) (pss : List (List Int)) (ixs : List AV) (due : List AV) (L0 L1 : LV) (pl : List AV)
noncomputable abbrev F15 : St := ("whole_part", L0) :: ("due", .mlist due) :: ("indexes", .tree (.list ixs)) :: ("picks", .tree (.list (LL pss))) :: ("v", .tree V) :: E0 ns w ds ls T
noncomputable abbrev F16 : St := ("dropped", L1) :: ("whole_part", L0) :: ("due", .mlist due) :: ("picks", .tree (.list (LL pss))) :: ("v", .tree V) :: E0 ns w ds ls T
noncomputable abbrev F17 : St := ("dropped", .tree W1) :: ("whole_part", .tree W0) :: ("picks", .tree (.list (LL pss))) :: ("v", .tree V) :: E0 ns w ds ls T
noncomputable abbrev F18 : St := ("counts", .mlist (IL (EX pss))) :: F17 ns w ds ls T V W0 W1 pss
noncomputable abbrev F19 : St := ("picked_lists", .mlist pl) :: F18 ns w ds ls T V W0 W1 pss
noncomputable abbrev F20 (tv : AV) : St := ("picked_lists", .tree (.list pl)) :: ("counts", .tree (.list (IL (EX pss)))) :: ("dropped", .tree W1) :: ("v", .tree V) :: E0 ns w ds ls (.tree tv)
noncomputable abbrev F21 (tv : AV) : St := ("stay", .mlist (KL (keptOf (EX pss)))) :: F20 ns w ds ls V W1 pss pl tv
noncomputable abbrev F22 (tv : AV) : St := ("v", .tree V) :: E0 ns w ds ls (.tree tv)
end
theorem s15 (m : Nat) (ns : List Int) (w : Nat) (ds : List Nat) (ls : List AV) (T : LV) (at' : AV) (pss : List (List Int)) (ixs : List AV) (due : List Int) (L : LV)
    (c1 : ∀ m, (interp tabV (m + 260)).C "subset_any" [.tree (.vec "integer" (.list (itsL (tot ds))) at'), .tree (.list ixs), .tree (.bool false), .tree (.bool true)] = some (.ret L, .tree (.vec "integer" (.list (itsL (tot ds))) at'))) :
    LW m 15 (E14 ns w ds ls T at' pss ixs due) (F15 ns w ds ls T (.vec "integer" (.list (itsL (tot ds))) at') pss ixs (IL due) L) := cut [hc (.ret L) _] (A13 (c1 _) rfl rfl rfl rfl rfl rfl rfl rfl rfl rfl rfl trivial)
theorem s16 (m : Nat) (ns : List Int) (w : Nat) (ds : List Nat) (ls : List AV) (T : LV) (V : AV) (pss : List (List Int)) (ixs due : List AV) (L0 L : LV)
    (c1 : ∀ m, (interp tabV (m + 260)).C "subset_any" [.tree V, .tree (.list ixs), .tree (.bool true), .tree (.bool true)] = some (.ret L, .tree V)) :
    LW m 16 (F15 ns w ds ls T V pss ixs due L0) (F16 ns w ds ls T V pss due L0 L) := cut [hc (.ret L) _] (A13 (c1 _) rfl rfl rfl rfl rfl rfl rfl rfl rfl rfl rfl trivial)
theorem s17 (m : Nat) (ns : List Int) (w : Nat) (ds : List Nat) (ls : List AV) (T : LV) (V : AV) (pss : List (List Int)) (due : List Int) (t0 t1 : AV) (L1 : LV) (hL1 : L1 = .tree (.vec "integer" (.list (IL due)) t1) ∨ L1 = .mvec "integer" (.list (IL due)) t1) :
    LW m 17 (F16 ns w ds ls T V pss (IL due) (.mvec "integer" (.list (IL due)) t0) L1) (F17 ns w ds ls T V (.vec "integer" (.list (IL due)) t0) (.vec "integer" (.list (IL due)) t1) pss) := by
  have q := eqAV_IL due
  rcases hL1 with rfl | rfl
  all_goals exact cut [hb true, hb true] (A13 q q rfl rfl rfl rfl rfl rfl rfl rfl rfl rfl trivial)
theorem s18 (m : Nat) (ns : List Int) (w : Nat) (ds : List Nat) (ls : List AV) (T : LV) (V W0 W1 : AV) (pss : List (List Int)) (hp : pss.length ≤ 3) (hps : ∀ ps ∈ pss, ps.length ≤ 3) :
    LW m 18 (F17 ns w ds ls T V W0 W1 pss) (F18 ns w ds ls T V W0 W1 pss) := cut [hu (IL (EX pss)) []] (A15 ⟨rfl, rfl⟩ (Ends.us (comp_map (l := pss) (q := fun ps => AV.list (IL ps)) "pick_row" (fun ps => AV.int ((IL ps).length : Int)) [] trivial fun ps h => by
        exact ⟨[], A3 (by rw [IL_len]; exact three (hps ps h)) rfl trivial⟩) (EX_map pss)) (by rw [IL_len, EX_len]; exact three hp) rfl rfl rfl rfl rfl rfl rfl rfl rfl rfl rfl trivial)
theorem pickedL_range (ls : List AV) : ∀ (pss : List (List Int)), ls.length = pss.length → (List.range ls.length).map (fun i => pickOne ((ls[i]?).getD .none) ((pss[i]?).getD [])) = pickedL ls pss := by
  induction ls with
  | nil => exact fun _ _ => rfl
  | cons d ls ih =>
    intro pss h
    cases pss with
    | nil => cases h
    | cons ps pss =>
      rw [List.length_cons, List.range_succ_eq_map, List.map_cons, List.map_map]
      exact congrArg (pickOne d ps :: ·) (ih pss (Nat.succ.inj h))
theorem s19 (m : Nat) (ns : List Int) (w : Nat) (hw : w ≤ 3) (ds : List Nat) (ls : List AV) (hls : ls.length = w) (T : LV) (V W0 W1 : AV) (pss : List (List Int)) (hp : pss.length = w) (hps : ∀ ps ∈ pss, ps.length ≤ 3) (hnm : ∀ (i : Nat) (d : AV) (ps : List Int), ls[i]? = some d → pss[i]? = some ps → NmOk d ps) :
    LW m 19 (F18 ns w ds ls T V W0 W1 pss) (F19 ns w ds ls T V W0 W1 pss (pickedL ls pss)) := by
  have hpk : (pickedL ls pss).length ≤ lim := by rw [pickedL_len ls pss (by rw [hls, hp]), hls]; exact three hw
  refine cut [Mini.hls ((List.range w).map fun (i : Nat) => AV.int i), hu (pickedL ls pss) [("lists", .tree (.list ls)), ("picks", .tree (.list (LL pss)))]] (A16 ⟨rfl, rfl⟩ (rng_w hw) (Ends.us (comp_map (l := List.range w) (q := fun (i : Nat) => AV.int i) "at" (fun i => pickOne ((ls[i]?).getD .none) ((pss[i]?).getD [])) [("lists", .tree (.list ls)), ("picks", .tree (.list (LL pss)))] (A3 rfl rfl trivial) fun i hi => ?_) (by rw [← hls]; exact pickedL_range ls pss (by rw [hls, hp]))) hpk
    rfl rfl rfl rfl rfl rfl rfl rfl rfl rfl rfl (A2 rfl trivial))
  have hi := List.mem_range.mp hi
  obtain ⟨d, g1⟩ : ∃ d, ls[i]? = some d := ⟨_, List.getElem?_eq_getElem (by rw [hls]; exact hi)⟩
  obtain ⟨ps, g2⟩ : ∃ ps, pss[i]? = some ps := ⟨_, List.getElem?_eq_getElem (by rw [hp]; exact hi)⟩
  have hi3 := three (Nat.le_trans (Nat.le_of_lt hi) hw)
  have k1 := sub_of g1 (z := (i : Int)) rfl hi3
  have k2 := sub_of (LL_get g2) (z := (i : Int)) rfl hi3
  have hpl := hps ps (List.mem_of_getElem? g2)
  have hn := hnm i d ps g1 g2
  rw [g1, g2]
  rcases hn with rfl | ⟨xs, rfl, hx, hb'⟩
  · exact ⟨[hv .none], A4 k1 rfl rfl (A2 rfl trivial)⟩
  · exact ⟨[hv (.list xs), hv (.list (IL ps)), hu (pick xs ps) [("lists", .tree (.list ls)), ("at", .tree (.int (i : Int)))]], A8 k1 ⟨rfl, rfl⟩ k2 (comp_map (l := ps) (q := AV.int) "spot" (pk xs) [("lists", .tree (.list ls)), ("at", .tree (.int (i : Int)))] (A3 rfl rfl trivial) fun p hp => by
      exact ⟨[hv (.list xs), hv (pk xs p)], A5 k1 (sub_at (hb' p hp) (three hx)) rfl rfl (A2 rfl trivial)⟩) (by rw [pick_len]; exact three hpl) rfl rfl (A2 rfl trivial)⟩
end Mini

namespace Mini
open PySem

theorem s20 (m : Nat) (ns : List Int) (w : Nat) (ds : List Nat) (ls : List AV) (T : LV) (tv : AV) (hT : T = .tree tv ∨ ∃ l, T = .mlist l ∧ tv = .list l) (V W0 W1 : AV) (pss : List (List Int)) (pl : List AV)
    (c1 : ∀ m, (interp tabV (m + 80)).C "_law_shape_holds" [.tree W0, .tree (.list (IL (EX pss))), .tree (.list pl), .tree tv] = some (.ret (.tree (.bool true)), .tree W0)) :
    LW m 20 (F19 ns w ds ls T V W0 W1 pss pl) (F20 ns w ds ls V W1 pss pl tv) := by
  rcases hT with rfl | ⟨l, rfl, rfl⟩
  all_goals exact cut [hc (.ret (.tree (.bool true))) _] (A12 (c1 _) rfl rfl rfl rfl rfl rfl rfl rfl rfl rfl trivial)
theorem s21 (m : Nat) (ns : List Int) (w : Nat) (hw : w ≤ 3) (ds : List Nat) (ls : List AV) (V W1 : AV) (pss : List (List Int)) (hp : pss.length = w) (pl : List AV) (tv : AV) :
    LW m 21 (F20 ns w ds ls V W1 pss pl tv) (F21 ns w ds ls V W1 pss pl tv) := by
  have e := EX_len pss
  rw [hp] at e
  have h3 : (EX pss).length ≤ 3 := by rw [e]; exact hw
  exact cut [hls ((List.range (EX pss).length).map fun (i : Nat) => AV.int i), hu (KL (keptOf (EX pss))) [("counts", .tree (.list (IL (EX pss))))]] (A16 ⟨rfl, rfl⟩ (by rw [e]; exact rng_w hw)
    (comp_kept "at" (EX pss) [("counts", .tree (.list (IL (EX pss))))] h3 (A2 rfl trivial) (fun z e g q => by exact ⟨[hv (.int e), hb true], A4 g q rfl (A2 rfl trivial)⟩) (fun z e g q => by exact ⟨[hv (.int e), hb false], A4 g q rfl (A2 rfl trivial)⟩)) (by rw [KL_len]; exact three (Nat.le_trans (kept_len _) h3)) rfl rfl rfl rfl rfl rfl rfl rfl rfl rfl rfl trivial)
theorem s22A (m : Nat) (ns : List Int) (w : Nat) (ds : List Nat) (ls : List AV) (V W1 : AV) (pss : List (List Int)) (hp : pss.length ≤ 3) (pl : List AV) (hpl : pl.length = pss.length) (tv : AV) (ht : tv = .none ∨ ∃ l, tv = .list l ∧ l.length = pss.length) (hk : 1 < (keptOf (EX pss)).length)
    (c1 : ∀ m, (interp tabV (m + 80)).C "_law_shape_holds" [.tree W1, .tree (.list (pickN (IL (EX pss)) (keptOf (EX pss)))), .tree (.list (pickN pl (keptOf (EX pss)))), .tree (pickO tv (keptOf (EX pss)))] = some (.ret (.tree (.bool true)), .tree W1)) :
    LW m 22 (F21 ns w ds ls V W1 pss pl tv) (F22 ns w ds ls V tv) := by
  have e := EX_len pss
  have hp' : (EX pss).length ≤ 3 := by rw [e]; exact hp
  have hl1 : (KL (keptOf (EX pss))).length ≤ lim := by rw [KL_len]; exact three (Nat.le_trans (kept_len _) hp')
  have hd : decide ((1 : Int) < ((KL (keptOf (EX pss))).length : Int)) = true := decide_eq_true (by rw [KL_len]; exact (Int.ofNat_lt.mpr hk : ((1 : Nat) : Int) < _))
  have hn : ∀ l : List AV, (pickN l (keptOf (EX pss))).length ≤ lim := fun l => by rw [pickN_len, ← KL_len]; exact hl1
  rcases ht with rfl | ⟨l, rfl, hl⟩
  · exact cut [hb true, hu (pickN (IL (EX pss)) (keptOf (EX pss))) [("counts", .tree (.list (IL (EX pss))))], hu (pickN pl (keptOf (EX pss))) [("picked_lists", .tree (.list pl))], hc (.ret (.tree (.bool true))) _]
      (A17 hl1 hd
        ⟨rfl, rfl⟩ (comp_pick "at" (IL (EX pss)) (keptOf (EX pss)) [("counts", .tree (.list (IL (EX pss))))] (A2 rfl trivial) (kept_lt (IL_len _)) (by rw [IL_len]; exact hp') fun z t q => by exact ⟨[hv t], A3 q rfl (A2 rfl trivial)⟩) (hn _)
        ⟨rfl, rfl⟩ (comp_pick "at" pl (keptOf (EX pss)) [("picked_lists", .tree (.list pl))] (A2 rfl trivial) (kept_lt (by rw [hpl, e])) (by rw [hpl]; exact hp) fun z t q => by exact ⟨[hv t], A3 q rfl (A2 rfl trivial)⟩) (hn _)
        (c1 _) rfl rfl rfl rfl rfl rfl rfl trivial)
  · exact cut [hb true, hu (pickN l (keptOf (EX pss))) [("titles", .tree (.list l))], hu (pickN (IL (EX pss)) (keptOf (EX pss))) [("counts", .tree (.list (IL (EX pss))))], hu (pickN pl (keptOf (EX pss))) [("picked_lists", .tree (.list pl))], hc (.ret (.tree (.bool true))) _]
      (A20 hl1 hd
        ⟨rfl, rfl⟩ (comp_pick "at" l (keptOf (EX pss)) [("titles", .tree (.list l))] (A2 rfl trivial) (kept_lt (by rw [hl, e])) (by rw [hl]; exact hp) fun z t q => by exact ⟨[hv t], A3 q rfl (A2 rfl trivial)⟩) (hn _)
        ⟨rfl, rfl⟩ (comp_pick "at" (IL (EX pss)) (keptOf (EX pss)) [("counts", .tree (.list (IL (EX pss))))] (A2 rfl trivial) (kept_lt (IL_len _)) (by rw [IL_len]; exact hp') fun z t q => by exact ⟨[hv t], A3 q rfl (A2 rfl trivial)⟩) (hn _)
        ⟨rfl, rfl⟩ (comp_pick "at" pl (keptOf (EX pss)) [("picked_lists", .tree (.list pl))] (A2 rfl trivial) (kept_lt (by rw [hpl, e])) (by rw [hpl]; exact hp) fun z t q => by exact ⟨[hv t], A3 q rfl (A2 rfl trivial)⟩) (hn _)
        (c1 _) rfl rfl rfl rfl rfl rfl rfl trivial)
theorem s22h (m : Nat) (ns : List Int) (w : Nat) (ds : List Nat) (ls : List AV) (V W1 : AV) (pss : List (List Int)) (hp : pss.length ≤ 3) (pl : List AV) (hpl : pl.length = pss.length) (hpo : ∀ a ∈ pl, HdOk a) (tv q : AV) (hq : qOf (EX pss) pl = q) :
    Ends (stepS (interp tabV (m + 379)) (nsF "law") "script" (hdS (tlS (elseS (lawS 22))))) (("heads", .tree .none) :: ("stay", .tree (.list (KL (keptOf (EX pss))))) :: F21 ns w ds ls V W1 pss pl tv) .next (("heads", .tree q) :: ("dropped", .tree W1) :: F22 ns w ds ls V tv) := by
  have e := EX_len pss
  have hp' : (EX pss).length ≤ 3 := by rw [e]; exact hp
  have hl1 : (KL (keptOf (EX pss))).length ≤ lim := by rw [KL_len]; exact three (Nat.le_trans (kept_len _) hp')
  have hl2 : pl.length ≤ lim := by rw [hpl]; exact three hp
  unfold qOf at hq
  by_cases hC : (keptOf (EX pss)).length = 1
  · rw [if_pos hC] at hq
    obtain ⟨k0, hk0⟩ : ∃ k0, keptOf (EX pss) = [k0] := List.length_eq_one_iff.mp hC
    have hk1 : k0 < pl.length := by rw [hpl, ← e]; exact kept_mem (by rw [hk0]; exact List.mem_cons_self)
    have h4 : decide (((KL (keptOf (EX pss))).length : Int) = 1) = true := decide_eq_true (by rw [KL_len, hC]; rfl)
    have g1 : subL (KL (keptOf (EX pss))) 0 = some (.int (k0 : Int)) := by rw [hk0]; exact sub_of (i := 0) rfl rfl (Nat.zero_le _)
    have g2 : subL pl (k0 : Int) = some q := by
      rw [hk0] at hq
      exact sub_of (by rw [← hq, List.getElem?_eq_getElem hk1]; show _ = some ((pl[k0]?).getD .none); rw [List.getElem?_eq_getElem hk1]; rfl) rfl (Nat.le_trans (Nat.le_of_lt hk1) hl2)
    exact cut [hb true, hv (.int (k0 : Int)), hv q] (A13 hl1 h4 g1 g2 rfl rfl rfl rfl rfl rfl rfl rfl (A2 rfl trivial))
  · rw [if_neg hC] at hq
    have h4 : decide (((KL (keptOf (EX pss))).length : Int) = 1) = false := decide_eq_false (by rw [KL_len]; exact fun q => hC (Int.ofNat.inj q))
    have hsl : (someR pl).length ≤ lim := Nat.le_trans (someR_len pl) hl2
    have key : (decide (((someR pl).length : Int) = 1) = true ∧ subL (someR pl) 0 = some q) ∨ (decide (((someR pl).length : Int) = 1) = false ∧ q = .none) := by
      unfold onlyL at hq
      revert hq
      cases someR pl with
      | nil => exact fun hq => .inr ⟨rfl, hq.symm⟩
      | cons a r =>
        cases r with
        | nil => exact fun hq => .inl ⟨rfl, sub_of (i := 0) (congrArg some hq) rfl (Nat.zero_le _)⟩
        | cons b r => exact fun hq => .inr ⟨decide_eq_false (by rw [List.length_cons, List.length_cons]; omega), hq.symm⟩
    rcases key with ⟨h5, h6⟩ | ⟨h5, rfl⟩
    · exact cut [hb false, hu (someR pl) [], hb true, hv q] (A17 hl1 h4 ⟨rfl, rfl⟩ (comp_some pl hpo (by exact ⟨[], A2 rfl trivial⟩) (by exact fun xs => ⟨[], A2 rfl trivial⟩)) hsl hsl h5 h6 rfl rfl rfl rfl rfl rfl rfl rfl (A2 rfl trivial))
    · exact cut [hb false, hu (someR pl) [], hb false] (A16 hl1 h4 ⟨rfl, rfl⟩ (comp_some pl hpo (by exact ⟨[], A2 rfl trivial⟩) (by exact fun xs => ⟨[], A2 rfl trivial⟩)) hsl hsl h5 rfl rfl rfl rfl rfl rfl rfl rfl (A2 rfl trivial))
theorem k_nm : eqAV (.list [.str (Str.ofString "names")]) (.list [.str (Str.ofString "names")]) = some true := eqAV_refl (eq6 fun a h => by rw [List.mem_singleton.mp h]; exact sOk_ok rfl)
theorem s22B (m : Nat) (ns : List Int) (w : Nat) (ds : List Nat) (ls : List AV) (V : AV) (due : AV) (pss : List (List Int)) (hp : pss.length ≤ 3) (pl : List AV) (hpl : pl.length = pss.length) (hpo : ∀ a ∈ pl, HdOk a) (tv q : AV) (hq : qOf (EX pss) pl = q) (hqo : HdOk q) (hqe : AV.eqable 6 q = true) (hk : ¬ 1 < (keptOf (EX pss)).length) :
    LW m 22 (F21 ns w ds ls V (.vec "integer" due (headAttr q)) pss pl tv) (F22 ns w ds ls V tv) := by
  have h := s22h m ns w ds ls V (.vec "integer" due (headAttr q)) pss hp pl hpl hpo tv q hq
  have hl1 : (KL (keptOf (EX pss))).length ≤ lim := by rw [KL_len]; exact three (Nat.le_trans (kept_len _) (by rw [EX_len]; exact hp))
  have hd : decide ((1 : Int) < ((KL (keptOf (EX pss))).length : Int)) = false := decide_eq_false (by rw [KL_len]; exact fun q => hk (Int.ofNat_lt.mp (show ((1 : Nat) : Int) < _ from q)))
  rcases hqo with rfl | ⟨xs, rfl, _⟩
  · exact cut [hb false, hsk, Mini.hk _, hb true] (A12 hl1 hd h rfl rfl rfl rfl rfl rfl rfl rfl trivial)
  · exact cut [hb false, hsk, Mini.hk _, hv _, hb true, hb true] (A15 hl1 hd h (k_get1 _ _ _ _) (eqAV_refl hqe) (by decide) k_nm rfl rfl rfl rfl rfl rfl rfl trivial)
end Mini

namespace Mini
open PySem

theorem eq_none (n : Nat) : AV.eqable n .none = true := by cases n <;> rfl
theorem xyz_eq (w n : Nat) : ∀ a ∈ xyz w, AV.eqable n a = true := by
  have h : ∀ a ∈ [AV.str "X", AV.str "Y", AV.str "Z"], AV.eqable n a = true := List.forall_mem_cons.mpr ⟨eqs_of n _ (sOk_ok rfl), List.forall_mem_cons.mpr ⟨eqs_of n _ (sOk_ok rfl), List.forall_mem_cons.mpr ⟨eqs_of n _ (sOk_ok rfl), nofun⟩⟩⟩
  exact fun a ha => h a (List.mem_of_mem_take ha)
theorem tv_ok {w : Nat} (hw : w ≤ 3) {tv : AV} (ht : TvOk w tv) : HdOk tv ∧ AV.eqable 6 tv = true := by
  rcases ht with rfl | rfl
  · exact ⟨.inl rfl, rfl⟩
  · exact ⟨.inr ⟨_, rfl, by rw [xyz_len hw]; exact hw⟩, eq6 (xyz_eq w 5)⟩
theorem pickN_mem {xs : List AV} {ks : List Nat} {a : AV} (h : a ∈ pickN xs ks) : a = .none ∨ a ∈ xs := by
  obtain ⟨k, _, rfl⟩ := List.mem_map.mp h
  cases q : xs[k]? with
  | none => exact .inl rfl
  | some b => exact .inr (List.mem_of_getElem? q)
theorem pickN_eq {n : Nat} {xs : List AV} (h : ∀ a ∈ xs, AV.eqable n a = true) (ks : List Nat) : ∀ a ∈ pickN xs ks, AV.eqable n a = true := fun a ha => by
  rcases pickN_mem ha with rfl | m
  · exact eq_none n
  · exact h a m
theorem pl_each {w : Nat} (hw : w ≤ 3) {ds : List Nat} (hd : ∀ d ∈ ds, 1 ≤ d ∧ d ≤ 3) {ls : List AV} (hl : ls.length = w) (hls : LOk ds ls) {pss : List (List Int)} (hps : ∀ ps ∈ pss, ps.length ≤ 3) : ∀ a ∈ pickedL ls pss, HdOk a ∧ ∀ n, AV.eqable (n + 1) a = true := fun a ha => by
  obtain ⟨i, hi⟩ := List.mem_iff_getElem?.mp ha
  obtain ⟨d, ps, g1, g2, rfl⟩ := pickedL_get _ _ _ _ hi
  obtain ⟨dd, q1, q2⟩ := hls i d g1
  have hi3 : i < 3 := Nat.lt_of_lt_of_le (List.getElem?_eq_some_iff.mp g1).1 (by rw [hl]; exact hw)
  rcases q2 with rfl | rfl
  · exact ⟨.inl rfl, fun n => rfl⟩
  · refine ⟨.inr ⟨_, rfl, by rw [pick_len]; exact hps ps (List.mem_of_getElem? g2)⟩, fun n => eq6 fun a ha => ?_⟩
    obtain ⟨p, hp, rfl⟩ := List.mem_map.mp ha
    show AV.eqable n (((nmL i dd)[p.toNat]?).getD .none) = true
    cases q : (nmL i dd)[p.toNat]? with
    | none => exact eq_none n
    | some b => exact nmL_ok n i dd hi3 (hd dd (List.mem_of_getElem? q1)).2 b (List.mem_of_getElem? q)
theorem pickN_IL (ex : List Int) : ∃ cnt, pickN (IL ex) (keptOf ex) = IL cnt := by
  refine ⟨(keptOf ex).map fun k => (ex[k]?).getD 0, ?_⟩
  unfold pickN IL
  rw [List.map_map]
  refine List.map_congr_left fun k hk => ?_
  rw [List.getElem?_map]
  show _ = AV.int ((ex[k]?).getD 0)
  rw [List.getElem?_eq_getElem (kept_mem hk)]; rfl
theorem someL_false {ls : List AV} (h : someL ls = false) : ∀ a ∈ ls, a = .none := fun a ha => by
  have := List.any_eq_false.mp h a ha
  cases a <;> first | rfl | exact absurd rfl this
theorem someL_nil {ls : List AV} (h : ∀ a ∈ ls, a = .none) : someL ls = false := List.any_eq_false.mpr fun a ha => by rw [h a ha]; exact nofun
theorem s22 (m : Nat) (ns : List Int) {w : Nat} (hw : w ≤ 3) (ds : List Nat) (ls : List AV) (V due : AV) {tv : AV} (ht : TvOk w tv) {pss : List (List Int)} (hp : pss.length = w) {pl : List AV} (hpl : pl.length = w) (hpo : ∀ a ∈ pl, HdOk a ∧ ∀ n, AV.eqable (n + 1) a = true) (b : Bool) (hb : someL pl = b)
    (P H : LV) (hPH : (b = true ∧ P = .mlist pl ∧ H = TL tv) ∨ (b = false ∧ P = .tree .none ∧ H = .tree .none)) :
    LW m 22 (F21 ns w ds ls V (.vec "integer" due (dropAt (EX pss) P.frz H.frz)) pss pl tv) (F22 ns w ds ls V tv) := by
  have hp3 : pss.length ≤ 3 := by rw [hp]; exact hw
  have hkl : (keptOf (EX pss)).length ≤ 3 := Nat.le_trans (kept_len _) (by rw [EX_len]; exact hp3)
  have hpp : pl.length = pss.length := by rw [hpl, hp]
  unfold dropAt
  cases hk : decide (1 < (keptOf (EX pss)).length) with
  | true =>
    have hx := xyz_len hw
    refine s22A m ns w ds ls V _ pss hp3 pl hpp tv ?_ (of_decide_eq_true hk) fun m => ?_
    · rcases ht with rfl | rfl
      · exact .inl rfl
      · exact .inr ⟨_, rfl, by rw [hx, hp]⟩
    obtain ⟨cnt, e⟩ := pickN_IL (EX pss)
    rw [e]
    have htv : HdOk (pickO tv (keptOf (EX pss))) ∧ AV.eqable 6 (pickO tv (keptOf (EX pss))) = true := by
      rcases ht with rfl | rfl
      · exact ⟨.inl rfl, rfl⟩
      · exact ⟨.inr ⟨_, rfl, by rw [pickN_len]; exact hkl⟩, eq6 (pickN_eq (xyz_eq w 5) _)⟩
    refine c_holds m "integer" due cnt _ _ _ _ (pickN_LsOk ⟨by rw [hpl]; exact hw, fun a h => (hpo a h).1⟩ hkl) (eq6 (pickN_eq (fun a h => (hpo a h).2 4) _)) htv.1 htv.2 ?_
    rcases hPH with ⟨_, rfl, rfl⟩ | ⟨rfl, rfl, rfl⟩
    · have eH : (TL tv).frz = tv := by rcases ht with rfl | rfl <;> rfl
      rw [eH]
      cases hS : someL (pickN pl (keptOf (EX pss))) with
      | true => exact .inl ⟨rfl, rfl, rfl⟩
      | false => exact .inr ⟨rfl, .inr rfl⟩
    · refine .inr ⟨someL_nil fun a ha => ?_, .inl rfl⟩
      rcases pickN_mem ha with h | h
      · exact h
      · exact someL_false hb a h
  | false =>
    have hqo : qOf (EX pss) pl = .none ∨ qOf (EX pss) pl ∈ pl := by
      unfold qOf
      by_cases hC : (keptOf (EX pss)).length = 1
      · rw [if_pos hC]
        cases hh : (pickN pl (keptOf (EX pss))).head? with
        | none => exact .inl rfl
        | some b => exact pickN_mem (List.mem_of_mem_head? hh)
      · rw [if_neg hC]
        unfold onlyL
        cases q : someR pl with
        | nil => exact .inl rfl
        | cons a r => cases r with
          | nil => exact .inr (someR_mem (by rw [q]; exact List.mem_cons_self))
          | cons b r => exact .inl rfl
    have hq2 : HdOk (qOf (EX pss) pl) ∧ AV.eqable 6 (qOf (EX pss) pl) = true := by
      rcases hqo with h | h
      · rw [h]; exact ⟨.inl rfl, rfl⟩
      · exact ⟨(hpo _ h).1, (hpo _ h).2 5⟩
    have key := s22B m ns w ds ls V due pss hp3 pl hpp (fun a h => (hpo a h).1) tv _ rfl hq2.1 hq2.2 (of_decide_eq_false hk)
    rcases hPH with ⟨_, rfl, rfl⟩ | ⟨rfl, rfl, rfl⟩
    · exact key
    · have : qOf (EX pss) pl = .none := by
        rcases hqo with h | h
        · exact h
        · exact someL_false hb _ h
      rw [this] at key
      exact key
theorem itsL_IL (T : Nat) : itsL T = IL ((List.range T).map fun (i : Nat) => 100 + (i : Int)) := by unfold itsL IL; rw [List.map_map]; rfl
theorem pure_law : PureLaw := fun ns hn => by
  obtain ⟨cs, hc0, e0⟩ := s0 18 ns hn
  obtain ⟨w, hw2, e1⟩ := s1 18 ns cs hc0
  have hw : w ≤ 3 := by omega
  have hc1 := dropN_len cs hc0 1
  obtain ⟨ds, hd, e2⟩ := s2 18 ns cs.dropLast hc1 w hw
  have hc2 := dropN_len cs.dropLast hc1 w
  have hds : ds.length ≤ 3 := by rw [hd.1]; exact hw
  have e4 := s4 18 ns (dropN w cs.dropLast) hc2 w hw ds hd
  have hc3 := dropN_len (dropN w cs.dropLast) hc2 w
  have hls := lsF_ok (dropN w cs.dropLast) ds
  rw [hd.1] at hls
  have hll : (lsF (dropN w cs.dropLast) ds w).length = w := by unfold lsF; rw [List.length_map, List.length_range]
  have e3 := s3 18 ns (dropN w cs.dropLast) w ds
  revert e4 hls hll hc3
  generalize lsF (dropN w cs.dropLast) ds w = ls
  generalize dropN w (dropN w cs.dropLast) = c3
  intro e4 hc3 hls hll
  obtain ⟨tv, ht, e5⟩ := s5 18 ns c3 hc3 w hw ds ls
  have hc4 := dropN_len c3 hc3 1
  have hT := tot_le ds hds hd.2
  have e6 := s6 18 ns c3.dropLast w hw ds hd ls (TL tv)
  have e7 := s7 18 ns c3.dropLast w ds hT ls (TL tv)
  have e8 := s8 18 ns c3.dropLast w ds hds ls (TL tv)
  have hea := hls.each (by rw [hll]; exact hw) hd.2
  have hlo := fun a h => (hea a h).1
  obtain ⟨T, hTT, e9⟩ := s9 18 ns c3.dropLast w hw ds ls (by rw [hll]; exact hw) hea tv ht
  have e10 := s10 18 ns c3.dropLast w ds ls T (shapeB (someL ls) (IL (NL ds)) ls tv)
  have e11 := s11 18 ns c3.dropLast w ds ls T (shapeB (someL ls) (IL (NL ds)) ls tv)
  obtain ⟨pss, ixs, c4, hax, e12⟩ := s12 18 ns c3.dropLast hc4 w hw ds hd ls T (shapeB (someL ls) (IL (NL ds)) ls tv)
  have e13 := s13 18 ns c4 w ds ls T (shapeB (someL ls) (IL (NL ds)) ls tv) pss ixs
  have e14 := s14 18 ns w hw ds hd ls T (shapeB (someL ls) (IL (NL ds)) ls tv) pss ixs hax
  have htv := tv_ok hw ht
  obtain ⟨P, H, hPH, hV⟩ := vf_of hw2 hd hll hls hlo htv.1 hax
  have hps := ex_mem hax
  have hp := hax.2.1
  have hp3 : pss.length ≤ 3 := by rw [hp]; exact hw
  have hpl := pickedL_len ls pss (by rw [hll, hp])
  rw [hll] at hpl
  have hpe := pl_each hw hd.2 hll hls hps
  have hsome := pickedL_some ls pss (by rw [hll, hp]) hlo
  have hFP : (P.frz = .none ∨ ∃ l, P.frz = .list l ∧ LsOk l ∧ l.length = (EX pss).length) ∧ (H.frz = .none ∨ ∃ l, H.frz = .list l ∧ l.length = (EX pss).length) := by
    rw [EX_len, hp]
    rcases hPH with ⟨_, rfl, rfl⟩ | ⟨_, rfl, rfl⟩
    · refine ⟨.inr ⟨_, rfl, ⟨by rw [hpl]; exact hw, fun a h => (hpe a h).1⟩, hpl⟩, ?_⟩
      rcases ht with rfl | rfl
      · exact .inl rfl
      · exact .inr ⟨_, rfl, xyz_len hw⟩
    · exact ⟨.inl rfl, .inl rfl⟩
  have hex : (EX pss).length ≤ 3 := by rw [EX_len]; exact hp3
  have hPo : LsO P.frz := by
    rcases hFP.1 with h | ⟨l, h, h2, _⟩
    · exact .inl h
    · exact .inr ⟨l, h, h2⟩
  have hHo : HdOk H.frz := by
    rcases hFP.2 with h | ⟨l, h, h2⟩
    · exact .inl h
    · exact .inr ⟨l, h, by rw [h2]; exact hex⟩
  have cS := fun m => c_shape (m + 40) "integer" (.list (IL (dueL ds pss w))) .none (IL (EX pss)) P.frz H.frz (by rw [IL_len]; exact hex) hPo hHo
  obtain ⟨L1, cD, fL1, gL1⟩ := c_dropped "integer" (.list (IL (dueL ds pss w))) (EX pss) P.frz H.frz hex hFP.1 hFP.2
  have a0 := hV false _ cS (.inr ⟨_, _, _, rfl⟩)
  have a1 := hV true L1 cD (by
    rcases gL1 with h | ⟨a, h⟩
    · exact .inl h
    · exact .inr ⟨_, _, a, h⟩)
  have e15 := s15 18 ns w ds ls T _ pss ixs (dueL ds pss w) _ a0
  have e16 := s16 18 ns w ds ls T _ pss ixs (IL (dueL ds pss w)) (.mvec "integer" (.list (IL (dueL ds pss w))) (shapeAt (IL (EX pss)) P.frz H.frz)) L1 a1
  have e17 := s17 18 ns w ds ls T (VV ds ls tv) pss (dueL ds pss w) (shapeAt (IL (EX pss)) P.frz H.frz) (dropAt (EX pss) P.frz H.frz) L1 (by
    rcases gL1 with ⟨a, rfl⟩ | ⟨a, rfl⟩
    · exact .inl (congrArg LV.tree fL1)
    · cases fL1; exact .inr rfl)
  have e18 := s18 18 ns w ds ls T (VV ds ls tv) (.vec "integer" (.list (IL (dueL ds pss w))) (shapeAt (IL (EX pss)) P.frz H.frz)) (.vec "integer" (.list (IL (dueL ds pss w))) (dropAt (EX pss) P.frz H.frz)) pss hp3 hps
  have e19 := s19 18 ns w hw ds ls hll T (VV ds ls tv) (.vec "integer" (.list (IL (dueL ds pss w))) (shapeAt (IL (EX pss)) P.frz H.frz)) (.vec "integer" (.list (IL (dueL ds pss w))) (dropAt (EX pss) P.frz H.frz)) pss hp hps (nm_of hd.2 hls hax)
  have e20 := s20 18 ns w ds ls T tv hTT (VV ds ls tv) (.vec "integer" (.list (IL (dueL ds pss w))) (shapeAt (IL (EX pss)) P.frz H.frz)) (.vec "integer" (.list (IL (dueL ds pss w))) (dropAt (EX pss) P.frz H.frz)) pss (pickedL ls pss)
    (fun m => c_holds m "integer" _ (EX pss) (pickedL ls pss) tv P.frz H.frz ⟨by rw [hpl]; exact hw, fun a h => (hpe a h).1⟩ (eq6 fun a h => (hpe a h).2 4) htv.1 htv.2 (by
      rw [hsome]
      rcases hPH with ⟨h, rfl, rfl⟩ | ⟨h, rfl, rfl⟩
      · exact .inl ⟨h, rfl, by rcases ht with rfl | rfl <;> rfl⟩
      · exact .inr ⟨h, .inl rfl⟩))
  have e21 := s21 18 ns w hw ds ls (VV ds ls tv) (.vec "integer" (.list (IL (dueL ds pss w))) (dropAt (EX pss) P.frz H.frz)) pss hp (pickedL ls pss) tv
  have e22 := s22 18 ns hw ds ls (VV ds ls tv) (.list (IL (dueL ds pss w))) ht hp hpl hpe (someL ls) hsome P H hPH
  have q1 : eqAV (.list (itsL (tot ds))) (.list (itsL (tot ds))) = some true := by rw [itsL_IL]; exact eqAV_IL _
  have cV := fun m => c_holds m "integer" (.list (itsL (tot ds))) (NL ds) ls tv (.list ls) tv ⟨by rw [hll]; exact hw, hlo⟩ (eq6 fun a h => (hea a h).2) htv.1 htv.2 (by
    cases hS : someL ls with
    | true => exact .inl ⟨rfl, rfl, rfl⟩
    | false => exact .inr ⟨rfl, .inr rfl⟩)
  refine ⟨_, fn (m := 18) (k := 381) [hk _, hk _, hk _, hk _, hk _, hk _, hk _, hk _, hk _, hk _, hk _, hk _, hk _, hk _, hk _, hk _, hk _, hk _, hk _, hk _, hk _, hk _, hk _, Mini.hls (itsL (tot ds)), hb true, hc (.ret (.tree (.bool true))) _]
    (A23 e0 e1 e2 e3 e4 e5 e6 e7 e8 e9 e10 e11 e12 e13 e14 e15 e16 e17 e18 e19 e20 e21 (A6 e22 (its_rng _ hT) q1 (cV _) rfl rfl))⟩
end Mini

theorem PySem.Challenge.cw_pq1328_01_holds : PySem.Challenge.rw_pq1328_01.Holds :=
  Mini.fin Mini.pure_law
